import PyProof.Rows.All
import Wide.All
import OpenK.AllK
import Wide.FinOn
import HandS.ForMost
import HandS.WordsExc
import HandS.Wide
import HandS.Defaults
import HandS.HeadHook1
import HandS.Zip
import HandS.TupAny
import HandS.IsInst
import HandS.Gcd
import HandS.TupMul
import HandS.TupLen
import HandS.TryOnly
import HandS.Deep
import HandS.Style
import HandS.ExcInit
import HandS.HeadHook2
import HandS.DictComp
import HandS.HeadEnd
import HandS.EndBits
import HandS.Head0
import HandS.Head1
import HandS.Head2
import HandS.Head3
import PySem.Challenge.RW_sidebooks_k28_whole_merged_books
set_option Elab.async false
set_option linter.all false
set_option maxRecDepth 100000
set_option maxHeartbeats 1000000
/-! DL: a layer over the hand layer: values as data (tuples and lists that are not changed, of any depth), changed lists by places in a store of their own; each expression's and statement's meaning is a plain Lean function. -/
namespace DL
open PySem PySem.Spec PyProof.Rows L2

/-! ### values and stores -/
abbrev D := PyData
/-- a value: data; the i-th thing of the store; a caught exception, its class by name, its value; the script; a tuple of integers that the module holds; a new tuple of data and things of the store -/
inductive Val where
  | d (x : D) | r (i : Nat) | x (c : Str) (v : D) | s (ns : List Int) | c (ns : List Int) | t (ms : List (Sum D Nat))
inductive MO where
  | lst (xs : List D) | dic (t : Bool) (kvs : List (D × D))
abbrev Hs := List MO
inductive R (α : Type) where
  | ok (a : α) (h : Hs) | ex (c : Str) (v : D) (h : Hs) | no
abbrev Env := List (Option Val)
/-- a statement's end -/
inductive S where
  | nx (ρ : Env) (h : Hs) | rt (v : Val) (h : Hs) | bk (ρ : Env) (h : Hs) | ct (ρ : Env) (h : Hs) | ex (c : Str) (v : D) (ρ : Env) (h : Hs) | no

def R.bind {α β : Type} (r : R α) (k : α → Hs → R β) : R β := match r with
  | .ok a h => k a h
  | .ex c v h => .ex c v h
  | .no => .no
@[simp] theorem R.bind_ok {α β : Type} (a : α) (h : Hs) (k : α → Hs → R β) : (R.ok a h).bind k = k a h := rfl
@[simp] theorem R.bind_ex {α β : Type} (c : Str) (v : D) (h : Hs) (k : α → Hs → R β) : (R.ex c v h).bind k = .ex c v h := rfl
@[simp] theorem R.bind_no {α β : Type} (k : α → Hs → R β) : (R.no).bind k = .no := rfl
/-- an optional result at a store -/
def R.opt {α : Type} (o : Option α) (h : Hs) : R α := match o with
  | some a => .ok a h
  | none => .no
@[simp] theorem R.opt_some {α : Type} (a : α) (h : Hs) : R.opt (some a) h = .ok a h := rfl
@[simp] theorem R.opt_none {α : Type} (h : Hs) : R.opt (none : Option α) h = .no := rfl

/-! ### how data stands in the heap -/
def keyD : Key → D
  | .inl i => .int i
  | .inr x => .str x
/-- the tuples that the module's own constants are -/
def isCon : List D → Bool
  | [.int 0, .int 1] => true
  | [.int (-1), .int 0, .int 1] => true
  | _ => false
section
variable (K : PySem.W.Frag) (α : List Addr) (H : Hp)
mutual
/-- v is the data d; no list or dict in it stands at one of the places α -/
inductive Rep : V → D → Prop
  | non : Rep .non .none
  | bl (b : Bool) : Rep (.bl b) (.bool b)
  | int (i : Int) : Rep (.int i) (.int i)
  | str (x : Str) : Rep (.str x) (.str x)
  | lst {a : Addr} {xs : List V} {ds : List D} : H a = some (.lst xs) → a ∉ α → RepAll xs ds → Rep (.ref a) (.list ds)
  | tup {a : Addr} {xs : List V} {ds : List D} : H a = some (.tup xs) → RepAll xs ds → Rep (.ref a) (.tuple ds)
  | con {a : Addr} {xs : List V} {ds : List D} : SqT K H a xs → isCon ds = true → RepAll xs ds → Rep (.ref a) (.tuple ds)
  | dK {a : Addr} {kvs : List (Key × V)} {ds : List D} : H a = some (.dK kvs) → a ∉ α → RepAll (kvs.map (·.2)) ds → Rep (.ref a) (.dict ((kvs.map fun p => keyD p.1).zip ds))
  | dT {a : Addr} {kvs : List (List Key × V)} {ds : List D} : H a = some (.dT kvs) → a ∉ α → RepAll (kvs.map (·.2)) ds → Rep (.ref a) (.dict ((kvs.map fun p => PyData.tuple (p.1.map keyD)).zip ds))
inductive RepAll : List V → List D → Prop
  | nil : RepAll [] []
  | cons {v : V} {vs : List V} {d : D} {ds : List D} : Rep v d → RepAll vs ds → RepAll (v :: vs) (d :: ds)
end
/-- what stands at a place of the store -/
inductive MRep (a : Addr) : MO → Prop
  | lst {xs : List V} {ds : List D} : H a = some (.lst xs) → RepAll K α H xs ds → MRep a (.lst ds)
  | dK {kvs : List (Key × V)} {ds : List D} : H a = some (.dK kvs) → RepAll K α H (kvs.map (·.2)) ds → MRep a (.dic false ((kvs.map fun p => keyD p.1).zip ds))
  | dT {kvs : List (List Key × V)} {ds : List D} : H a = some (.dT kvs) → RepAll K α H (kvs.map (·.2)) ds → MRep a (.dic true ((kvs.map fun p => PyData.tuple (p.1.map keyD)).zip ds))
/-- what an exception carries -/
def ExcOk (cls : Value) (dd : Option Addr) (c : Str) (d : D) : Prop := cls = .ref (He.ga K c) ∧ ∃ (da : Addr) (w : V), dd = some da ∧ H da = some (.xd [(("value" : Str), w)]) ∧ Rep K α H w d
/-- a caught exception's object: of the class at C, its own dict at dd -/
def ExcO (a C dd : Addr) : HO := .ext fun h => ∃ (oe : Obj) (vs : Array Value), h.get? a = some oe ∧ Zc (.ref C) (some dd) oe ∧ oe.data = .fields vs
end
section
variable (K : PySem.W.Frag) (ζ ι : List Addr) (H : Hp)
/-- the store hs at the places ι; ζ: lists in the making -/
structure Sim (hs : Hs) : Prop where
  nd : (ζ ++ ι).Nodup
  len : ι.length = hs.length
  at_ : ∀ (i : Nat) (a : Addr) (m : MO), ι[i]? = some a → hs[i]? = some m → MRep K (ζ ++ ι) H a m
  ap : ∀ a ∈ ζ, (∃ xs, H a = some (.lst xs)) ∨ (∃ k, H a = some (.dK k)) ∨ (∃ k, H a = some (.dT k))
/-- the items of a new tuple -/
inductive TRepAll : List V → List (Sum D Nat) → Prop
  | nil : TRepAll [] []
  | d {v : V} {x : D} {vs : List V} {ms : List (Sum D Nat)} : Rep K (ζ ++ ι) H v x → TRepAll vs ms → TRepAll (v :: vs) (.inl x :: ms)
  | r {a : Addr} {i : Nat} {vs : List V} {ms : List (Sum D Nat)} : ι[i]? = some a → TRepAll vs ms → TRepAll (.ref a :: vs) (.inr i :: ms)
inductive VRep : V → Val → Prop
  | d {v : V} {x : D} : Rep K (ζ ++ ι) H v x → VRep v (.d x)
  | r {a : Addr} {i : Nat} : ι[i]? = some a → VRep (.ref a) (.r i)
  | x {a dd : Addr} {c : Str} {w : V} {d : D} : H a = some (ExcO a (He.ga K c) dd) → H dd = some (.xd [(("value" : Str), w)]) → Rep K (ζ ++ ι) H w d → VRep (.ref a) (.x c d)
  | s {a : Addr} {ns : List Int} : (∃ o, H a = some (.frz o (.lst (ns.map V.int)))) ∨ (∀ H' : Hp, SqL K H' a (ns.map V.int)) → VRep (.ref a) (.s ns)
  | c {a : Addr} {ns : List Int} : (∀ H' : Hp, SqT K H' a (ns.map V.int)) → VRep (.ref a) (.c ns)
  | t {a : Addr} {xs : List V} {ms : List (Sum D Nat)} : H a = some (.tup xs) → TRepAll K ζ ι H xs ms → VRep (.ref a) (.t ms)
inductive VRepAll : List V → List Val → Prop
  | nil : VRepAll [] []
  | cons {v : V} {vs : List V} {u : Val} {us : List Val} : VRep K ζ ι H v u → VRepAll vs us → VRepAll (v :: vs) (u :: us)
def ERep (σ : L2.St) (ρ : Env) : Prop := σ.length = ρ.length ∧ ∀ (i : Nat) (v : Val), ρ[i]? = some (some v) → ∃ x, σ[i]? = some (some x) ∧ VRep K ζ ι H x v
end

/-- from one store's places and heap to later ones: what is tracked and none of the store's stays -/
structure Ext (ι : List Addr) (H : Hp) (ι' : List Addr) (H' : Hp) : Prop where
  pre : ι <+: ι'
  new : ∀ a ∈ ι', a ∉ ι → H a = none
  keep : ∀ a o, H a = some o → a ∉ ι → H' a = some o

section
variable {K : PySem.W.Frag} {α β ζ ι ι' ι1 ι2 : List Addr} {H H' H1 H2 : Hp}
theorem Ext.refl : Ext ι H ι H := ⟨List.prefix_rfl, fun a h1 h2 => absurd h1 h2, fun _ _ h _ => h⟩
theorem Ext.not_mem (e : Ext ι H ι' H') {a : Addr} {o : HO} (h : H a = some o) (n : a ∉ ι) : a ∉ ι' := fun m => by
  rw [e.new a m n] at h
  cases h
theorem Ext.trans (e : Ext ι H ι1 H1) (f : Ext ι1 H1 ι2 H2) : Ext ι H ι2 H2 where
  pre := e.pre.trans f.pre
  new := fun a m n => by
    by_cases q : a ∈ ι1
    · exact e.new a q n
    · have z := f.new a m q
      cases h : H a with
      | none => rfl
      | some o =>
        rw [e.keep a o h n] at z
        cases z
  keep := fun a o h n => f.keep a o (e.keep a o h n) (e.not_mem h n)
theorem Ext.of_same (s : Same H H') : Ext ι H ι H' := ⟨List.prefix_rfl, fun a h1 h2 => absurd h1 h2, fun a o h _ => s a o h⟩

/-! ### transport: from one heap to another that keeps what the avoided places are not -/
/-- what is tracked in H and not at α is so in H'; and nothing of it is at β -/
structure Mv (α : List Addr) (H : Hp) (β : List Addr) (H' : Hp) : Prop where
  keep : ∀ a o, H a = some o → a ∉ α → H' a = some o ∧ a ∉ β
  ap : ∀ a ∈ α, ∀ o, H a = some o → (∃ xs, o = .lst xs) ∨ (∃ k, o = .dK k) ∨ (∃ k, o = .dT k)
theorem Mv.fz (p : Mv α H β H') {a : Addr} {o : HO} (h : H a = some o) (n1 : ∀ xs, o ≠ .lst xs) (n2 : ∀ k, o ≠ .dK k) (n3 : ∀ k, o ≠ .dT k) : H' a = some o := by
  refine (p.keep a o h fun m => ?_).1
  rcases p.ap a m _ h with ⟨_, e⟩ | ⟨_, e⟩ | ⟨_, e⟩
  · exact n1 _ e
  · exact n2 _ e
  · exact n3 _ e
theorem Mv.sqt (p : Mv α H β H') {a : Addr} {xs : List V} (h : SqT K H a xs) : SqT K H' a xs := by
  rcases h with (h | ⟨o, h⟩) | h
  · exact .inl (.inl (p.fz h (by intro _ z; cases z) (by intro _ z; cases z) (by intro _ z; cases z)))
  · exact .inl (.inr ⟨o, p.fz h (by intro _ z; cases z) (by intro _ z; cases z) (by intro _ z; cases z)⟩)
  · exact .inr h
mutual
theorem Rep.mv (p : Mv α H β H') : ∀ {d : D} {v : V}, Rep K α H v d → Rep K β H' v d
  | _, _, .non => .non
  | _, _, .bl b => .bl b
  | _, _, .int i => .int i
  | _, _, .str x => .str x
  | _, _, .lst r n a => .lst (p.keep _ _ r n).1 (p.keep _ _ r n).2 (RepAll.mv p a)
  | _, _, .tup r a => .tup (p.fz r (by intro _ z; cases z) (by intro _ z; cases z) (by intro _ z; cases z)) (RepAll.mv p a)
  | _, _, .con r c a => .con (p.sqt r) c (RepAll.mv p a)
  | _, _, .dK r n a => .dK (p.keep _ _ r n).1 (p.keep _ _ r n).2 (RepAll.mv p a)
  | _, _, .dT r n a => .dT (p.keep _ _ r n).1 (p.keep _ _ r n).2 (RepAll.mv p a)
theorem RepAll.mv (p : Mv α H β H') : ∀ {ds : List D} {vs : List V}, RepAll K α H vs ds → RepAll K β H' vs ds
  | _, _, .nil => .nil
  | _, _, .cons r t => .cons (Rep.mv p r) (RepAll.mv p t)
end
mutual
/-- fewer places to avoid -/
theorem Rep.sub (p : ∀ a ∈ β, a ∈ α) : ∀ {d : D} {v : V}, Rep K α H v d → Rep K β H v d
  | _, _, .non => .non
  | _, _, .bl b => .bl b
  | _, _, .int i => .int i
  | _, _, .str x => .str x
  | _, _, .lst r n a => .lst r (fun m => n (p _ m)) (RepAll.sub p a)
  | _, _, .tup r a => .tup r (RepAll.sub p a)
  | _, _, .con r c a => .con r c (RepAll.sub p a)
  | _, _, .dK r n a => .dK r (fun m => n (p _ m)) (RepAll.sub p a)
  | _, _, .dT r n a => .dT r (fun m => n (p _ m)) (RepAll.sub p a)
theorem RepAll.sub (p : ∀ a ∈ β, a ∈ α) : ∀ {ds : List D} {vs : List V}, RepAll K α H vs ds → RepAll K β H vs ds
  | _, _, .nil => .nil
  | _, _, .cons r t => .cons (Rep.sub p r) (RepAll.sub p t)
end
theorem RepAll.length : ∀ {vs : List V} {ds : List D}, RepAll K α H vs ds → vs.length = ds.length
  | _, _, .nil => rfl
  | _, _, .cons _ t => by rw [List.length_cons, List.length_cons, RepAll.length t]
theorem RepAll.get : ∀ {vs : List V} {ds : List D} {i : Nat} {d : D}, RepAll K α H vs ds → ds[i]? = some d → ∃ v, vs[i]? = some v ∧ Rep K α H v d
  | _, _, 0, _, .cons r _, e => ⟨_, rfl, by cases e; exact r⟩
  | _, _, i + 1, _, .cons _ t, e => by
    obtain ⟨v, h1, h2⟩ := RepAll.get (i := i) t (by simpa using e)
    exact ⟨v, by simpa using h1, h2⟩
  | _, _, _, _, .nil, e => by simp at e
theorem RepAll.getV : ∀ {vs : List V} {ds : List D} {i : Nat} {v : V}, RepAll K α H vs ds → vs[i]? = some v → ∃ d, ds[i]? = some d ∧ Rep K α H v d
  | _, _, 0, _, .cons r _, e => ⟨_, rfl, by cases e; exact r⟩
  | _, _, i + 1, _, .cons _ t, e => by
    obtain ⟨v, h1, h2⟩ := RepAll.getV (i := i) t (by simpa using e)
    exact ⟨v, by simpa using h1, h2⟩
  | _, _, _, _, .nil, e => by simp at e
theorem RepAll.app : ∀ {vs ws : List V} {ds es : List D}, RepAll K α H vs ds → RepAll K α H ws es → RepAll K α H (vs ++ ws) (ds ++ es)
  | _, _, _, _, .nil, s => s
  | _, _, _, _, .cons r t, s => .cons r (RepAll.app t s)
theorem RepAll.take : ∀ (n : Nat) {vs : List V} {ds : List D}, RepAll K α H vs ds → RepAll K α H (vs.take n) (ds.take n)
  | 0, _, _, _ => .nil
  | _ + 1, _, _, .nil => .nil
  | n + 1, _, _, .cons r t => .cons r (RepAll.take n t)
theorem RepAll.drop : ∀ (n : Nat) {vs : List V} {ds : List D}, RepAll K α H vs ds → RepAll K α H (vs.drop n) (ds.drop n)
  | 0, _, _, h => h
  | _ + 1, _, _, .nil => .nil
  | n + 1, _, _, .cons _ t => RepAll.drop n t
theorem RepAll.set {v : V} {d : D} (r : Rep K α H v d) : ∀ (n : Nat) {vs : List V} {ds : List D}, RepAll K α H vs ds → RepAll K α H (vs.set n v) (ds.set n d)
  | _, _, _, .nil => .nil
  | 0, _, _, .cons _ t => .cons r t
  | n + 1, _, _, .cons q t => .cons q (RepAll.set r n t)

/-! ### transport of what the layer says -/
theorem Sim.mvA {hs : Hs} (s : Sim K ζ ι H hs) : ∀ a ∈ ζ ++ ι, ∀ o, H a = some o → (∃ xs, o = .lst xs) ∨ (∃ k, o = .dK k) ∨ (∃ k, o = .dT k) := fun a m o h => by
  rcases List.mem_append.mp m with m | m
  · rcases s.ap a m with ⟨x, q⟩ | ⟨x, q⟩ | ⟨x, q⟩ <;> rw [h] at q <;> cases q
    · exact .inl ⟨_, rfl⟩
    · exact .inr (.inl ⟨_, rfl⟩)
    · exact .inr (.inr ⟨_, rfl⟩)
  · obtain ⟨i, hi, e⟩ := List.getElem_of_mem m
    have e1 : ι[i]? = some a := by rw [List.getElem?_eq_getElem hi, e]
    have hj : i < hs.length := by rw [← s.len]; exact hi
    have z := s.at_ i a _ e1 (List.getElem?_eq_getElem hj)
    generalize hs[i] = m at z
    cases z with
    | lst q _ => rw [h] at q; exact .inl ⟨_, Option.some.inj q⟩
    | dK q _ => rw [h] at q; exact .inr (.inl ⟨_, Option.some.inj q⟩)
    | dT q _ => rw [h] at q; exact .inr (.inr ⟨_, Option.some.inj q⟩)
theorem Sim.mv {hs : Hs} (s : Sim K ζ ι H hs) (e : Ext ι H ι' H') : Mv (ζ ++ ι) H (ζ ++ ι') H' where
  keep := fun a o h n => by
    have n1 : a ∉ ι := fun m => n (List.mem_append_right _ m)
    have n2 : a ∉ ζ := fun m => n (List.mem_append_left _ m)
    exact ⟨e.keep a o h n1, fun m => (List.mem_append.mp m).elim n2 (e.not_mem h n1)⟩
  ap := s.mvA
theorem TRepAll.mv {hs : Hs} (s : Sim K ζ ι H hs) (e : Ext ι H ι' H') : ∀ {vs : List V} {ms : List (Sum D Nat)}, TRepAll K ζ ι H vs ms → TRepAll K ζ ι' H' vs ms
  | _, _, .nil => .nil
  | _, _, .d q t => .d (q.mv (s.mv e)) (TRepAll.mv s e t)
  | _, _, .r h t => .r (by
    obtain ⟨u, rfl⟩ := e.pre
    obtain ⟨hi, _⟩ := List.getElem?_eq_some_iff.mp h
    rw [List.getElem?_append_left hi]; exact h) (TRepAll.mv s e t)
theorem VRep.mv {hs : Hs} (s : Sim K ζ ι H hs) (e : Ext ι H ι' H') {v : V} {u : Val} (r : VRep K ζ ι H v u) : VRep K ζ ι' H' v u := by
  cases r with
  | d r => exact .d (r.mv (s.mv e))
  | @r a i h =>
    obtain ⟨t, rfl⟩ := e.pre
    obtain ⟨hi, _⟩ := List.getElem?_eq_some_iff.mp h
    exact .r (by rw [List.getElem?_append_left hi]; exact h)
  | s h => 
    rcases h with ⟨o, h⟩ | h
    · exact .s (.inl ⟨o, (s.mv e).fz h (by intro _ z; cases z) (by intro _ z; cases z) (by intro _ z; cases z)⟩)
    · exact .s (.inr h)
  | c h => exact .c h
  | t h q => exact .t ((s.mv e).fz h (by intro _ z; cases z) (by intro _ z; cases z) (by intro _ z; cases z)) (q.mv s e)
  | x h1 h2 h3 => exact .x ((s.mv e).fz h1 (by intro _ z; cases z) (by intro _ z; cases z) (by intro _ z; cases z)) ((s.mv e).fz h2 (by intro _ z; cases z) (by intro _ z; cases z) (by intro _ z; cases z)) (h3.mv (s.mv e))
theorem VRepAll.mv {hs : Hs} (s : Sim K ζ ι H hs) (e : Ext ι H ι' H') : ∀ {vs : List V} {us : List Val}, VRepAll K ζ ι H vs us → VRepAll K ζ ι' H' vs us
  | _, _, .nil => .nil
  | _, _, .cons r t => .cons (r.mv s e) (VRepAll.mv s e t)
theorem ERep.mv {hs : Hs} (s : Sim K ζ ι H hs) (e : Ext ι H ι' H') {σ : L2.St} {ρ : Env} (r : ERep K ζ ι H σ ρ) : ERep K ζ ι' H' σ ρ :=
  ⟨r.1, fun i v h => let ⟨x, h1, h2⟩ := r.2 i v h; ⟨x, h1, h2.mv s e⟩⟩
/-- the store as it was, over a heap in which all that was stands -/
theorem Sim.same {hs : Hs} (s : Sim K ζ ι H hs) (e : Same H H') : Sim K ζ ι H' hs where
  nd := s.nd
  len := s.len
  at_ := fun i a m h1 h2 => by
    have z := s.at_ i a m h1 h2
    cases z with
    | lst q r => exact .lst (e _ _ q) (r.mv (s.mv (Ext.of_same e)))
    | dK q r => exact .dK (e _ _ q) (r.mv (s.mv (Ext.of_same e)))
    | dT q r => exact .dT (e _ _ q) (r.mv (s.mv (Ext.of_same e)))
  ap := fun a m => by
    rcases s.ap a m with ⟨x, q⟩ | ⟨x, q⟩ | ⟨x, q⟩
    · exact .inl ⟨x, e _ _ q⟩
    · exact .inr (.inl ⟨x, e _ _ q⟩)
    · exact .inr (.inr ⟨x, e _ _ q⟩)

/-! ### what is wanted of an end -/
def Kt {γ δ : Type} (K : PySem.W.Frag) (ζ : List Addr) (rel : List Addr → Hp → δ → γ → Prop) (ι : List Addr) (H : Hp) (r : R γ) (Q : δ → Hp → Prop) (E : XK) : Prop := match r with
  | .ok a h => ∀ b H' ι', Ext ι H ι' H' → Sim K ζ ι' H' h → rel ι' H' b a → Q b H'
  | .ex c v h => ∀ cls dd H' ι', Ext ι H ι' H' → Sim K ζ ι' H' h → ExcOk K (ζ ++ ι') H' cls dd c v → E cls dd H'
  | .no => False
theorem Kt.mv {γ δ : Type} {rel : List Addr → Hp → δ → γ → Prop} {r : R γ} {Q : δ → Hp → Prop} {E : XK} (k : Kt K ζ rel ι H r Q E) (e : Ext ι H ι' H') : Kt K ζ rel ι' H' r Q E := by
  cases r with
  | ok a h => exact fun b H2 ι2 e2 s2 r2 => k b H2 ι2 (e.trans e2) s2 r2
  | ex c v h => exact fun cls dd H2 ι2 e2 s2 r2 => k cls dd H2 ι2 (e.trans e2) s2 r2
  | no => exact k
/-- the first of two parts -/
theorem Kt.bind {γ δ γ' δ' : Type} {rel : List Addr → Hp → δ → γ → Prop} {rel' : List Addr → Hp → δ' → γ' → Prop} {r : R γ} {k : γ → Hs → R γ'} {Q : δ' → Hp → Prop} {E : XK} {Q1 : δ → Hp → Prop}
    (w : Kt K ζ rel' ι H (r.bind k) Q E) (h : ∀ a hs b H' ι', Ext ι H ι' H' → Sim K ζ ι' H' hs → rel ι' H' b a → Kt K ζ rel' ι' H' (k a hs) Q E → Q1 b H') : Kt K ζ rel ι H r Q1 E := by
  cases r with
  | ok a hs => exact fun b H' ι' e s r => h a hs b H' ι' e s r (w.mv e)
  | ex c v hs => exact w
  | no => exact w
theorem Kt.opt {γ δ : Type} {rel : List Addr → Hp → δ → γ → Prop} {o : Option γ} {hs : Hs} {Q : δ → Hp → Prop} {E : XK} (k : Kt K ζ rel ι H (R.opt o hs) Q E) : ∃ a, o = some a ∧ Kt K ζ rel ι H (.ok a hs) Q E := by
  cases o with
  | none => exact k.elim
  | some a => exact ⟨a, rfl, k⟩
/-- the end at a heap that keeps all that was -/
theorem Kt.here {γ δ : Type} {rel : List Addr → Hp → δ → γ → Prop} {a : γ} {hs : Hs} {Q : δ → Hp → Prop} {E : XK} (k : Kt K ζ rel ι H (.ok a hs) Q E) (s : Sim K ζ ι H hs) (e : Same H H') {b : δ} (r : rel ι H' b a) : Q b H' :=
  k b H' ι (Ext.of_same e) (s.same e) r

/-! ### a value, read as data -/
def vD : Val → Hs → Option D
  | .d x, _ => some x
  | .r i, hs => match hs[i]? with
    | some (.lst ds) => some (.list ds)
    | some (.dic _ kvs) => some (.dict kvs)
    | none => none
  | .x _ _, _ => none
  | .s _, _ => none
  | .c _, _ => none
  | .t _, _ => none
@[simp] theorem vD_d (x : D) (hs : Hs) : vD (.d x) hs = some x := rfl
/-- v is the data d, at its top perhaps one of the store's -/
inductive RdV (K : PySem.W.Frag) (α : List Addr) (H : Hp) : V → D → Prop
  | imm {v : V} {d : D} : Rep K α H v d → RdV K α H v d
  | lst {a : Addr} {xs : List V} {ds : List D} : H a = some (.lst xs) → RepAll K α H xs ds → RdV K α H (.ref a) (.list ds)
  | dK {a : Addr} {kvs : List (Key × V)} {ds : List D} : H a = some (.dK kvs) → RepAll K α H (kvs.map (·.2)) ds → RdV K α H (.ref a) (.dict ((kvs.map fun p => keyD p.1).zip ds))
  | dT {a : Addr} {kvs : List (List Key × V)} {ds : List D} : H a = some (.dT kvs) → RepAll K α H (kvs.map (·.2)) ds → RdV K α H (.ref a) (.dict ((kvs.map fun p => PyData.tuple (p.1.map keyD)).zip ds))
theorem vD_ok {hs : Hs} {v : V} {u : Val} {d : D} (s : Sim K ζ ι H hs) (r : VRep K ζ ι H v u) (e : vD u hs = some d) : RdV K (ζ ++ ι) H v d := by
  cases r with
  | d r => cases e; exact .imm r
  | @r a i h =>
    simp only [vD] at e
    cases q : hs[i]? with
    | none => rw [q] at e; cases e
    | some m =>
      have z := s.at_ i a m h q
      rw [q] at e
      cases z with
      | lst z1 z2 => cases e; exact .lst z1 z2
      | dK z1 z2 => cases e; exact .dK z1 z2
      | dT z1 z2 => cases e; exact .dT z1 z2
  | x => cases e
  | s => cases e
  | c => cases e
  | t => cases e
theorem RdV.rep0 {v : V} {d : D} (r : RdV K α H v d) : Rep K [] H v d := by
  have z : ∀ a ∈ ([] : List Addr), a ∈ α := fun a m => by cases m
  cases r with
  | imm r => exact r.sub z
  | lst h r => exact .lst h (by simp) (r.sub z)
  | dK h r => exact .dK h (by simp) (r.sub z)
  | dT h r => exact .dT h (by simp) (r.sub z)

/-- what the store's places and the lists in the making are -/
def Ap (α : List Addr) (H : Hp) : Prop := ∀ a ∈ α, (∃ xs, H a = some (.lst xs)) ∨ (∃ k, H a = some (.dK k)) ∨ (∃ k, H a = some (.dT k))
theorem Ap.old (p : Ap α H) : ∀ a ∈ α, ∀ o, H a = some o → (∃ xs, o = .lst xs) ∨ (∃ k, o = .dK k) ∨ (∃ k, o = .dT k) := fun a m o h => by
  rcases p a m with ⟨x, q⟩ | ⟨x, q⟩ | ⟨x, q⟩ <;> rw [h] at q <;> cases q
  · exact .inl ⟨_, rfl⟩
  · exact .inr (.inl ⟨_, rfl⟩)
  · exact .inr (.inr ⟨_, rfl⟩)
theorem Ap.fresh (p : Ap α H) {q : Addr} (hq : H q = none) : q ∉ α := fun m => by
  rcases p q m with ⟨x, z⟩ | ⟨x, z⟩ | ⟨x, z⟩ <;> rw [hq] at z <;> cases z
theorem Sim.apA {hs : Hs} (s : Sim K ζ ι H hs) : Ap (ζ ++ ι) H := fun a m => by
  rcases List.mem_append.mp m with m | m
  · exact s.ap a m
  · obtain ⟨i, hi, e⟩ := List.getElem_of_mem m
    have e1 : ι[i]? = some a := by rw [List.getElem?_eq_getElem hi, e]
    have hj : i < hs.length := by rw [← s.len]; exact hi
    have z := s.at_ i a _ e1 (List.getElem?_eq_getElem hj)
    generalize hs[i] = m at z
    cases z with
    | lst q _ => exact .inl ⟨_, q⟩
    | dK q _ => exact .inr (.inl ⟨_, q⟩)
    | dT q _ => exact .inr (.inr ⟨_, q⟩)
theorem Ap.mv (p : Ap α H) (e : Same H H') : Mv α H α H' := ⟨fun a o h n => ⟨e a o h, n⟩, p.old⟩
theorem Rep.same (p : Ap α H) (e : Same H H') {v : V} {d : D} (r : Rep K α H v d) : Rep K α H' v d := r.mv (p.mv e)
theorem RepAll.same (p : Ap α H) (e : Same H H') {v : List V} {d : List D} (r : RepAll K α H v d) : RepAll K α H' v d := r.mv (p.mv e)
theorem same_new {p : Addr} {o : HO} (h : H p = none) : Same H (upd H p o) := fun b x e => by
  rw [upd_ne (ne_of_none e h)]
  exact e
theorem Rep.notα {a : Addr} {d : D} (p : Ap α H) (r : Rep K α H (.ref a) d) : True := trivial
/-- the parts of a value read -/
inductive RdVs (K : PySem.W.Frag) (α : List Addr) (H : Hp) : List V → List D → Prop
  | nil : RdVs K α H [] []
  | cons {v : V} {vs : List V} {d : D} {ds : List D} : RdV K α H v d → RdVs K α H vs ds → RdVs K α H (v :: vs) (d :: ds)
def vDs : List Val → Hs → Option (List D)
  | [], _ => some []
  | u :: us, h => match vD u h, vDs us h with
    | some d, some ds => some (d :: ds)
    | _, _ => none
@[simp] theorem vDs_nil (h : Hs) : vDs [] h = some [] := rfl
@[simp] theorem vDs_cons (x : D) (us : List Val) (h : Hs) : vDs (.d x :: us) h = (vDs us h).map (x :: ·) := by
  simp only [vDs, vD_d]
  cases vDs us h <;> rfl
theorem vDs_ok {hs : Hs} (s : Sim K ζ ι H hs) : ∀ {vs : List V} {us : List Val} {ds : List D}, VRepAll K ζ ι H vs us → vDs us hs = some ds → RdVs K (ζ ++ ι) H vs ds
  | _, _, _, .nil, e => by cases e; exact .nil
  | _, _, _, .cons (u := u) (us := us) r t, e => by
    simp only [vDs] at e
    split at e
    · rename_i h1 h2
      cases e
      exact .cons (vD_ok s r h1) (vDs_ok s t h2)
    · cases e
end

/-! ### the judgements -/
abbrev MV := Env → Hs → R Val
/-- an expression's meaning -/
structure EE (X : Cx) (e : Expr) (f : MV) : Prop where
  run : ∀ W : WX, Takes X W → ∃ t, PE X e t ∧ ∀ (ζ ι : List Addr) (ρ : Env) (hs : Hs) (σ : L2.St) (H : Hp) (Q : VK), ERep X.K ζ ι H σ ρ → Sim X.K ζ ι H hs → Kt X.K ζ (VRep X.K ζ) ι H (f ρ hs) Q (WE W σ) → t σ H Q
/-- an argument list's -/
structure EA (X : Cx) (es : List Expr) (f : Env → Hs → R (List Val)) : Prop where
  run : ∀ W : WX, Takes X W → ∃ t, PA X es t ∧ ∀ (ζ ι : List Addr) (ρ : Env) (hs : Hs) (σ : L2.St) (H : Hp) (Q : List V → Hp → Prop), ERep X.K ζ ι H σ ρ → Sim X.K ζ ι H hs → Kt X.K ζ (VRepAll X.K ζ) ι H (f ρ hs) Q (WE W σ) → t σ H Q
/-- a test's -/
structure ET (X : Cx) (e : Expr) (f : Env → Hs → R Bool) : Prop where
  run : ∀ W : WX, Takes X W → ∃ t, PT X e t ∧ ∀ (ζ ι : List Addr) (ρ : Env) (hs : Hs) (σ : L2.St) (H : Hp) (Q : Bool → Hp → Prop), ERep X.K ζ ι H σ ρ → Sim X.K ζ ι H hs → Kt X.K ζ (fun _ _ b b' => b = b') ι H (f ρ hs) Q (WE W σ) → t σ H Q
structure EW (X : Cx) (e : Expr) (f : Env → Hs → R Bool) : Prop where
  run : ∀ W : WX, Takes X W → ∃ t, PW X e t ∧ ∀ (ζ ι : List Addr) (ρ : Env) (hs : Hs) (σ : L2.St) (H : Hp) (Q : Bool → Hp → Prop), ERep X.K ζ ι H σ ρ → Sim X.K ζ ι H hs → Kt X.K ζ (fun _ _ b b' => b = b') ι H (f ρ hs) Q (WE W σ) → t σ H Q

/-! ### meanings of expressions -/
def eVar (i : Nat) : MV := fun ρ h => match ρ[i]? with
  | some (some v) => .ok v h
  | _ => .no
def eC (d : D) : MV := fun _ h => .ok (.d d) h
def eOp (g : D → D → Option D) (fa fb : MV) : MV := fun ρ h => (fa ρ h).bind fun u h1 => (fb ρ h1).bind fun v h2 => match vD u h2, vD v h2 with
  | some a, some b => R.opt ((g a b).map .d) h2
  | _, _ => .no
def eUn (g : D → Option D) (fa : MV) : MV := fun ρ h => (fa ρ h).bind fun u h1 => match vD u h1 with
  | some a => R.opt ((g a).map .d) h1
  | _ => .no
def aNil : Env → Hs → R (List Val) := fun _ h => .ok [] h
def aCons (fa : MV) (fr : Env → Hs → R (List Val)) : Env → Hs → R (List Val) := fun ρ h => (fa ρ h).bind fun u h1 => (fr ρ h1).bind fun us h2 => .ok (u :: us) h2
def eCallB (g : List D → Option D) (fas : Env → Hs → R (List Val)) : MV := fun ρ h => (fas ρ h).bind fun us h1 => match vDs us h1 with
  | some ds => R.opt ((g ds).map .d) h1
  | none => .no
/-- data alone -/
def pD : Val → Option D
  | .d x => some x
  | _ => none
def pDs : List Val → Option (List D)
  | [] => some []
  | .d x :: us => (pDs us).map (x :: ·)
  | _ :: _ => none
def eTup (fas : Env → Hs → R (List Val)) : MV := fun ρ h => (fas ρ h).bind fun us h1 => match pDs us with
  | some ds => if ds.length ≤ sizeLine then .ok (.d (.tuple ds)) h1 else .no
  | none => .no
def eLst (fas : Env → Hs → R (List Val)) : MV := fun ρ h => (fas ρ h).bind fun us h1 => match pDs us with
  | some ds => if ds.length ≤ sizeLine then .ok (.d (.list ds)) h1 else .no
  | none => .no
/-- a list that will be changed: a new place of the store -/
def eLstM (fas : Env → Hs → R (List Val)) : MV := fun ρ h => (fas ρ h).bind fun us h1 => match pDs us with
  | some ds => if ds.length ≤ sizeLine then .ok (.r h1.length) (h1 ++ [.lst ds]) else .no
  | none => .no
def asB : Val → Option Bool
  | .d (.bool b) => some b
  | _ => none
def tVal (fa : MV) : Env → Hs → R Bool := fun ρ h => (fa ρ h).bind fun u h1 => R.opt (asB u) h1
def tAndD (fa fb : Env → Hs → R Bool) : Env → Hs → R Bool := fun ρ h => (fa ρ h).bind fun b h1 => if b = true then fb ρ h1 else .ok false h1
def tOrD (fa fb : Env → Hs → R Bool) : Env → Hs → R Bool := fun ρ h => (fa ρ h).bind fun b h1 => if b = true then .ok true h1 else fb ρ h1
def tNotD (fa : Env → Hs → R Bool) : Env → Hs → R Bool := fun ρ h => (fa ρ h).bind fun b h1 => .ok (!b) h1
def eAnd (fa fb : MV) : MV := fun ρ h => (fa ρ h).bind fun u h1 => match asB u with
  | some true => fb ρ h1
  | some false => .ok (.d (.bool false)) h1
  | none => .no
def eOr (fa fb : MV) : MV := fun ρ h => (fa ρ h).bind fun u h1 => match asB u with
  | some true => .ok (.d (.bool true)) h1
  | some false => fb ρ h1
  | none => .no
def eNot (fa : MV) : MV := fun ρ h => (fa ρ h).bind fun u h1 => match asB u with
  | some b => .ok (.d (.bool (!b))) h1
  | none => .no
def eIf (ft : Env → Hs → R Bool) (fa fb : MV) : MV := fun ρ h => (ft ρ h).bind fun b h1 => if b = true then fa ρ h1 else fb ρ h1
def isNone : Val → Bool
  | .d .none => true
  | _ => false
def eIsN (fa : MV) : MV := fun ρ h => (fa ρ h).bind fun u h1 => .ok (.d (.bool (isNone u))) h1
def eNotN (fa : MV) : MV := fun ρ h => (fa ρ h).bind fun u h1 => .ok (.d (.bool (!isNone u))) h1

section
variable {X : Cx}
/-! ### rules -/
theorem ee_var (i : Nat) {x : Str} {pos : Pos} (hN : X.N[i]? = some x := by rfl) (hv : Vis X.env.scope x := by first | exact Or.inl rfl | exact Or.inr (Or.inl rfl) | exact Or.inr (Or.inr rfl)) (hd : (x == ("__debug__" : Str)) = false := by decide)
    (hcd : (x == ("__classdict__" : Str)) = false := by decide) : EE X (.Name x pos) (eVar i) := ⟨fun W tk => ⟨_, pe_var hN hv hd hcd, fun ζ ι ρ hs σ H Q er s k => by
  unfold eVar at k
  split at k
  · rename_i v e
    obtain ⟨y, h1, h2⟩ := er.2 i v e
    exact ⟨y, h1, k.here s (fun _ _ h => h) h2⟩
  · exact k.elim⟩⟩
theorem ee_int {i : Int} {j : Nat} {pos : Pos} : EE X (.Constant (.int i) j pos) (eC (.int i)) := ⟨fun W tk => ⟨_, pe_int, fun ζ ι ρ hs σ H Q er s k => k.here s (fun _ _ h => h) (.d (.int i))⟩⟩
theorem ee_bl {b : Bool} {j : Nat} {pos : Pos} : EE X (.Constant (.bool b) j pos) (eC (.bool b)) := ⟨fun W tk => ⟨_, pe_bl, fun ζ ι ρ hs σ H Q er s k => k.here s (fun _ _ h => h) (.d (.bl b))⟩⟩
theorem ee_non {j : Nat} {pos : Pos} : EE X (.Constant .none j pos) (eC .none) := ⟨fun W tk => ⟨_, pe_non, fun ζ ι ρ hs σ H Q er s k => k.here s (fun _ _ h => h) (.d .non)⟩⟩
theorem ee_str {x : Str} {j : Nat} {pos : Pos} : EE X (.Constant (.str x) j pos) (eC (.str x)) := ⟨fun W tk => ⟨_, pe_str, fun ζ ι ρ hs σ H Q er s k => k.here s (fun _ _ h => h) (.d (.str x))⟩⟩
/-- what an operator by values gives of data -/
def OpD (X : Cx) (r : R2) (g : D → D → Option D) : Prop := ∀ (α : List Addr) (H : Hp) (x y : V) (a b c : D) (Q : VK), Ap α H → RdV X.K α H x a → RdV X.K α H y b → g a b = some c → (∀ z H', Same H H' → Rep X.K α H' z c → Q z H') → r x y H Q
variable {a b : Expr} {fa fb : MV} {pos : Pos}
theorem ee_bin {r : R2} {g : D → D → Option D} {e : Expr} (hd : OpD X r g) (pe : ∀ {ta tb : TE}, PE X a ta → PE X b tb → PE X e (tOp r ta tb)) (ha : EE X a fa) (hb : EE X b fb) : EE X e (eOp g fa fb) := ⟨fun W tk => by
  obtain ⟨ta, pa, qa⟩ := ha.run W tk
  obtain ⟨tb, pb, qb⟩ := hb.run W tk
  refine ⟨_, pe pa pb, fun ζ ι ρ hs σ H Q er s k => ?_⟩
  refine qa ζ ι ρ hs σ H _ er s (Kt.bind k fun u h1 x H1 ι1 e1 s1 r1 k1 => ?_)
  refine qb ζ ι1 ρ h1 σ H1 _ (er.mv s e1) s1 (Kt.bind k1 fun v h2 y H2 ι2 e2 s2 r2 k2 => ?_)
  split at k2
  · rename_i da db ea eb
    obtain ⟨c, ec, k2⟩ := k2.opt
    cases hg : g da db with
    | none => rw [hg] at ec; cases ec
    | some c' =>
      rw [hg] at ec
      cases ec
      exact hd _ H2 x y da db c' Q s2.apA (vD_ok s2 (r1.mv s1 e2) ea) (vD_ok s2 r2 eb) hg fun z H' sm rp => k2.here s2 sm (.d rp)
  · exact k2.elim⟩
theorem ee_op {op : Operator} {r : R2} {g : D → D → Option D} (ho : OpR X (binaryOp op) r) (hd : OpD X r g) (ha : EE X a fa) (hb : EE X b fb) : EE X (.BinOp a op b pos) (eOp g fa fb) := ee_bin hd (fun pa pb => pe_op ho pa pb) ha hb
theorem ee_cmp {op : CmpOp} {r : R2} {g : D → D → Option D} (ho : OpR X (compareOp op) r) (hd : OpD X r g) (ha : EE X a fa) (hb : EE X b fb) (hm : behindInMarks op b = false := by first | exact nomark _ | rfl) : EE X (.Compare a [op] [b] pos) (eOp g fa fb) :=
  ee_bin hd (fun pa pb => pe_cmpR ho pa pb hm) ha hb
theorem ee_ix {r : R2} {g : D → D → Option D} (ho : IxR X r) (hd : OpD X r g) (ha : EE X a fa) (hb : EE X b fb) (hs : PlainIx b := by exact fun _ _ => rfl) : EE X (.Subscript a b pos) (eOp g fa fb) := ee_bin hd (fun pa pb => pe_ix ho pa pb hs) ha hb
def UnD (X : Cx) (r : V → Hp → VK → Prop) (g : D → Option D) : Prop := ∀ (α : List Addr) (H : Hp) (x : V) (a c : D) (Q : VK), Ap α H → RdV X.K α H x a → g a = some c → (∀ z H', Same H H' → Rep X.K α H' z c → Q z H') → r x H Q
theorem ee_un {op : UnaryOp} {r : V → Hp → VK → Prop} {g : D → Option D} (ho : UnR X (unaryOp op) r) (hd : UnD X r g) (ha : EE X a fa) : EE X (.UnaryOp op a pos) (eUn g fa) := ⟨fun W tk => by
  obtain ⟨ta, pa, qa⟩ := ha.run W tk
  refine ⟨_, pe_un ho pa, fun ζ ι ρ hs σ H Q er s k => ?_⟩
  refine qa ζ ι ρ hs σ H _ er s (Kt.bind k fun u h1 x H1 ι1 e1 s1 r1 k1 => ?_)
  split at k1
  · rename_i da ea
    obtain ⟨c, ec, k1⟩ := k1.opt
    cases hg : g da with
    | none => rw [hg] at ec; cases ec
    | some c' =>
      rw [hg] at ec
      cases ec
      exact hd _ H1 x da c' Q s1.apA (vD_ok s1 r1 ea) hg fun z H' sm rp => k1.here s1 sm (.d rp)
  · exact k1.elim⟩
theorem ea_nil : EA X [] aNil := ⟨fun W tk => ⟨_, pa_nil, fun ζ ι ρ hs σ H Q er s k => k.here s (fun _ _ h => h) .nil⟩⟩
theorem ea_cons {es : List Expr} {fr : Env → Hs → R (List Val)} (ha : EE X a fa) (hr : EA X es fr) (hs : starEach (a :: es) X.env = (false, eval a X.env) :: starEach es X.env := by rfl) : EA X (a :: es) (aCons fa fr) := ⟨fun W tk => by
  obtain ⟨ta, pa, qa⟩ := ha.run W tk
  obtain ⟨tr, pr, qr⟩ := hr.run W tk
  refine ⟨_, pa_cons pa pr hs, fun ζ ι ρ hs σ H Q er s k => ?_⟩
  refine qa ζ ι ρ hs σ H _ er s (Kt.bind k fun u h1 x H1 ι1 e1 s1 r1 k1 => ?_)
  refine qr ζ ι1 ρ h1 σ H1 _ (er.mv s e1) s1 (Kt.bind k1 fun us h2 xs H2 ι2 e2 s2 r2 k2 => ?_)
  exact k2.here s2 (fun _ _ h => h) (.cons (r1.mv s1 e2) r2)⟩
def CallD (X : Cx) (r : List V → Hp → VK → Prop) (g : List D → Option D) : Prop := ∀ (α : List Addr) (H : Hp) (xs : List V) (ds : List D) (c : D) (Q : VK), Ap α H → RdVs X.K α H xs ds → g ds = some c → (∀ z H', Same H H' → Rep X.K α H' z c → Q z H') → r xs H Q
variable {e : Expr} {es : List Expr} {fas : Env → Hs → R (List Val)} {g : List D → Option D} {r : List V → Hp → VK → Prop} {x : Str} {p : Pos} {id T : String}
theorem ee_tcb (pe : ∀ {t : TA}, PA X es t → PE X e (tCB r t)) (hd : CallD X r g) (ha : EA X es fas) : EE X e (eCallB g fas) := ⟨fun W tk => by
  obtain ⟨ta, pa, qa⟩ := ha.run W tk
  refine ⟨_, pe pa, fun ζ ι ρ hs σ H Q er s k => ?_⟩
  refine qa ζ ι ρ hs σ H _ er s (Kt.bind k fun us h1 xs H1 ι1 e1 s1 r1 k1 => ?_)
  split at k1
  · rename_i ds ed
    obtain ⟨c, ec, k1⟩ := k1.opt
    cases hg : g ds with
    | none => rw [hg] at ec; cases ec
    | some c' =>
      rw [hg] at ec
      cases ec
      exact hd _ H1 xs ds c' Q s1.apA (vDs_ok s1 r1 ed) hg fun z H' sm rp => k1.here s1 sm (.d rp)
  · exact k1.elim⟩
theorem ee_callB (hc : CallR X (.builtin id) r) (hd : CallD X r g) (hm : X.mg x = none) (hv : bootBuiltins x = some (.builtin id)) (ha : EA X (e :: es) fas) (hg : Gl X x := by rfl) (hn : x ≠ "__name__" := by decide) (hdb : (x == ("__debug__" : Str)) = false := by decide)
    (he : starEach (e :: es) X.env = (false, eval e X.env) :: starEach es X.env := by rfl) (hpl : (backTo pos (starEach es X.env)).any (·.1) = false := by rfl) : EE X (.Call (.Name x p) (e :: es) [] pos) (eCallB g fas) :=
  ee_tcb (fun pa => pe_callB hc hg hm hv pa hn hdb he hpl) hd ha
theorem ee_callTy (hc : CallR X (.type T) r) (hd : CallD X r g) (hm : X.mg x = none) (hv : bootBuiltins x = some (.type T)) (ha : EA X (e :: es) fas) (hg : Gl X x := by rfl) (hn : x ≠ "__name__" := by decide) (hdb : (x == ("__debug__" : Str)) = false := by decide)
    (he : starEach (e :: es) X.env = (false, eval e X.env) :: starEach es X.env := by rfl) (hpl : (backTo pos (starEach es X.env)).any (·.1) = false := by rfl) : EE X (.Call (.Name x p) (e :: es) [] pos) (eCallB g fas) :=
  ee_tcb (fun pa => pe_callTy hc hg hm hv pa hn hdb he hpl) hd ha
theorem pDs_ok {K : PySem.W.Frag} {ζ ι : List Addr} {H : Hp} : ∀ {vs : List V} {us : List Val} {ds : List D}, VRepAll K ζ ι H vs us → pDs us = some ds → RepAll K (ζ ++ ι) H vs ds
  | _, _, _, .nil, e => by cases e; exact .nil
  | _, _, _, .cons (u := u) (us := us) r t, e => by
    cases u with
    | d x =>
      simp only [pDs] at e
      cases q : pDs us with
      | none => rw [q] at e; cases e
      | some ds =>
        rw [q] at e
        cases e
        cases r with
        | d r => exact .cons r (pDs_ok t q)
    | r => cases e
    | x => cases e
    | s => cases e
    | c => cases e
    | t => cases e
theorem ee_tup {k : Nat} (ha : EA X es fas) : EE X (.Tuple es k pos) (eTup fas) := ⟨fun W tk => by
  obtain ⟨ta, pa, qa⟩ := ha.run W tk
  refine ⟨_, pe_tup pa, fun ζ ι ρ hs σ H Q er s k => ?_⟩
  refine qa ζ ι ρ hs σ H _ er s (Kt.bind k fun us h1 xs H1 ι1 e1 s1 r1 k1 => ?_)
  split at k1
  · rename_i ds ed
    split at k1
    · rename_i hl
      have rp := pDs_ok r1 ed
      refine ⟨by rw [rp.length]; exact hl, fun q hq => k1.here s1 (same_new hq) (.d (.tup upd_same ?_))⟩
      exact rp.same s1.apA (same_new hq)
    · exact k1.elim
  · exact k1.elim⟩
theorem Sim.fresh {K : PySem.W.Frag} {ζ ι : List Addr} {H : Hp} {hs : Hs} (s : Sim K ζ ι H hs) {q : Addr} (hq : H q = none) : q ∉ ζ ++ ι := fun m => by
  rcases List.mem_append.mp m with m | m
  · rcases s.ap q m with ⟨x, z⟩ | ⟨x, z⟩ | ⟨x, z⟩ <;> rw [hq] at z <;> cases z
  · obtain ⟨i, hi, e⟩ := List.getElem_of_mem m
    have e1 : ι[i]? = some q := by rw [List.getElem?_eq_getElem hi, e]
    have hj : i < hs.length := by rw [← s.len]; exact hi
    have z := s.at_ i q _ e1 (List.getElem?_eq_getElem hj)
    generalize hs[i] = m at z
    cases z with
    | lst z _ => rw [hq] at z; cases z
    | dK z _ => rw [hq] at z; cases z
    | dT z _ => rw [hq] at z; cases z
theorem ee_lst (ha : EA X es fas) : EE X (.List es pos) (eLst fas) := ⟨fun W tk => by
  obtain ⟨ta, pa, qa⟩ := ha.run W tk
  refine ⟨_, pe_lst pa, fun ζ ι ρ hs σ H Q er s k => ?_⟩
  refine qa ζ ι ρ hs σ H _ er s (Kt.bind k fun us h1 xs H1 ι1 e1 s1 r1 k1 => ?_)
  split at k1
  · rename_i ds ed
    split at k1
    · rename_i hl
      have rp := pDs_ok r1 ed
      refine ⟨by rw [rp.length]; exact hl, fun q hq => k1.here s1 (same_new hq) (.d (.lst upd_same (s1.fresh hq) ?_))⟩
      exact rp.same s1.apA (same_new hq)
    · exact k1.elim
  · exact k1.elim⟩
/-- a new tuple, of things of the store too -/
def tOf : List Val → Option (List (Sum D Nat))
  | [] => some []
  | .d x :: us => (tOf us).map (.inl x :: ·)
  | .r i :: us => (tOf us).map (.inr i :: ·)
  | _ => none
def eTupM (fas : Env → Hs → R (List Val)) : MV := fun ρ h => (fas ρ h).bind fun us h1 => match tOf us with
  | some ms => if ms.length ≤ sizeLine then .ok (.t ms) h1 else .no
  | none => .no
theorem tOf_ok {K : PySem.W.Frag} {ζ ι : List Addr} {H : Hp} : ∀ {vs : List V} {us : List Val} {ms : List (Sum D Nat)}, VRepAll K ζ ι H vs us → tOf us = some ms → TRepAll K ζ ι H vs ms ∧ vs.length = ms.length
  | _, _, _, .nil, e => by cases e; exact ⟨.nil, rfl⟩
  | _, _, _, .cons (u := u) (us := us) r t, e => by
    cases r with
    | d r =>
      simp only [tOf] at e
      cases q : tOf us with
      | none => rw [q] at e; cases e
      | some ds =>
        rw [q] at e
        cases e
        obtain ⟨h1, h2⟩ := tOf_ok t q
        exact ⟨.d r h1, by rw [List.length_cons, List.length_cons, h2]⟩
    | r r =>
      simp only [tOf] at e
      cases q : tOf us with
      | none => rw [q] at e; cases e
      | some ds =>
        rw [q] at e
        cases e
        obtain ⟨h1, h2⟩ := tOf_ok t q
        exact ⟨.r r h1, by rw [List.length_cons, List.length_cons, h2]⟩
    | x => cases e
    | s => cases e
    | c => cases e
    | t => cases e
theorem ee_tupM {k : Nat} (ha : EA X es fas) : EE X (.Tuple es k pos) (eTupM fas) := ⟨fun W tk => by
  obtain ⟨ta, pa, qa⟩ := ha.run W tk
  refine ⟨_, pe_tup pa, fun ζ ι ρ hs σ H Q er s k => ?_⟩
  refine qa ζ ι ρ hs σ H _ er s (Kt.bind k fun us h1 xs H1 ι1 e1 s1 r1 k1 => ?_)
  split at k1
  · rename_i ms ed
    split at k1
    · rename_i hl
      obtain ⟨rp, el⟩ := tOf_ok r1 ed
      refine ⟨by rw [el]; exact hl, fun q hq => k1.here s1 (same_new hq) (.t upd_same ?_)⟩
      exact rp.mv s1 (Ext.of_same (same_new hq))
    · exact k1.elim
  · exact k1.elim⟩
/-- a new place of the store -/
theorem Sim.push {K : PySem.W.Frag} {ζ ι : List Addr} {H : Hp} {hs : Hs} (s : Sim K ζ ι H hs) {q : Addr} {o : HO} {m : MO} (hq : H q = none) (hm : MRep K (ζ ++ (ι ++ [q])) (upd H q o) q m) : Sim K ζ (ι ++ [q]) (upd H q o) (hs ++ [m]) ∧ Ext ι H (ι ++ [q]) (upd H q o) := by
  have fr := s.fresh hq
  have ex : Ext ι H (ι ++ [q]) (upd H q o) := ⟨List.prefix_append _ _, fun a m n => by
    rcases List.mem_append.mp m with m | m
    · exact absurd m n
    · have e : a = q := by simpa using m
      rw [e]; exact hq, fun a u h _ => same_new hq a u h⟩
  refine ⟨⟨?_, by simp [s.len], fun i a m' h1 h2 => ?_, fun a m => ?_⟩, ex⟩
  · rw [← List.append_assoc]
    refine List.nodup_append.mpr ⟨s.nd, by simp, fun a ha b hb => ?_⟩
    have e : b = q := by simpa using hb
    rw [e]
    rintro rfl
    exact fr ha
  · by_cases hi : i < ι.length
    · rw [List.getElem?_append_left hi] at h1
      rw [List.getElem?_append_left (by rw [← s.len]; exact hi)] at h2
      have z := s.at_ i a m' h1 h2
      cases z with
      | lst z r => exact .lst (same_new hq _ _ z) (r.mv (s.mv ex))
      | dK z r => exact .dK (same_new hq _ _ z) (r.mv (s.mv ex))
      | dT z r => exact .dT (same_new hq _ _ z) (r.mv (s.mv ex))
    · have e : i = ι.length := by
        have := (List.getElem?_eq_some_iff.mp h1).1
        rw [List.length_append, List.length_singleton] at this
        omega
      rw [e, List.getElem?_append_right (Nat.le_refl _), Nat.sub_self] at h1
      rw [e, s.len, List.getElem?_append_right (Nat.le_refl _), Nat.sub_self] at h2
      cases h1
      cases h2
      exact hm
  · rcases s.ap a m with ⟨x, z⟩ | ⟨x, z⟩ | ⟨x, z⟩
    · exact .inl ⟨x, same_new hq _ _ z⟩
    · exact .inr (.inl ⟨x, same_new hq _ _ z⟩)
    · exact .inr (.inr ⟨x, same_new hq _ _ z⟩)
theorem ee_lstM (ha : EA X es fas) : EE X (.List es pos) (eLstM fas) := ⟨fun W tk => by
  obtain ⟨ta, pa, qa⟩ := ha.run W tk
  refine ⟨_, pe_lst pa, fun ζ ι ρ hs σ H Q er s k => ?_⟩
  refine qa ζ ι ρ hs σ H _ er s (Kt.bind k fun us h1 xs H1 ι1 e1 s1 r1 k1 => ?_)
  split at k1
  · rename_i ds ed
    split at k1
    · rename_i hl
      have rp := pDs_ok r1 ed
      refine ⟨by rw [rp.length]; exact hl, fun q hq => ?_⟩
      have ex0 : Ext ι1 H1 (ι1 ++ [q]) (upd H1 q (.lst xs)) := ⟨List.prefix_append _ _, fun a m n => by
        rcases List.mem_append.mp m with m | m
        · exact absurd m n
        · have e : a = q := by simpa using m
          rw [e]; exact hq, fun a u h _ => same_new hq a u h⟩
      obtain ⟨s2, ex⟩ := s1.push hq (m := .lst ds) (.lst upd_same (rp.mv (s1.mv ex0)))
      refine k1 _ _ _ ex s2 (.r ?_)
      rw [← s1.len, List.getElem?_append_right (Nat.le_refl _), Nat.sub_self]
      rfl
    · exact k1.elim
  · exact k1.elim⟩
/-! ### tests -/
variable {ft fu : Env → Hs → R Bool} {rest : List Expr}
theorem asB_ok {K : PySem.W.Frag} {ζ ι : List Addr} {H : Hp} {v : V} {u : Val} {b : Bool} (r : VRep K ζ ι H v u) (e : asB u = some b) : v = .bl b := by
  cases u with
  | d x =>
    cases x with
    | bool c =>
      cases e
      cases r with
      | d r => cases r; rfl
    | _ => cases e
  | _ => cases e
theorem et_val (ha : EE X a fa) (he : ∀ whole, isTrue a X.env whole = (do let v ← whole; standAt a.pos; holding [v] (truthy v)) := by intro _; rfl) : ET X a (tVal fa) := ⟨fun W tk => by
  obtain ⟨ta, pa, qa⟩ := ha.run W tk
  refine ⟨_, pt_val pa he, fun ζ ι ρ hs σ H Q er s k => ?_⟩
  refine qa ζ ι ρ hs σ H _ er s (Kt.bind k fun u h1 x H1 ι1 e1 s1 r1 k1 => ?_)
  obtain ⟨c, ec, k1⟩ := k1.opt
  exact ⟨c, asB_ok r1 ec, k1.here s1 (fun _ _ h => h) rfl⟩⟩
theorem EW.t {f : Env → Hs → R Bool} (h : EW X e f) : ET X e f := ⟨fun W tk => let ⟨t, p, q⟩ := h.run W tk; ⟨t, p.pt, q⟩⟩
theorem ew_and1 (ha : ET X a ft) : EW X (.BoolOp .And [a] pos) ft := ⟨fun W tk => let ⟨t, p, q⟩ := ha.run W tk; ⟨t, pw_and1 p, q⟩⟩
theorem ew_or1 (ha : ET X a ft) : EW X (.BoolOp .Or [a] pos) ft := ⟨fun W tk => let ⟨t, p, q⟩ := ha.run W tk; ⟨t, pw_or1 p, q⟩⟩
theorem ew_and (ha : ET X a ft) (hb : EW X (.BoolOp .And (b :: rest) pos) fu) : EW X (.BoolOp .And (a :: b :: rest) pos) (tAndD ft fu) := ⟨fun W tk => by
  obtain ⟨ta, pa, qa⟩ := ha.run W tk
  obtain ⟨tb, pb, qb⟩ := hb.run W tk
  refine ⟨_, pw_and pa pb, fun ζ ι ρ hs σ H Q er s k => ?_⟩
  refine qa ζ ι ρ hs σ H _ er s (Kt.bind k fun u h1 x H1 ι1 e1 s1 r1 k1 => ?_)
  subst r1
  cases x with
  | true => exact qb ζ ι1 ρ h1 σ H1 Q (er.mv s e1) s1 k1
  | false => exact k1.here s1 (fun _ _ h => h) rfl⟩
theorem ew_or (ha : ET X a ft) (hb : EW X (.BoolOp .Or (b :: rest) pos) fu) : EW X (.BoolOp .Or (a :: b :: rest) pos) (tOrD ft fu) := ⟨fun W tk => by
  obtain ⟨ta, pa, qa⟩ := ha.run W tk
  obtain ⟨tb, pb, qb⟩ := hb.run W tk
  refine ⟨_, pw_or pa pb, fun ζ ι ρ hs σ H Q er s k => ?_⟩
  refine qa ζ ι ρ hs σ H _ er s (Kt.bind k fun u h1 x H1 ι1 e1 s1 r1 k1 => ?_)
  subst r1
  cases x with
  | false => exact qb ζ ι1 ρ h1 σ H1 Q (er.mv s e1) s1 k1
  | true => exact k1.here s1 (fun _ _ h => h) rfl⟩
theorem et_not (ha : ET X a ft) : ET X (.UnaryOp .Not a pos) (tNotD ft) := ⟨fun W tk => by
  obtain ⟨ta, pa, qa⟩ := ha.run W tk
  refine ⟨_, pt_not pa, fun ζ ι ρ hs σ H Q er s k => ?_⟩
  refine qa ζ ι ρ hs σ H _ er s (Kt.bind k fun u h1 x H1 ι1 e1 s1 r1 k1 => ?_)
  subst r1
  exact k1.here s1 (fun _ _ h => h) rfl⟩
theorem ee_one {op : BoolOp} (ha : EE X a fa) : EE X (.BoolOp op [a] pos) fa := ⟨fun W tk => let ⟨t, p, q⟩ := ha.run W tk; ⟨t, pe_one p, q⟩⟩
theorem ee_and (ha : EE X a fa) (hb : EE X (.BoolOp .And (b :: rest) pos) fb) : EE X (.BoolOp .And (a :: b :: rest) pos) (eAnd fa fb) := ⟨fun W tk => by
  obtain ⟨ta, pa, qa⟩ := ha.run W tk
  obtain ⟨tb, pb, qb⟩ := hb.run W tk
  refine ⟨_, pe_and pa pb, fun ζ ι ρ hs σ H Q er s k => ?_⟩
  refine qa ζ ι ρ hs σ H _ er s (Kt.bind k fun u h1 x H1 ι1 e1 s1 r1 k1 => ?_)
  cases q : asB u with
  | none => rw [q] at k1; exact k1.elim
  | some c =>
    rw [q] at k1
    refine ⟨c, asB_ok r1 q, ?_⟩
    cases c with
    | true => exact qb ζ ι1 ρ h1 σ H1 Q (er.mv s e1) s1 k1
    | false => exact k1.here s1 (fun _ _ h => h) (.d (.bl false))⟩
theorem ee_or (ha : EE X a fa) (hb : EE X (.BoolOp .Or (b :: rest) pos) fb) : EE X (.BoolOp .Or (a :: b :: rest) pos) (eOr fa fb) := ⟨fun W tk => by
  obtain ⟨ta, pa, qa⟩ := ha.run W tk
  obtain ⟨tb, pb, qb⟩ := hb.run W tk
  refine ⟨_, pe_or pa pb, fun ζ ι ρ hs σ H Q er s k => ?_⟩
  refine qa ζ ι ρ hs σ H _ er s (Kt.bind k fun u h1 x H1 ι1 e1 s1 r1 k1 => ?_)
  cases q : asB u with
  | none => rw [q] at k1; exact k1.elim
  | some c =>
    rw [q] at k1
    refine ⟨c, asB_ok r1 q, ?_⟩
    cases c with
    | false => exact qb ζ ι1 ρ h1 σ H1 Q (er.mv s e1) s1 k1
    | true => exact k1.here s1 (fun _ _ h => h) (.d (.bl true))⟩
theorem ee_not (ha : EE X a fa) : EE X (.UnaryOp .Not a pos) (eNot fa) := ⟨fun W tk => by
  obtain ⟨ta, pa, qa⟩ := ha.run W tk
  refine ⟨_, pe_not pa, fun ζ ι ρ hs σ H Q er s k => ?_⟩
  refine qa ζ ι ρ hs σ H _ er s (Kt.bind k fun u h1 x H1 ι1 e1 s1 r1 k1 => ?_)
  cases q : asB u with
  | none => rw [q] at k1; exact k1.elim
  | some c =>
    rw [q] at k1
    exact ⟨c, asB_ok r1 q, k1.here s1 (fun _ _ h => h) (.d (.bl _))⟩⟩
theorem ee_if {c : Expr} (hc : ET X c ft) (ha : EE X a fa) (hb : EE X b fb) : EE X (.IfExp c a b pos) (eIf ft fa fb) := ⟨fun W tk => by
  obtain ⟨tc, pc, qc⟩ := hc.run W tk
  obtain ⟨ta, pa, qa⟩ := ha.run W tk
  obtain ⟨tb, pb, qb⟩ := hb.run W tk
  refine ⟨_, pe_ifExp pc pa pb, fun ζ ι ρ hs σ H Q er s k => ?_⟩
  refine qc ζ ι ρ hs σ H _ er s (Kt.bind k fun u h1 x H1 ι1 e1 s1 r1 k1 => ?_)
  subst r1
  cases x with
  | true => exact qa ζ ι1 ρ h1 σ H1 Q (er.mv s e1) s1 k1
  | false => exact qb ζ ι1 ρ h1 σ H1 Q (er.mv s e1) s1 k1⟩
theorem isN_ok {K : PySem.W.Frag} {ζ ι : List Addr} {H : Hp} {v : V} {u : Val} (r : VRep K ζ ι H v u) : decide (v = .non) = isNone u := by
  cases r with
  | d r => cases r <;> simp [isNone]
  | r => simp [isNone]
  | x => simp [isNone]
  | s => simp [isNone]
  | c => simp [isNone]
  | t => simp [isNone]
theorem ee_isN {j : Nat} {p' : Pos} (ha : EE X a fa) : EE X (.Compare a [.Is] [.Constant .none j p'] pos) (eIsN fa) := ⟨fun W tk => by
  obtain ⟨ta, pa, qa⟩ := ha.run W tk
  refine ⟨_, pe_cmp (pc_isN pa) rfl, fun ζ ι ρ hs σ H Q er s k => ?_⟩
  refine qa ζ ι ρ hs σ H _ er s (Kt.bind k fun u h1 x H1 ι1 e1 s1 r1 k1 => ?_)
  have e := isN_ok r1
  refine k1.here s1 (fun _ _ h => h) ?_
  rw [e]
  exact .d (.bl _)⟩
theorem ee_notN {j : Nat} {p' : Pos} (ha : EE X a fa) : EE X (.Compare a [.IsNot] [.Constant .none j p'] pos) (eNotN fa) := ⟨fun W tk => by
  obtain ⟨ta, pa, qa⟩ := ha.run W tk
  refine ⟨_, pe_cmp (pc_notN pa) rfl, fun ζ ι ρ hs σ H Q er s k => ?_⟩
  refine qa ζ ι ρ hs σ H _ er s (Kt.bind k fun u h1 x H1 ι1 e1 s1 r1 k1 => ?_)
  have e := isN_ok r1
  refine k1.here s1 (fun _ _ h => h) ?_
  rw [e]
  exact .d (.bl _)⟩
end
end DL

set_option Elab.async false
set_option linter.all false
set_option maxRecDepth 100000
set_option maxHeartbeats 1000000
namespace DL
open PySem PySem.Spec PyProof.Rows L2

/-! ### zip of any two of lists and tuples: a source is a tuple (true) or a list (false) -/
def SrcAt (p : Bool) (h : Heap) (a : Addr) (xs : Array Value) : Prop := if p = true then h.IsTuple a xs else h.IsList a xs
def CurAt (p : Bool) (h : Heap) (it a : Addr) (k : Nat) : Prop := if p = true then h.IsTupleIter it a k else h.IsListIter it a k
def curObj (p : Bool) (a : Addr) : Obj := { cls := .type (if p = true then "tuple_iterator" else "list_iterator"), data := .fields #[.ref a, .int 0 0] }
section
variable {p : Bool} {h h' : Heap} {a b it : Addr} {xs : Array Value} {k : Nat}
theorem SrcAt.move (x : SrcAt p h a xs) (e : ∀ o, h.get? a = some o → h'.get? a = some o) : SrcAt p h' a xs := by
  cases p
  · exact Heap.IsList.at x e
  · exact Heap.IsTuple.at x e
theorem CurAt.move (x : CurAt p h it a k) (e : ∀ o, h.get? it = some o → h'.get? it = some o) : CurAt p h' it a k := by
  cases p
  · exact Heap.IsListIter.at x e
  · exact Heap.IsTupleIter.at x e
theorem CurAt.obj (x : CurAt p h it a k) : ∃ o, h.get? it = some o ∧ o.data = .fields #[.ref a, .int k 0] := by
  cases p
  · obtain ⟨o, h1, _, h2⟩ := (show h.IsListIter it a k from x)
    exact ⟨o, h1, h2⟩
  · obtain ⟨o, h1, _, h2⟩ := (show h.IsTupleIter it a k from x)
    exact ⟨o, h1, h2⟩
theorem SrcAt.obj (x : SrcAt p h a xs) : ∃ o, h.get? a = some o := by
  cases p
  · obtain ⟨o, h1, _⟩ := (show h.IsList a xs from x)
    exact ⟨o, h1⟩
  · obtain ⟨o, h1, _⟩ := (show h.IsTuple a xs from x)
    exact ⟨o, h1⟩
theorem CurAt.new (e : h.get? it = some (curObj p a)) : CurAt p h it a 0 := by
  cases p
  · exact ⟨_, e, rfl, rfl⟩
  · exact ⟨_, e, rfl, rfl⟩
end
section
variable {prog : Program} {w : World} {A : Around} {E : Value → Shared → Prop} {s : Shared} {p q : Bool}
theorem cur_next {it l : Addr} {k : Nat} {xs : Array Value} {x : Value} {Q : Value → Shared → Prop} (c : CurAt p s.heap it l k) (d : SrcAt p s.heap l xs) (e : xs[k]? = some x)
    (g : ∀ h2, CurAt p h2 it l (k + 1) → Heap.SameBut it s.heap h2 → Q x { s with heap := h2 }) : wpAny (model prog w) A (Builtin.SmallTypes.nextOf (.ref it)) Q E s := by
  cases p
  · exact wpAny_nextOf_list_item c d e g
  · exact RZ.nextOf_tuple_item c d e g
theorem cur_stop {it l : Addr} {k : Nat} {xs : Array Value} {Q : Value → Shared → Prop} (hh : A.handled = none) (c : CurAt p s.heap it l k) (d : SrcAt p s.heap l xs) (e : xs[k]? = none)
    (g : ∀ h2 ex, Heap.ExtBut it s.heap h2 → (∃ o, h2.get? ex = some o ∧ o.cls = .type "StopIteration") → E (.ref ex) { s with heap := h2 }) : wpAny (model prog w) A (Builtin.SmallTypes.nextOf (.ref it)) Q E s := by
  cases p
  · exact wpAny_nextOf_list_end hh c d e g
  · exact RZ.nextOf_tuple_end hh c d e g
theorem cur_make {l : Addr} {xs : Array Value} {Q : Value → Shared → Prop} (d : SrcAt p s.heap l xs) (g : Q (.ref s.heap.objs.size) { s with heap := s.heap.push (curObj p l) }) : wpAny (model prog w) A (pyIter (.ref l)) Q E s := by
  cases p
  · exact wpAny_pyIter_list d g
  · exact wpAny_pyIter_tuple d g
/-- all but the zip's own five objects stays -/
def Rest (z TO i1 i2 : Addr) (h h' : Heap) : Prop := ∀ c o, c ≠ z → c ≠ TO → c ≠ i1 → c ≠ i2 → h.get? c = some o → h'.get? c = some o
theorem zipG_item {z TI TO i1 i2 l1 l2 : Addr} {k1 k2 : Nat} {xs ys : Array Value} {x y a b : Value} {Q : Value → Shared → Prop} (D : ZipApart z TI TO i1 i2 l1 l2)
    (zf : IsZip s.heap z TI TO .none) (ti : IsPair s.heap TI (.ref i1) (.ref i2)) (to : IsPair s.heap TO a b) (c1 : CurAt p s.heap i1 l1 k1) (c2 : CurAt q s.heap i2 l2 k2) (d1 : SrcAt p s.heap l1 xs) (d2 : SrcAt q s.heap l2 ys) (ex : xs[k1]? = some x) (ey : ys[k2]? = some y)
    (g : ∀ hE, IsZip hE z TI TO (rawInt s.heap.objs.size) → IsPair hE TO x y → CurAt p hE i1 l1 (k1 + 1) → CurAt q hE i2 l2 (k2 + 1) → IsPair hE s.heap.objs.size x y → hE.objs.size = s.heap.objs.size + 1 → Rest z TO i1 i2 s.heap hE → Q (.ref s.heap.objs.size) { s with heap := hE }) :
    wpAny (model prog w) A (Builtin.«zip.__next__» ⟨[.ref z], []⟩) (fun fin s' => ∃ v, fin = .done (.ret v) ∧ Q v s') E s := by
  show wpAny _ _ (field (.ref z) 2 >>= _) _ _ _
  refine wpAny_bind (wpAny_field zf rfl (x := .bool false) rfl ?_)
  show wpAny _ _ (field (.ref z) 3 >>= _) _ _ _
  refine wpAny_bind (wpAny_field zf rfl (x := .ref TI) rfl (wpAny_bind (wpAny_seqItems ti rfl ?_)))
  show wpAny _ _ (Builtin.SmallTypes.ownedTupleIsFree (.ref z) >>= _) _ _ _
  unfold Builtin.SmallTypes.ownedTupleIsFree
  refine wpAny_bind (wpAny_bind (wpAny_field zf rfl (x := .none) rfl (wpAny_pure ?_)))
  simp only [if_true]
  refine wpAny_bind (wpAny_rule (wpAny_bind (wpAny_field zf rfl (x := .ref TO) rfl (wpAny_bind (wpAny_setField_rec zf (by simp) fun hA zA sA => wpAny_bind ?_)))))
  have zA' : IsZip hA z TI TO .ellipsis := zA
  simp only [List.zipIdx_cons, List.zipIdx_nil, List.forIn_cons, List.forIn_nil]
  have mA := sA.extBut
  -- the first source's item
  refine wpAny_bind (wpAny_bind (wpAny_onRaise ?_))
  show wpAny _ _ (Builtin.SmallTypes.nextOf (.ref i1) >>= _) _ _ _
  refine wpAny_bind (cur_next (c1.move fun o => mA _ o D.i1z) (d1.move fun o => mA _ o D.l1z) ex fun hB cB sB => wpAny_pure ?_)
  have mB := sB.extBut
  have toB : IsPair hB TO a b := mB _ _ D.TOi1 (mA _ _ D.TOz to)
  refine wpAny_bind (wpAny_seqItems toB rfl (wpAny_bind (wpAny_updateSeq_pair toB fun hC tC sC => wpAny_bind (wpAny_letGo (wpAny_pure ?_)))))
  have toC : IsPair hC TO x b := tC
  have mC := sC.extBut
  -- the second's
  refine wpAny_bind (wpAny_bind (wpAny_onRaise ?_))
  show wpAny _ _ (Builtin.SmallTypes.nextOf (.ref i2) >>= _) _ _ _
  refine wpAny_bind (cur_next (c2.move fun o e => mC _ o D.TOi2.symm (mB _ o D.i12.symm (mA _ o D.i2z e))) (d2.move fun o e => mC _ o D.l2TO (mB _ o D.l2i1 (mA _ o D.l2z e))) ey fun hD cD sD => wpAny_pure ?_)
  have mD := sD.extBut
  have toD : IsPair hD TO x b := mD _ _ D.TOi2 toC
  refine wpAny_bind (wpAny_seqItems toD rfl (wpAny_bind (wpAny_updateSeq_pair toD fun hF tF sF => wpAny_bind (wpAny_letGo (wpAny_pure (wpAny_pure ?_))))))
  have toF : IsPair hF TO x y := tF
  have mF := sF.extBut
  have size : hF.objs.size = s.heap.objs.size := by rw [sF.1, sD.1, sC.1, sB.1, sA.1]
  have zF : IsZip hF z TI TO .ellipsis := mF _ _ D.TOz.symm (mD _ _ D.i2z.symm (mC _ _ D.TOz.symm (mB _ _ D.i1z.symm zA')))
  have rest : Rest z TO i1 i2 s.heap hF := fun c o n1 n2 n3 n4 e => mF _ _ n2 (mD _ _ n4 (mC _ _ n2 (mB _ _ n3 (mA _ _ n1 e))))
  have c1F : CurAt p hF i1 l1 (k1 + 1) := cB.move fun o e => mF _ _ D.TOi1.symm (mD _ _ D.i12 (mC _ _ D.TOi1.symm e))
  have c2F : CurAt q hF i2 l2 (k2 + 1) := cD.move fun o e => mF _ _ D.TOi2.symm e
  have below : z < hF.objs.size := Heap.lt_size zF
  -- the pair is made and handed out
  refine wpAny_bind (wpAny_seqItems toF rfl (wpAny_bind (wpAny_newTuple ?_)))
  show wpAny _ _ (Builtin.SmallTypes.ownedTupleHandOut (.ref z) (.ref hF.objs.size) >>= _) _ _ _
  unfold Builtin.SmallTypes.ownedTupleHandOut
  have zG : IsZip (hF.push { cls := .type "tuple", data := .seq #[x, y] }) z TI TO .ellipsis := Heap.get?_push_of_some _ zF
  refine wpAny_bind (wpAny_bind (wpAny_setField_rec zG (by simp) fun hI zI sI => ?_))
  have zI' : IsZip hI z TI TO (rawInt hF.objs.size) := zI
  refine wpAny_setField_rec zI' (by simp) fun hJ zJ sJ => wpAny_pure ⟨_, rfl, ?_⟩
  have zJ' : IsZip hJ z TI TO (rawInt hF.objs.size) := zJ
  have up : ∀ c o, c ≠ z → hF.get? c = some o → hJ.get? c = some o := fun c o n e => sJ.extBut _ _ n (sI.extBut _ _ n (Heap.get?_push_of_some _ e))
  have made : IsPair hJ hF.objs.size x y := sJ.extBut _ _ (Nat.ne_of_gt below) (sI.extBut _ _ (Nat.ne_of_gt below) (Heap.get?_push_size _ rfl))
  have sizeJ : hJ.objs.size = hF.objs.size + 1 := by rw [sJ.1, sI.1, Heap.size_push]
  rw [size] at zJ' made sizeJ
  show Q (.ref hF.objs.size) _
  rw [size]
  exact g hJ zJ' (up _ _ D.TOz toF) (c1F.move fun o e => up _ o D.i1z e) (c2F.move fun o e => up _ o D.i2z e) made sizeJ fun c o n1 n2 n3 n4 e => up c o n1 (rest c o n1 n2 n3 n4 e)
theorem zipG_stop {z TI TO i1 i2 l1 l2 : Addr} {k1 k2 : Nat} {xs ys : Array Value} {a b : Value} {Q : Fin → Shared → Prop} (hh : A.handled = none) (D : ZipApart z TI TO i1 i2 l1 l2)
    (zf : IsZip s.heap z TI TO .none) (ti : IsPair s.heap TI (.ref i1) (.ref i2)) (to : IsPair s.heap TO a b) (c1 : CurAt p s.heap i1 l1 k1) (c2 : CurAt q s.heap i2 l2 k2) (d1 : SrcAt p s.heap l1 xs) (d2 : SrcAt q s.heap l2 ys) (over : xs[k1]? = none ∨ ys[k2]? = none)
    (g : ∀ hE ex, Rest z TO i1 i2 s.heap hE → (∃ o, hE.get? ex = some o ∧ o.cls = .type "StopIteration") → E (.ref ex) { s with heap := hE }) : wpAny (model prog w) A (Builtin.«zip.__next__» ⟨[.ref z], []⟩) Q E s := by
  show wpAny _ _ (field (.ref z) 2 >>= _) _ _ _
  refine wpAny_bind (wpAny_field zf rfl (x := .bool false) rfl ?_)
  show wpAny _ _ (field (.ref z) 3 >>= _) _ _ _
  refine wpAny_bind (wpAny_field zf rfl (x := .ref TI) rfl (wpAny_bind (wpAny_seqItems ti rfl ?_)))
  show wpAny _ _ (Builtin.SmallTypes.ownedTupleIsFree (.ref z) >>= _) _ _ _
  unfold Builtin.SmallTypes.ownedTupleIsFree
  refine wpAny_bind (wpAny_bind (wpAny_field zf rfl (x := .none) rfl (wpAny_pure ?_)))
  simp only [if_true]
  refine wpAny_bind (wpAny_rule (wpAny_bind (wpAny_field zf rfl (x := .ref TO) rfl (wpAny_bind (wpAny_setField_rec zf (by simp) fun hA zA sA => wpAny_bind ?_)))))
  have zA' : IsZip hA z TI TO .ellipsis := zA
  simp only [List.zipIdx_cons, List.zipIdx_nil, List.forIn_cons, List.forIn_nil]
  have mA := sA.extBut
  refine wpAny_bind (wpAny_bind (wpAny_onRaise ?_))
  show wpAny _ _ (Builtin.SmallTypes.nextOf (.ref i1) >>= _) _ _ _
  cases ex : xs[k1]? with
  | none =>
    refine wpAny_bind (cur_stop hh (c1.move fun o => mA _ o D.i1z) (d1.move fun o => mA _ o D.l1z) ex fun hB e mB st => ?_)
    obtain ⟨oe, ge, ce⟩ := st
    have zB : IsZip hB z TI TO .ellipsis := mB _ _ D.i1z.symm zA'
    have ne : e ≠ z := fun t => by subst t; rw [zB] at ge; cases ge; simp at ce
    exact wpAny_setField_rec zB (by simp) fun hC _ sC => g hC e (fun c o n1 _ n3 _ t => sC.extBut _ _ n1 (mB _ _ n3 (mA _ _ n1 t))) ⟨oe, sC.extBut _ _ ne ge, ce⟩
  | some x =>
    have ey : ys[k2]? = none := over.resolve_left (by rw [ex]; exact nofun)
    refine wpAny_bind (cur_next (c1.move fun o => mA _ o D.i1z) (d1.move fun o => mA _ o D.l1z) ex fun hB cB sB => wpAny_pure ?_)
    have mB := sB.extBut
    have toB : IsPair hB TO a b := mB _ _ D.TOi1 (mA _ _ D.TOz to)
    refine wpAny_bind (wpAny_seqItems toB rfl (wpAny_bind (wpAny_updateSeq_pair toB fun hC tC sC => wpAny_bind (wpAny_letGo (wpAny_pure ?_)))))
    have mC := sC.extBut
    refine wpAny_bind (wpAny_bind (wpAny_onRaise ?_))
    show wpAny _ _ (Builtin.SmallTypes.nextOf (.ref i2) >>= _) _ _ _
    refine wpAny_bind (cur_stop hh (c2.move fun o e => mC _ o D.TOi2.symm (mB _ o D.i12.symm (mA _ o D.i2z e))) (d2.move fun o e => mC _ o D.l2TO (mB _ o D.l2i1 (mA _ o D.l2z e))) ey fun hD e mD st => ?_)
    obtain ⟨oe, ge, ce⟩ := st
    have zD : IsZip hD z TI TO .ellipsis := mD _ _ D.i2z.symm (mC _ _ D.TOz.symm (mB _ _ D.i1z.symm zA'))
    have ne : e ≠ z := fun t => by subst t; rw [zD] at ge; cases ge; simp at ce
    exact wpAny_setField_rec zD (by simp) fun hF _ sF => g hF e (fun c o n1 n2 n3 n4 t => sF.extBut _ _ n1 (mD _ _ n4 (mC _ _ n2 (mB _ _ n3 (mA _ _ n1 t))))) ⟨oe, sF.extBut _ _ ne ge, ce⟩
abbrev zc1 (p : Bool) (h : Heap) (l1 : Addr) : Heap := h.push (curObj p l1)
abbrev zc2 (p q : Bool) (h : Heap) (l1 l2 : Addr) : Heap := (zc1 p h l1).push (curObj q l2)
abbrev zc3 (p q : Bool) (h : Heap) (l1 l2 : Addr) : Heap := (zc2 p q h l1 l2).push { cls := .type "tuple", data := .seq #[.ref h.objs.size, .ref (zc1 p h l1).objs.size] }
abbrev zc4 (p q : Bool) (h : Heap) (l1 l2 : Addr) : Heap := (zc3 p q h l1 l2).push { cls := .type "tuple", data := .seq #[.none, .none] }
abbrev zc5 (p q : Bool) (h : Heap) (l1 l2 : Addr) : Heap := (zc4 p q h l1 l2).push { cls := .type "zip", data := .fields #[.none, .bool false, .bool false, .ref (zc2 p q h l1 l2).objs.size, .ref (zc3 p q h l1 l2).objs.size] }
end
theorem zip_made (p q : Bool) (l1 l2 : Addr) (xs ys : Array Value) :
    Meets (Builtin.«zip.__new__» ⟨[.type "zip", .ref l1, .ref l2], []⟩) (fun _ R s => SrcAt p s.heap l1 xs ∧ SrcAt q s.heap l2 ys ∧ R (.ok (.ret (.ref (zc4 p q s.heap l1 l2).objs.size))) { s with heap := zc5 p q s.heap l1 l2 }) :=
  .of_wp fun prog w A R s c => by
    obtain ⟨hp, g, d, tk, os⟩ := s
    obtain ⟨d1, d2, c⟩ := c
    have kind := sub_zip
    have e1 : SrcAt p (Shared.heap ⟨hp, g, d, tk, os⟩) l1 xs := d1
    have e2 : SrcAt q (Shared.heap ⟨hp.push (curObj p l1), g, d, tk, os⟩) l2 ys := d2.move fun _ t => Heap.get?_push_of_some _ t
    wp_walk using cur_make e1, cur_make e2
    exact ⟨_, rfl, c⟩
section
variable {prog : Program} {w : World} {A : Around} {E : Value → Shared → Prop} {s : Shared} {p q : Bool}
theorem call_zipG {l1 l2 : Addr} {xs ys : Array Value} {Q : Value → Shared → Prop} (d1 : SrcAt p s.heap l1 xs) (d2 : SrcAt q s.heap l2 ys)
    (g : ∀ hE, IsZip hE (s.heap.objs.size + 4) (s.heap.objs.size + 2) (s.heap.objs.size + 3) .none → IsPair hE (s.heap.objs.size + 2) (.ref s.heap.objs.size) (.ref (s.heap.objs.size + 1)) → IsPair hE (s.heap.objs.size + 3) .none .none →
      CurAt p hE s.heap.objs.size l1 0 → CurAt q hE (s.heap.objs.size + 1) l2 0 → (∀ c o, s.heap.get? c = some o → hE.get? c = some o) → Q (.ref (s.heap.objs.size + 4)) { s with heap := hE }) :
    wpAny (model prog w) A (call (.type "zip") [.ref l1, .ref l2]) Q E s := by
  have s1 : (zc1 p s.heap l1).objs.size = s.heap.objs.size + 1 := Heap.size_push ..
  have s2 : (zc2 p q s.heap l1 l2).objs.size = s.heap.objs.size + 2 := by rw [Heap.size_push, s1]
  have s3 : (zc3 p q s.heap l1 l2).objs.size = s.heap.objs.size + 3 := by rw [Heap.size_push, s2]
  have s4 : (zc4 p q s.heap l1 l2).objs.size = s.heap.objs.size + 4 := by rw [Heap.size_push, s3]
  have up4 : ∀ c o, (zc4 p q s.heap l1 l2).get? c = some o → (zc5 p q s.heap l1 l2).get? c = some o := fun _ _ e => Heap.get?_push_of_some _ e
  have up3 : ∀ c o, (zc3 p q s.heap l1 l2).get? c = some o → (zc5 p q s.heap l1 l2).get? c = some o := fun c o e => up4 c o (Heap.get?_push_of_some _ e)
  have up2 : ∀ c o, (zc2 p q s.heap l1 l2).get? c = some o → (zc5 p q s.heap l1 l2).get? c = some o := fun c o e => up3 c o (Heap.get?_push_of_some _ e)
  have up1 : ∀ c o, (zc1 p s.heap l1).get? c = some o → (zc5 p q s.heap l1 l2).get? c = some o := fun c o e => up2 c o (Heap.get?_push_of_some _ e)
  have a5 : (zc5 p q s.heap l1 l2).get? (zc4 p q s.heap l1 l2).objs.size = some _ := Heap.get?_push_size _ rfl
  have a4 := up4 (zc3 p q s.heap l1 l2).objs.size _ (Heap.get?_push_size _ rfl)
  have a3 := up3 (zc2 p q s.heap l1 l2).objs.size _ (Heap.get?_push_size _ rfl)
  have a2 := up2 (zc1 p s.heap l1).objs.size _ (Heap.get?_push_size (o := curObj q l2) _ rfl)
  have a1 := up1 s.heap.objs.size _ (Heap.get?_push_size (o := curObj p l1) _ rfl)
  rw [s2, s3, s4] at a5
  rw [s3] at a4
  rw [s1, s2] at a3
  rw [s1] at a2
  refine callType_new F.called_zip (by decide) (F.typeCall_zip_2 _ _) (F.newCall_zip_2 _ _) (fun obj => F.args_object_init_3 obj _ _) F.entry_zip_new (zip_made p q l1 l2 xs ys) ⟨d1, d2, ?_⟩
  show _ ∧ _
  rw [s4]
  exact ⟨⟨_, a5, rfl⟩, g _ a5 a3 a4 (.new a1) (.new a2) fun c o e => up1 c o (Heap.get?_push_of_some _ e)⟩
theorem pyNext_zipG_item {z TI TO i1 i2 l1 l2 : Addr} {k1 k2 : Nat} {xs ys : Array Value} {x y a b : Value} {Q : Option Value → Shared → Prop} (D : ZipApart z TI TO i1 i2 l1 l2)
    (zf : IsZip s.heap z TI TO .none) (ti : IsPair s.heap TI (.ref i1) (.ref i2)) (to : IsPair s.heap TO a b) (c1 : CurAt p s.heap i1 l1 k1) (c2 : CurAt q s.heap i2 l2 k2) (d1 : SrcAt p s.heap l1 xs) (d2 : SrcAt q s.heap l2 ys) (ex : xs[k1]? = some x) (ey : ys[k2]? = some y)
    (g : ∀ hE, IsZip hE z TI TO (rawInt s.heap.objs.size) → IsPair hE TO x y → CurAt p hE i1 l1 (k1 + 1) → CurAt q hE i2 l2 (k2 + 1) → IsPair hE s.heap.objs.size x y → hE.objs.size = s.heap.objs.size + 1 → Rest z TO i1 i2 s.heap hE → Q (some (.ref s.heap.objs.size)) { s with heap := hE }) :
    wpAny (model prog w) A (pyNext (.ref z)) Q E s := by
  have ty : s.TypeIs (.ref z) "zip" := ⟨_, zf, rfl⟩
  unfold pyNext
  exact wpAny_bind (wpAny_attempt (wpAny_callSpecial?_slot (name := Str.ofString "__next__") ty F.slot_zip_next (wpAny_call_entry F.slot_zip_next ty F.entry_zip_next
    (zipG_item D zf ti to c1 c2 d1 d2 ex ey fun hE a1 a2 a3 a4 a5 a6 a7 => wpAny_pure (g hE a1 a2 a3 a4 a5 a6 a7)) (F.args_zip_next_1 _))))
theorem pyNext_zipG_stop {z TI TO i1 i2 l1 l2 : Addr} {k1 k2 : Nat} {xs ys : Array Value} {a b : Value} {Q : Option Value → Shared → Prop} (hh : A.handled = none) (D : ZipApart z TI TO i1 i2 l1 l2)
    (zf : IsZip s.heap z TI TO .none) (ti : IsPair s.heap TI (.ref i1) (.ref i2)) (to : IsPair s.heap TO a b) (c1 : CurAt p s.heap i1 l1 k1) (c2 : CurAt q s.heap i2 l2 k2) (d1 : SrcAt p s.heap l1 xs) (d2 : SrcAt q s.heap l2 ys) (over : xs[k1]? = none ∨ ys[k2]? = none)
    (g : ∀ hE, Rest z TO i1 i2 s.heap hE → Q none { s with heap := hE }) : wpAny (model prog w) A (pyNext (.ref z)) Q E s := by
  have ty : s.TypeIs (.ref z) "zip" := ⟨_, zf, rfl⟩
  unfold pyNext
  refine wpAny_bind (wpAny_attempt (wpAny_callSpecial?_slot (name := Str.ofString "__next__") ty F.slot_zip_next (wpAny_call_entry F.slot_zip_next ty F.entry_zip_next (zipG_stop hh D zf ti to c1 c2 d1 d2 over fun hE e r st => ?_) (F.args_zip_next_1 _))))
  obtain ⟨o, go, co⟩ := st
  exact wpAny_bind (wpAny_isInstance (T := "StopIteration") (b := true) ⟨o, go, co⟩ isSubtype_stop (wpAny_pure (g _ r)))
end
/-- a tuple or a list as it stands -/
def SqB (K : PySem.W.Frag) (p : Bool) (H : Hp) (a : Addr) (xs : List V) : Prop := if p = true then SqT K H a xs else SqL K H a xs
theorem SqB.at_ {X : Cx} {pins : List (Addr × Obj)} {σ : L2.St} {H : Hp} {s : Shared} {p : Bool} {a : Addr} {xs : List V} (I : Inv X pins σ H s) (q : SqB X.K p H a xs) : ∃ its, Vals xs its ∧ SrcAt p s.heap a its.toArray := by
  cases p
  · obtain ⟨its, r, d, _⟩ := I.list (show SqL X.K H a xs from q)
    exact ⟨its, r, d.isList⟩
  · obtain ⟨its, r, d, _⟩ := I.tuple (show SqT X.K H a xs from q)
    exact ⟨its, r, d⟩
theorem SqB.inj {X : Cx} {pins : List (Addr × Obj)} {σ : L2.St} {H : Hp} {s : Shared} {p : Bool} {a : Addr} {xs ys : List V} (I : Inv X pins σ H s) (h1 : SqB X.K p H a xs) (h2 : SqB X.K p H a ys) : xs = ys := by
  cases p
  · exact I.list_inj h1 h2
  · exact I.tuple_inj h1 h2
def ItzG (K : PySem.W.Frag) (p q : Bool) (a b : Addr) : It :=
  ⟨fun i H => ∃ xs ys x y, SqB K p H a xs ∧ SqB K q H b ys ∧ xs[i]? = some x ∧ ys[i]? = some y,
    fun i H v H' => ∃ T x y, v = .ref T ∧ H T = none ∧ H' = upd H T (.tup [x, y]) ∧ (∀ xs, SqB K p H a xs → xs[i]? = some x) ∧ ∀ ys, SqB K q H b ys → ys[i]? = some y,
    fun i H => ∃ xs ys, SqB K p H a xs ∧ SqB K q H b ys ∧ (xs.length ≤ i ∨ ys.length ≤ i)⟩
theorem five {z TI TO i1 i2 c : Addr} (h : c ∈ [z, TI, TO, i1, i2]) : c = z ∨ c = TI ∨ c = TO ∨ c = i1 ∨ c = i2 := by simpa using h
theorem turn_zipG {P : Program} {w : World} {K : PySem.W.Frag} {p q : Bool} {elts : List Expr} {kk : Nat} {tpos : Pos} {a b z TI TO i1 i2 : Addr} (D : ZipApart z TI TO i1 i2 a b) :
    Turn P w K (.Tuple elts kk tpos) (ItzG K p q a b) [z, TI, TO, i1, i2] z (fun i h => IsZip h z TI TO .none ∧ IsPair h TI (.ref i1) (.ref i2) ∧ (∃ x y, IsPair h TO x y) ∧ CurAt p h i1 a i ∧ CurAt q h i2 b i) where
  mem := List.mem_cons_self
  obj := fun i h ⟨zf, ti, ⟨x, y, to⟩, c1, c2⟩ c hc => by
    obtain ⟨o1, g1, f1⟩ := c1.obj
    obtain ⟨o2, g2, f2⟩ := c2.obj
    rcases five hc with rfl | rfl | rfl | rfl | rfl
    · exact ⟨_, zf, fun v t => nomatch t⟩
    · exact ⟨_, ti, fun v t => nomatch t⟩
    · exact ⟨_, to, fun v t => nomatch t⟩
    · exact ⟨o1, g1, fun v t => by rw [f1] at t; cases t⟩
    · exact ⟨o2, g2, fun v t => by rw [f2] at t; cases t⟩
  keep := fun i h h' ⟨zf, ti, ⟨x, y, to⟩, c1, c2⟩ k => ⟨k z (by simp) _ zf, k TI (by simp) _ ti, ⟨x, y, k TO (by simp) _ to⟩, c1.move fun o t => k i1 (by simp) o t, c2.move fun o t => k i2 (by simp) o t⟩
  item := by
    intro X hP hw hK hc i pins s σ H E I hf st hg
    subst hP hw hK
    obtain ⟨zf, ti, ⟨x0, y0, to⟩, c1, c2⟩ := st
    obtain ⟨xs, ys, x, y, qx, qy, hx, hy⟩ := hg
    obtain ⟨us, ru, du⟩ := qx.at_ I
    obtain ⟨vs, rv, dv⟩ := qy.at_ I
    obtain ⟨u, hu, ru⟩ := ru.get hx
    obtain ⟨v, hv, rv⟩ := rv.get hy
    have below : z < s.heap.objs.size := Heap.lt_size zf
    have lows : ∀ c ∈ [z, TI, TO, i1, i2], c < s.heap.objs.size := fun c hcm => by
      obtain ⟨o1, g1, _⟩ := c1.obj
      obtain ⟨o2, g2, _⟩ := c2.obj
      rcases five hcm with rfl | rfl | rfl | rfl | rfl
      · exact below
      · exact Heap.lt_size ti
      · exact Heap.lt_size to
      · exact Heap.lt_size g1
      · exact Heap.lt_size g2
    refine pyNext_zipG_item D zf ti to c1 c2 du dv (x := u) (y := v) (by simpa using hu) (by simpa using hv) fun hE zE tE c1E c2E mk sz rest => ⟨_, rfl, wpAny_letOwnedTupleGo_zip (s := { s with heap := hE }) zE fun hG zG sb => ?_⟩
    have pair : hG.get? s.heap.objs.size = some { cls := .type "tuple", data := .seq #[u, v] } := (sb.2 _ (Nat.ne_of_gt below)).trans mk
    have new : ObjOk X.prog X.w (upd H s.heap.objs.size (.tup [x, y])) hG s.heap.objs.size (.tup [x, y]) := ⟨by show 2 ≤ sizeLine; decide, [u, v], .cons ru (.cons rv .nil), ⟨_, pair, rfl, _, rfl⟩⟩
    have others : ∀ c o, c ∉ [z, TI, TO, i1, i2] → s.heap.get? c = some o → hG.get? c = some o := fun c o nm t => by
      have ne : ∀ d ∈ [z, TI, TO, i1, i2], c ≠ d := fun d hd e => nm (e ▸ hd)
      exact (sb.2 c (ne z (by simp))).trans (rest c o (ne z (by simp)) (ne TO (by simp)) (ne i1 (by simp)) (ne i2 (by simp)) t)
    have I1 : Inv X pins σ (upd H s.heap.objs.size (.tup [x, y])) { s with heap := hG } := I.turnedNew (t' := s.toks) (ch := [z, TI, TO, i1, i2]) others hf (Nat.le_refl _) new
    refine ⟨.ref s.heap.objs.size, _, I1, rfl, ⟨_, x, y, rfl, I.hok.fresh (Nat.le_refl _), rfl, fun l hl => by rw [hl.inj I qx]; exact hx, fun l hl => by rw [hl.inj I qy]; exact hy⟩, ⟨zG, ?_, ⟨u, v, ?_⟩, ?_, ?_⟩, fun c hcm => ?_⟩
    · exact (sb.2 _ D.TIz).trans (rest _ _ D.TIz D.TITO D.TIi1 D.TIi2 ti)
    · exact (sb.2 _ D.TOz).trans tE
    · exact c1E.move fun o t => (sb.2 _ D.i1z).trans t
    · exact c2E.move fun o t => (sb.2 _ D.i2z).trans t
    · exact (upd_ne (Nat.ne_of_lt (lows c hcm))).trans (hf c hcm).1
  done := by
    intro X hP hw hK hc i pins s σ H E I hf st hg
    subst hP hw hK
    obtain ⟨zf, ti, ⟨x0, y0, to⟩, c1, c2⟩ := st
    obtain ⟨xs, ys, qx, qy, over⟩ := hg
    obtain ⟨us, ru, du⟩ := qx.at_ I
    obtain ⟨vs, rv, dv⟩ := qy.at_ I
    have n1 := ru.length
    have n2 := rv.length
    have none_ : us.toArray[i]? = none ∨ vs.toArray[i]? = none := over.imp (fun t => by simp; omega) (fun t => by simp; omega)
    exact pyNext_zipG_stop (I.ok.hd hc) D zf ti to c1 c2 du dv none_ fun hE rest => ⟨rfl, I.turnedL (t' := s.toks) (ch := [z, TI, TO, i1, i2]) (fun c o nm t => by
      have ne : ∀ d ∈ [z, TI, TO, i1, i2], c ≠ d := fun d hd e => nm (e ▸ hd)
      exact rest c o (ne z (by simp)) (ne TO (by simp)) (ne i1 (by simp)) (ne i2 (by simp)) t) hf⟩
  self := fun A i s Q E st h => wpAny_pyIter_zip st.1 h
/-- zip(a, b), each a tuple or a list -/
def tZipG (K : PySem.W.Frag) (ta : TA) : TI := fun σ H R => ta σ H fun vs H1 => ∃ a b xs ys p q, vs = [.ref a, .ref b] ∧ SqB K p H1 a xs ∧ SqB K q H1 b ys ∧ R (ItzG K p q a b) H1
theorem pi_zipG {X : Cx} {e e2 : Expr} {ta : TA} {ps pos tpos : Pos} {elts : List Expr} {kk : Nat} (hg : Gl X "zip") (hm : X.mg "zip" = none) (ha : PA X [e, e2] ta)
    (hs : starEach [e, e2] X.env = (false, eval e X.env) :: starEach [e2] X.env := by rfl) (hpl : (backTo pos (starEach [e2] X.env)).any (·.1) = false := by rfl) :
    PI X (.Tuple elts kk tpos) (.Call (.Name "zip" ps) [e, e2] [] pos) (tZipG X.K ta) := ⟨fun pins s σ H R I h => by
  refine Call_ (ld_blt I hg hm PyProof.Rows.boot_zip (PyProof.Rows.callWith_type1 (thn (ha.run pos pins s σ H _ I h) fun us s1 ⟨vs, H1, I1, r1, a, b, xs, ys, p, q, ev, qx, qy, fin⟩ => ?_) hs hpl))
  subst ev
  cases r1 with
  | cons ra rr =>
    cases rr with
    | cons rb rr =>
      cases rr
      cases ra
      cases rb
      obtain ⟨us1, _, du⟩ := qx.at_ I1
      obtain ⟨us2, _, dv⟩ := qy.at_ I1
      obtain ⟨oa, ga⟩ := du.obj
      obtain ⟨ob, gb⟩ := dv.obj
      generalize hN : s1.heap.objs.size = N
      refine call_zipG du dv fun hE zf ti to c1 c2 kept => wpAny_pyIter_zip zf ?_
      rw [hN] at zf ti to c1 c2 ⊢
      have fresh : ∀ c ∈ [N + 4, N + 2, N + 3, N, N + 1], FpOk X pins H1 c := fun c hcm => by
        have le : s1.heap.objs.size ≤ c := by
          rw [hN]
          rcases five hcm with rfl | rfl | rfl | rfl | rfl
          all_goals first | exact Nat.le_add_right _ _ | exact Nat.le_refl _
        exact I1.fpOk le (I1.hok.fresh le)
      have la : a < N := hN ▸ Heap.lt_size ga
      have lb : b < N := hN ▸ Heap.lt_size gb
      exact ⟨N + 4, _, _, _, H1, rfl, I1.kept (t' := s1.toks) kept, turn_zipG (PySem.W.ktu_apart N a b la lb), ⟨zf, ti, ⟨_, _, to⟩, c1, c2⟩, fresh, fin⟩⟩
end DL

set_option Elab.async false
set_option linter.all false
set_option maxRecDepth 100000
set_option maxHeartbeats 1000000
namespace DL
open PySem PySem.Spec PyProof.Rows L2

/-! ### statements: what is wanted of their ends -/
def R.bindS {α : Type} (r : R α) (ρ : Env) (k : α → Hs → S) : S := match r with
  | .ok a h => k a h
  | .ex c v h => .ex c v ρ h
  | .no => .no
@[simp] theorem R.bindS_ok {α : Type} (a : α) (h : Hs) (ρ : Env) (k : α → Hs → S) : (R.ok a h).bindS ρ k = k a h := rfl
@[simp] theorem R.bindS_ex {α : Type} (c : Str) (v : D) (h : Hs) (ρ : Env) (k : α → Hs → S) : (R.ex c v h).bindS ρ k = .ex c v ρ h := rfl
@[simp] theorem R.bindS_no {α : Type} (ρ : Env) (k : α → Hs → S) : (R.no).bindS ρ k = .no := rfl
section
variable {K : PySem.W.Frag} {α β ζ ι ι' ι1 ι2 : List Addr} {H H' H1 H2 : Hp}
def Ks (K : PySem.W.Frag) (ζ ι : List Addr) (H : Hp) (r : S) (D : Ends) (W : WX) : Prop := match r with
  | .nx ρ h => ∀ σ' H' ι', Ext ι H ι' H' → Sim K ζ ι' H' h → ERep K ζ ι' H' σ' ρ → D.nx σ' H'
  | .bk ρ h => ∀ σ' H' ι', Ext ι H ι' H' → Sim K ζ ι' H' h → ERep K ζ ι' H' σ' ρ → D.bk σ' H'
  | .ct ρ h => ∀ σ' H' ι', Ext ι H ι' H' → Sim K ζ ι' H' h → ERep K ζ ι' H' σ' ρ → D.ct σ' H'
  | .rt v h => ∀ x H' ι', Ext ι H ι' H' → Sim K ζ ι' H' h → VRep K ζ ι' H' x v → D.rt x H'
  | .ex c v ρ h => ∀ cls dd σ' H' ι', Ext ι H ι' H' → Sim K ζ ι' H' h → ERep K ζ ι' H' σ' ρ → ExcOk K (ζ ++ ι') H' cls dd c v → W cls dd σ' H'
  | .no => False
theorem Ks.mv {r : S} {D : Ends} {W : WX} (k : Ks K ζ ι H r D W) (e : Ext ι H ι' H') : Ks K ζ ι' H' r D W := by
  cases r with
  | nx ρ h => exact fun σ2 H2 ι2 e2 => k σ2 H2 ι2 (e.trans e2)
  | bk ρ h => exact fun σ2 H2 ι2 e2 => k σ2 H2 ι2 (e.trans e2)
  | ct ρ h => exact fun σ2 H2 ι2 e2 => k σ2 H2 ι2 (e.trans e2)
  | rt v h => exact fun σ2 H2 ι2 e2 => k σ2 H2 ι2 (e.trans e2)
  | ex c v ρ h => exact fun cls dd σ2 H2 ι2 e2 => k cls dd σ2 H2 ι2 (e.trans e2)
  | no => exact k
theorem Ks.bind {γ δ : Type} {rel : List Addr → Hp → δ → γ → Prop} {r : R γ} {ρ : Env} {k : γ → Hs → S} {D : Ends} {W : WX} {Q1 : δ → Hp → Prop} {σ : L2.St} {hs : Hs} (w : Ks K ζ ι H (r.bindS ρ k) D W) (er : ERep K ζ ι H σ ρ) (s : Sim K ζ ι H hs)
    (h : ∀ a hs b H' ι', Ext ι H ι' H' → Sim K ζ ι' H' hs → rel ι' H' b a → Ks K ζ ι' H' (k a hs) D W → Q1 b H') : Kt K ζ rel ι H r Q1 (WE W σ) := by
  cases r with
  | ok a hs => exact fun b H' ι' e s r => h a hs b H' ι' e s r (w.mv e)
  | ex c v hs => exact fun cls dd H' ι' e s2 x => w cls dd σ H' ι' e s2 (er.mv s e) x
  | no => exact w
theorem Ks.nx {ρ : Env} {hs : Hs} {D : Ends} {W : WX} (k : Ks K ζ ι H (.nx ρ hs) D W) (s : Sim K ζ ι H hs) {σ : L2.St} (er : ERep K ζ ι H σ ρ) : D.nx σ H := k σ H ι Ext.refl s er
theorem ERep.set {σ : L2.St} {ρ : Env} {x : V} {v : Val} (er : ERep K ζ ι H σ ρ) (r : VRep K ζ ι H x v) (i : Nat) : ERep K ζ ι H (σ.set i (some x)) (ρ.set i (some v)) := by
  refine ⟨by simp [er.1], fun j u h => ?_⟩
  by_cases e : i = j
  · subst e
    by_cases hl : i < ρ.length
    · rw [List.getElem?_set_self hl] at h
      cases h
      exact ⟨x, List.getElem?_set_self (by rw [er.1]; exact hl), r⟩
    · rw [List.getElem?_eq_none (by simpa using hl)] at h
      cases h
  · rw [List.getElem?_set_ne e] at h
    obtain ⟨y, h1, h2⟩ := er.2 j u h
    exact ⟨y, by rw [List.getElem?_set_ne e]; exact h1, h2⟩
theorem ERep.gone {σ : L2.St} {ρ : Env} (er : ERep K ζ ι H σ ρ) (i : Nat) (o : Option V) : ERep K ζ ι H (σ.set i o) (ρ.set i none) := by
  refine ⟨by simp [er.1], fun j u h => ?_⟩
  by_cases e : i = j
  · subst e
    by_cases hl : i < ρ.length
    · rw [List.getElem?_set_self hl] at h
      cases h
    · rw [List.getElem?_eq_none (by simpa using hl)] at h
      cases h
  · rw [List.getElem?_set_ne e] at h
    obtain ⟨y, h1, h2⟩ := er.2 j u h
    exact ⟨y, by rw [List.getElem?_set_ne e]; exact h1, h2⟩
end
abbrev MS := Env → Hs → S
structure SS (X : Cx) (st : Stmt) (g : MS) : Prop where
  run : ∀ W : WX, Takes X W → ∃ t, PS X st t ∧ ∀ (ζ ι : List Addr) (ρ : Env) (hs : Hs) (σ : L2.St) (H : Hp) (D : Ends), ERep X.K ζ ι H σ ρ → Sim X.K ζ ι H hs → Ks X.K ζ ι H (g ρ hs) D W → t D σ H
structure SSs (X : Cx) (st : List Stmt) (g : MS) : Prop where
  run : ∀ W : WX, Takes X W → ∃ t, PSs X st t ∧ ∀ (ζ ι : List Addr) (ρ : Env) (hs : Hs) (σ : L2.St) (H : Hp) (D : Ends), ERep X.K ζ ι H σ ρ → Sim X.K ζ ι H hs → Ks X.K ζ ι H (g ρ hs) D W → t D σ H
/-- what the context must be -/
structure Cn (X : Cx) (k : Nat) : Prop where
  calm : X.calm = true
  nd : X.N.Nodup
  room : Room k X.A
  po : PassesOwn (model X.prog X.w) X.A X.env X.xe

/-! ### meanings of statements -/
def sNext : MS := fun ρ h => .nx ρ h
def sSeq (g1 g2 : MS) : MS := fun ρ h => match g1 ρ h with
  | .nx ρ' h' => g2 ρ' h'
  | r => r
def sSet (i : Nat) (f : MV) : MS := fun ρ h => (f ρ h).bindS ρ fun v h1 => .nx (ρ.set i (some v)) h1
def sExpr (f : MV) : MS := fun ρ h => (f ρ h).bindS ρ fun _ h1 => .nx ρ h1
def sRet (f : MV) : MS := fun ρ h => (f ρ h).bindS ρ fun v h1 => .rt v h1
def sRetN : MS := fun _ h => .rt (.d .none) h
def sBreak : MS := fun ρ h => .bk ρ h
def sCont : MS := fun ρ h => .ct ρ h
def sIf (c : Env → Hs → R Bool) (g1 g2 : MS) : MS := fun ρ h => (c ρ h).bindS ρ fun b h1 => if b = true then g1 ρ h1 else g2 ρ h1
def setAll : Env → List Nat → List Val → Env
  | ρ, i :: is, u :: us => setAll (ρ.set i (some u)) is us
  | ρ, _, _ => ρ
def sParN (is : List Nat) (fs : Env → Hs → R (List Val)) : MS := fun ρ h => (fs ρ h).bindS ρ fun us h1 => if us.length = is.length then .nx (setAll ρ is us) h1 else .no
section
variable {X : Cx} {e a : Expr} {es : List Expr} {f : MV} {g g1 g2 : MS} {st : Stmt} {rest : List Stmt} {pos : Pos}
theorem ss_nil : SSs X [] sNext := ⟨fun W tk => ⟨_, pss_nil, fun ζ ι ρ hs σ H D er s k => k.nx s er⟩⟩
theorem ss_cons (h1 : SS X st g1) (h2 : SSs X rest g2) : SSs X (st :: rest) (sSeq g1 g2) := ⟨fun W tk => by
  obtain ⟨t1, p1, q1⟩ := h1.run W tk
  obtain ⟨t2, p2, q2⟩ := h2.run W tk
  refine ⟨_, pss_cons p1 p2, fun ζ ι ρ hs σ H D er s k => q1 ζ ι ρ hs σ H _ er s ?_⟩
  unfold sSeq at k
  cases e : g1 ρ hs with
  | nx ρ' h' =>
    rw [e] at k
    exact fun σ' H' ι' e2 s2 er2 => q2 ζ ι' ρ' h' σ' H' D er2 s2 (k.mv e2)
  | rt v h => rw [e] at k; exact k
  | bk ρ h => rw [e] at k; exact k
  | ct ρ h => rw [e] at k; exact k
  | ex c v ρ h => rw [e] at k; exact k
  | no => rw [e] at k; exact k⟩
theorem ss_one (h1 : SS X st g1) : SSs X [st] g1 := ⟨fun W tk => let ⟨t, p, q⟩ := h1.run W tk; ⟨t, pss_one p, q⟩⟩
theorem ss_pass : SS X (.Pass pos) sNext := ⟨fun W tk => ⟨_, ps_pass, fun ζ ι ρ hs σ H D er s k => k.nx s er⟩⟩
theorem ss_doc {x : Str} {j : Nat} {pos' : Pos} : SS X (.Expr (.Constant (.str x) j pos) pos') sNext := ⟨fun W tk => ⟨_, ps_doc, fun ζ ι ρ hs σ H D er s k => k.nx s er⟩⟩
theorem ss_break : SS X (.Break pos) sBreak := ⟨fun W tk => ⟨_, ps_break, fun ζ ι ρ hs σ H D er s k => k σ H ι Ext.refl s er⟩⟩
theorem ss_continue : SS X (.Continue pos) sCont := ⟨fun W tk => ⟨_, ps_continue, fun ζ ι ρ hs σ H D er s k => k σ H ι Ext.refl s er⟩⟩
theorem ss_expr (he : EE X e f) (hs : swapsWith e none pos.line X.env = pure false := by rfl) : SS X (.Expr e pos) (sExpr f) := ⟨fun W tk => by
  obtain ⟨t, p, q⟩ := he.run W tk
  exact ⟨_, ps_expr p hs, fun ζ ι ρ hs σ H D er s k => q ζ ι ρ hs σ H _ er s (Ks.bind k er s fun u h1 x H1 ι1 e1 s1 r1 k1 => k1.nx s1 (er.mv s e1))⟩⟩
theorem ss_ret (he : EE X e f) : SS X (.Return (some e) pos) (sRet f) := ⟨fun W tk => by
  obtain ⟨t, p, q⟩ := he.run W tk
  exact ⟨_, ps_ret p, fun ζ ι ρ hs σ H D er s k => q ζ ι ρ hs σ H _ er s (Ks.bind k er s fun u h1 x H1 ι1 e1 s1 r1 k1 => k1 x H1 ι1 Ext.refl s1 r1)⟩⟩
theorem ss_retN : SS X (.Return none pos) sRetN := ⟨fun W tk => ⟨_, ps_retN, fun ζ ι ρ hs σ H D er s k => k .non H ι Ext.refl s (.d .non)⟩⟩
theorem ss_set (i : Nat) {x : Str} {pos' : Pos} (hN : X.N.Nodup) (he : EE X e f) (hi : X.N[i]? = some x := by rfl) (hx : Loc X.env.scope x := by first | exact Or.inl rfl | exact Or.inr rfl) (hs : swapsWith e (some (.Name x pos')) pos.line X.env = pure false := by rfl)
    (hf : X.fn x = true ∨ X.env.scope.names.lookup x = some .local := by first | exact .inl rfl | exact .inr rfl | assumption) : SS X (.Assign [.Name x pos'] e pos) (sSet i f) := ⟨fun W tk => by
  obtain ⟨t, p, q⟩ := he.run W tk
  exact ⟨_, ps_set hN hi hx p hs hf, fun ζ ι ρ hs σ H D er s k => q ζ ι ρ hs σ H _ er s (Ks.bind k er s fun u h1 x H1 ι1 e1 s1 r1 k1 => k1.nx s1 ((er.mv s e1).set r1 i))⟩⟩
theorem ss_if {c : Expr} {p1 p2 : List Stmt} {ft : Env → Hs → R Bool} (hc : ET X c ft) (h1 : SSs X p1 g1) (h2 : SSs X p2 g2) : SS X (.If c p1 p2 pos) (sIf ft g1 g2) := ⟨fun W tk => by
  obtain ⟨tc, pc, qc⟩ := hc.run W tk
  obtain ⟨t1, p1, q1⟩ := h1.run W tk
  obtain ⟨t2, p2, q2⟩ := h2.run W tk
  refine ⟨_, ps_if pc p1 p2, fun ζ ι ρ hs σ H D er s k => qc ζ ι ρ hs σ H _ er s (Ks.bind k er s fun u h1 x H1 ι1 e1 s1 r1 k1 => ?_)⟩
  subst r1
  cases x with
  | true => exact q1 ζ ι1 ρ h1 σ H1 D (er.mv s e1) s1 k1
  | false => exact q2 ζ ι1 ρ h1 σ H1 D (er.mv s e1) s1 k1⟩
theorem ss_par {x y : Str} {a b : Expr} {fs : Env → Hs → R (List Val)} {px py pt : Pos} {kt k2 : Nat} {pt2 : Pos} (i j : Nat) (hc : X.calm = true) (hN : X.N.Nodup) (ha : EA X [a, b] fs) (hi : X.N[i]? = some x := by rfl) (hj : X.N[j]? = some y := by rfl) (hij : i ≠ j := by decide)
    (hx : X.env.scope.names.lookup x = some .local := by rfl) (hy : X.env.scope.names.lookup y = some .local := by rfl)
    (hw : swappedStores [.Tuple [.Name x px, .Name y py] kt pt] (.Tuple [a, b] k2 pt2) X.env = pure (some [x, y]) := by rfl)
    (hs : swapsWithSole [.Tuple [.Name x px, .Name y py] kt pt] (.Tuple [a, b] k2 pt2) pos.line X.env = pure false := by rfl) :
    SS X (.Assign [.Tuple [.Name x px, .Name y py] kt pt] (.Tuple [a, b] k2 pt2) pos) (sParN [i, j] fs) := ⟨fun W tk => by
  obtain ⟨t, p, q⟩ := ha.run W tk
  refine ⟨_, ps_par hc hN hi hj hij hx hy p hw hs, fun ζ ι ρ hs σ H D er s k => q ζ ι ρ hs σ H _ er s (Ks.bind k er s fun us h1 xs H1 ι1 e1 s1 r1 k1 => ?_)⟩
  cases r1 with
  | nil => exact k1.elim
  | cons r1 rr => cases rr with
    | nil => exact k1.elim
    | cons r2 rr => cases rr with
      | cons _ _ => simp only [List.length_cons] at k1; rw [if_neg (by simp)] at k1; exact k1.elim
      | nil => exact ⟨_, _, rfl, (show Ks X.K ζ ι1 H1 (.nx ((ρ.set i (some _)).set j (some _)) h1) D W from k1).nx s1 (((er.mv s e1).set r1 i).set r2 j)⟩⟩

/-! ### targets -/
def Kg (K : PySem.W.Frag) (ζ ι : List Addr) (H : Hp) (vs : List Nat) (σ : L2.St) (r : R Env) (Q : L2.St → Hp → Prop) : Prop := match r with
  | .ok ρ h => ∀ σ' H' ι', Ext ι H ι' H' → Sim K ζ ι' H' h → ERep K ζ ι' H' σ' ρ → (∀ ws, (∀ i ∈ vs, i ∈ ws) → wipe σ' ws = wipe σ ws) → Q σ' H'
  | _ => False
abbrev MG := Val → Env → Hs → R Env
structure EG (X : Cx) (tg : Expr) (vs : List Nat) (gt : MG) : Prop where
  run : ∃ t, PG X tg t ∧ ∀ (ζ ι : List Addr) (ρ : Env) (hs : Hs) (σ : L2.St) (H : Hp) (x : V) (u : Val) (Q : L2.St → Hp → Prop), ERep X.K ζ ι H σ ρ → Sim X.K ζ ι H hs → VRep X.K ζ ι H x u → Kg X.K ζ ι H vs σ (gt u ρ hs) Q → t x σ H Q
structure EGs (X : Cx) (tgs : List Expr) (vs : List Nat) (gt : List D → Env → Hs → R Env) : Prop where
  run : ∃ t, PGs X tgs t ∧ ∀ (ζ ι : List Addr) (ρ : Env) (hs : Hs) (σ : L2.St) (H : Hp) (xs : List V) (ds : List D) (Q : L2.St → Hp → Prop), ERep X.K ζ ι H σ ρ → Sim X.K ζ ι H hs → RepAll X.K (ζ ++ ι) H xs ds → Kg X.K ζ ι H vs σ (gt ds ρ hs) Q → t xs σ H Q
def gN (i : Nat) : MG := fun u ρ h => .ok (ρ.set i (some u)) h
def gsNil : List D → Env → Hs → R Env := fun ds ρ h => match ds with
  | [] => .ok ρ h
  | _ => .no
def gsCons (g : MG) (gs : List D → Env → Hs → R Env) : List D → Env → Hs → R Env := fun ds ρ h => match ds with
  | d :: ds => (g (.d d) ρ h).bind fun ρ' h' => gs ds ρ' h'
  | [] => .no
def gT (gs : List D → Env → Hs → R Env) : MG := fun u ρ h => match u with
  | .d (.tuple ds) => gs ds ρ h
  | .d (.list ds) => gs ds ρ h
  | .r i => (match h[i]? with
    | some (.lst ds) => gs ds ρ h
    | _ => .no)
  | _ => .no
theorem wipe_get (σ : L2.St) (i : Nat) : ∀ vs : List Nat, (wipe σ vs)[i]? = if i ∈ vs ∧ i < σ.length then some none else σ[i]?
  | [] => by simp [wipe]
  | v :: vs => by
    unfold wipe
    by_cases e : v = i
    · subst e
      by_cases hl : v < σ.length
      · rw [List.getElem?_set_self (by rw [wipe_length]; exact hl), if_pos ⟨List.mem_cons_self, hl⟩]
      · rw [List.getElem?_eq_none (by rw [List.length_set, wipe_length]; omega), if_neg (fun z => hl z.2), List.getElem?_eq_none (by omega)]
    · rw [List.getElem?_set_ne e, wipe_get σ i vs]
      have : i ∈ v :: vs ↔ i ∈ vs := by simp [Ne.symm e]
      simp only [this]
theorem wipe_set (σ : L2.St) {i : Nat} (o : Option V) {ws : List Nat} (h : i ∈ ws) : wipe (σ.set i o) ws = wipe σ ws := by
  apply List.ext_getElem?
  intro j
  rw [wipe_get, wipe_get, List.length_set]
  by_cases hj : j ∈ ws ∧ j < σ.length
  · rw [if_pos hj, if_pos hj]
  · rw [if_neg hj, if_neg hj]
    by_cases e : i = j
    · subst e
      have hl : ¬ i < σ.length := fun z => hj ⟨h, z⟩
      rw [List.getElem?_eq_none (by rw [List.length_set]; omega), List.getElem?_eq_none (by omega)]
    · rw [List.getElem?_set_ne e]
theorem eg_name (i : Nat) {x : Str} (hN : X.N.Nodup) (hi : X.N[i]? = some x := by rfl) (hx : Loc X.env.scope x := by first | exact Or.inl rfl | exact Or.inr rfl) (hf : X.fn x = true ∨ X.env.scope.names.lookup x = some .local := by first | exact .inl rfl | exact .inr rfl | assumption) :
    EG X (.Name x pos) [i] (gN i) := ⟨⟨_, pg_name hN hi hx hf, fun ζ ι ρ hs σ H x u Q er s r k => k _ H ι Ext.refl s (er.set r i) fun ws h => wipe_set σ _ (h i (by simp))⟩⟩
theorem egs_nil : EGs X [] [] gsNil := ⟨⟨_, pgs_nil, fun ζ ι ρ hs σ H xs ds Q er s r k => by
  cases r with
  | nil => exact ⟨rfl, k σ H ι Ext.refl s er fun _ _ => rfl⟩
  | cons _ _ => exact k.elim⟩⟩
theorem egs_cons {t : Expr} {ts : List Expr} {vs ws : List Nat} {gt : MG} {gs : List D → Env → Hs → R Env} (h1 : EG X t vs gt) (h2 : EGs X ts ws gs)
    (he : (assignEach (t :: ts) X.env).map (·.2) = assign t X.env :: (assignEach ts X.env).map (·.2) := by rfl) : EGs X (t :: ts) (vs ++ ws) (gsCons gt gs) := ⟨by
  obtain ⟨t1, p1, q1⟩ := h1.run
  obtain ⟨t2, p2, q2⟩ := h2.run
  refine ⟨_, pgs_cons p1 p2 he, fun ζ ι ρ hs σ H xs ds Q er s r k => ?_⟩
  cases r with
  | nil => exact k.elim
  | cons r rr =>
    refine ⟨_, _, rfl, q1 ζ ι ρ hs σ H _ _ _ er s (.d r) ?_⟩
    simp only [gsCons] at k
    rename_i d ds
    cases e : gt (.d d) ρ hs with
    | no => rw [e] at k; exact k
    | ex c v h => rw [e] at k; exact k
    | ok ρ' h' =>
      rw [e] at k
      intro σ1 H1 ι1 e1 s1 er1 w1
      refine q2 ζ ι1 ρ' h' σ1 H1 _ _ Q er1 s1 (rr.mv (s.mv e1)) ?_
      simp only [R.bind_ok] at k
      cases e3 : gs ds ρ' h' with
      | no => rw [e3] at k; exact k
      | ex c v h => rw [e3] at k; exact k
      | ok ρ2 h2 =>
        rw [e3] at k
        exact fun σ2 H2 ι2 e2 s2 er2 w2 => k σ2 H2 ι2 (e1.trans e2) s2 er2 fun zs hz => (w2 zs fun i hi => hz i (List.mem_append_right _ hi)).trans (w1 zs fun i hi => hz i (List.mem_append_left _ hi))⟩
theorem pg_seq {es : List Expr} {k : Nat} {t : TGs} {n : Nat} (hc : X.calm = true) (h : PGs X es t) (hn : (assignEach es X.env).length = n) (hst : (assignEach es X.env).findIdx? (·.1) = none) :
    PG X (.Tuple es k pos) (fun v σ H Q => gTup X.K n t v σ H Q ∨ gLst X.K n t v σ H Q) := ⟨fun pins s σ H v u Q I r hw => hw.elim (fun z => (pg_tup hc h hn hst).run pins s σ H v u Q I r z) (fun z => (pg_lst hc h hn hst).run pins s σ H v u Q I r z)⟩
theorem eg_tup {ts : List Expr} {k : Nat} {vs : List Nat} {gs : List D → Env → Hs → R Env} {n : Nat} (hc : X.calm = true) (h : EGs X ts vs gs) (hlen : ∀ ds ρ hs, ds.length ≠ n → gs ds ρ hs = .no)
    (hn : (assignEach ts X.env).length = n := by rfl) (hst : (assignEach ts X.env).findIdx? (·.1) = none := by rfl) : EG X (.Tuple ts k pos) vs (gT gs) := ⟨by
  obtain ⟨t, p, q⟩ := h.run
  refine ⟨_, pg_seq hc p hn hst, fun ζ ι ρ hs σ H x u Q er s r k => ?_⟩
  have len : ∀ ds, Kg X.K ζ ι H vs σ (gs ds ρ hs) Q → ds.length = n := fun ds k => by
    by_cases hl : ds.length = n
    · exact hl
    · rw [hlen ds ρ hs hl] at k
      exact k.elim
  cases r with
  | d r =>
    cases r with
    | tup hq ra =>
      rename_i a xs ds
      have k' : Kg X.K ζ ι H vs σ (gs ds ρ hs) Q := k
      exact .inl ⟨a, xs, rfl, SqT.of hq, by rw [ra.length, len ds k'], q ζ ι ρ hs σ H xs ds Q er s ra k'⟩
    | con hq hc ra =>
      rename_i a xs ds
      have k' : Kg X.K ζ ι H vs σ (gs ds ρ hs) Q := k
      exact .inl ⟨a, xs, rfl, hq, by rw [ra.length, len ds k'], q ζ ι ρ hs σ H xs ds Q er s ra k'⟩
    | lst hq hn ra =>
      rename_i a xs ds
      have k' : Kg X.K ζ ι H vs σ (gs ds ρ hs) Q := k
      exact .inr ⟨a, xs, rfl, .inl (.inl hq), by rw [ra.length, len ds k'], q ζ ι ρ hs σ H xs ds Q er s ra k'⟩
    | _ => exact k.elim
  | @r a i e =>
    unfold gT at k
    simp only at k
    split at k
    · rename_i ds em
      have z := s.at_ i a _ e em
      cases z with
      | @lst xs _ z1 z2 => exact .inr ⟨a, xs, rfl, .inl (.inl z1), by rw [z2.length, len ds k], q ζ ι ρ hs σ H xs ds Q er s z2 k⟩
    · exact k.elim
  | _ => exact k.elim⟩
theorem gsNil_len (ds : List D) (ρ : Env) (hs : Hs) (h : ds.length ≠ 0) : gsNil ds ρ hs = .no := by
  cases ds with
  | nil => exact absurd rfl h
  | cons _ _ => rfl
theorem gsCons_len {n : Nat} {g : MG} {gs : List D → Env → Hs → R Env} (h : ∀ ds ρ hs, ds.length ≠ n → gs ds ρ hs = .no) (hg : ∀ u ρ hs, ∃ ρ' h', g u ρ hs = .ok ρ' h' ∨ g u ρ hs = .no) (ds : List D) (ρ : Env) (hs : Hs) (hl : ds.length ≠ n + 1) : gsCons g gs ds ρ hs = .no := by
  cases ds with
  | nil => rfl
  | cons d ds =>
    have hl2 : ds.length ≠ n := fun e => hl (by rw [List.length_cons, e])
    show (g (.d d) ρ hs).bind _ = _
    obtain ⟨ρ', h', e | e⟩ := hg (.d d) ρ hs
    · rw [e]; exact h ds ρ' h' hl2
    · rw [e]; rfl
theorem gN_ok (i : Nat) (u : Val) (ρ : Env) (hs : Hs) : ∃ ρ' h', gN i u ρ hs = .ok ρ' h' ∨ gN i u ρ hs = .no := ⟨_, _, .inl rfl⟩
def sAsg (f : MV) (gt : MG) : MS := fun ρ h => (f ρ h).bindS ρ fun v h1 => match gt v ρ h1 with
  | .ok ρ' h' => .nx ρ' h'
  | _ => .no
theorem ss_asg {tg : Expr} {vs : List Nat} {gt : MG} (he : EE X e f) (hg : EG X tg vs gt) (ha : (assignEach [tg] X.env).map (·.2) = [assign tg X.env] := by rfl) (hs : swapsWithSole [tg] e pos.line X.env = pure false := by rfl) (hw : swappedStores [tg] e X.env = pure none := by rfl) : SS X (.Assign [tg] e pos) (sAsg f gt) := ⟨fun W tk => by
  obtain ⟨t, p, q⟩ := he.run W tk
  obtain ⟨tg, pg, qg⟩ := hg.run
  refine ⟨_, ps_asg p pg hs hw ha, fun ζ ι ρ hs σ H D er s k => q ζ ι ρ hs σ H _ er s (Ks.bind k er s fun u h1 x H1 ι1 e1 s1 r1 k1 => ?_)⟩
  refine qg ζ ι1 ρ h1 σ H1 x u _ (er.mv s e1) s1 r1 ?_
  cases e : gt u ρ h1 with
  | ok ρ' h' => rw [e] at k1; exact fun σ' H' ι' e2 s2 er2 _ => k1 σ' H' ι' e2 s2 er2
  | ex c v h => rw [e] at k1; exact k1
  | no => rw [e] at k1; exact k1⟩

/-! ### what is walked -/
/-- the changed lists that must stay as they are meanwhile -/
def Chk (g : List (Nat × List D)) (h : Hs) : Prop := ∀ p ∈ g, h[p.1]? = some (.lst p.2)
@[simp] theorem Chk_nil (h : Hs) : Chk [] h := fun _ m => by cases m
/-- from H0 and ι0 to H and ι, with other lists in the making -/
theorem mv_wide {K : PySem.W.Frag} {ζ ζ' ι0 ι : List Addr} {H0 H : Hp} {hs0 : Hs} (s : Sim K ζ ι0 H0 hs0) (e : Ext ι0 H0 ι H) (hz : ∀ a ∈ ζ', a ∈ ζ ∨ H0 a = none) : Mv (ζ ++ ι0) H0 (ζ' ++ ι) H where
  keep := fun a o h n => by
    have n1 : a ∉ ι0 := fun m => n (List.mem_append_right _ m)
    have n2 : a ∉ ζ := fun m => n (List.mem_append_left _ m)
    refine ⟨e.keep a o h n1, fun m => (List.mem_append.mp m).elim (fun m => ?_) (e.not_mem h n1)⟩
    rcases hz a m with z | z
    · exact n2 z
    · rw [h] at z; cases z
  ap := s.mvA
structure IterOk (K : PySem.W.Frag) (ζ ι0 : List Addr) (H0 : Hp) (J : It) (its : List D) (g : List (Nat × List D)) : Prop where
  step : ∀ (i : Nat) (ζ' ι : List Addr) (H : Hp) (h : Hs), Ext ι0 H0 ι H → Sim K ζ' ι H h → (∀ a ∈ ζ', a ∈ ζ ∨ H0 a = none) → Chk g h →
    (i < its.length → J.go i H ∧ ∀ x H', J.yld i H x H' → Same H H' ∧ ∀ d, its[i]? = some d → Rep K (ζ' ++ ι) H' x d) ∧ (its.length ≤ i → J.stop i H)
def Ki (K : PySem.W.Frag) (ζ ι : List Addr) (H : Hp) (σ : L2.St) (r : R (List D × List (Nat × List D))) (Q : It → Hp → Prop) (W : WX) : Prop := match r with
  | .ok p h => ∀ J H' ι', Ext ι H ι' H' → Sim K ζ ι' H' h → IterOk K ζ ι' H' J p.1 p.2 → Q J H'
  | .ex c v h => ∀ cls dd H' ι', Ext ι H ι' H' → Sim K ζ ι' H' h → ExcOk K (ζ ++ ι') H' cls dd c v → W cls dd σ H'
  | .no => False
abbrev MI := Env → Hs → R (List D × List (Nat × List D))
structure EI (X : Cx) (tg iter : Expr) (fi : MI) : Prop where
  run : ∀ W : WX, Takes X W → ∃ wi, PI X tg iter wi ∧ ∀ (ζ ι : List Addr) (ρ : Env) (hs : Hs) (σ : L2.St) (H : Hp) (Q : It → Hp → Prop), ERep X.K ζ ι H σ ρ → Sim X.K ζ ι H hs → Ki X.K ζ ι H σ (fi ρ hs) Q W → wi σ H Q
/-- a list or a tuple as it is walked -/
def seqOf : Val → Hs → Option (List D × List (Nat × List D))
  | .d (.list ds), _ => some (ds, [])
  | .d (.tuple ds), _ => some (ds, [])
  | .r i, h => match h[i]? with
    | some (.lst ds) => some (ds, [(i, ds)])
    | _ => none
  | .s ns, _ => some (ns.map .int, [])
  | _, _ => none
def isTup : Val → Bool
  | .d (.tuple _) => true
  | _ => false
theorem RepAll.ints {K : PySem.W.Frag} {α : List Addr} {H : Hp} : ∀ ns : List Int, RepAll K α H (ns.map V.int) (ns.map PyData.int)
  | [] => .nil
  | n :: ns => .cons (.int n) (RepAll.ints ns)
/-- what the walk over a list needs: it is there whenever the guard holds -/
def LstAt (K : PySem.W.Frag) (ζ ι0 : List Addr) (H0 : Hp) (a : Addr) (its : List D) (g : List (Nat × List D)) : Prop := ∀ (ζ' ι : List Addr) (H : Hp) (h : Hs), Ext ι0 H0 ι H → Sim K ζ' ι H h → (∀ a ∈ ζ', a ∈ ζ ∨ H0 a = none) → Chk g h → ∃ xs, SqL K H a xs ∧ RepAll K (ζ' ++ ι) H xs its
def TupAt (K : PySem.W.Frag) (ζ ι0 : List Addr) (H0 : Hp) (a : Addr) (its : List D) (g : List (Nat × List D)) : Prop := ∀ (ζ' ι : List Addr) (H : Hp) (h : Hs), Ext ι0 H0 ι H → Sim K ζ' ι H h → (∀ a ∈ ζ', a ∈ ζ ∨ H0 a = none) → Chk g h → ∃ xs, SqT K H a xs ∧ RepAll K (ζ' ++ ι) H xs its
theorem seqOf_ok {K : PySem.W.Frag} {ζ ι : List Addr} {H : Hp} {hs : Hs} {v : V} {u : Val} {its : List D} {g : List (Nat × List D)} (s : Sim K ζ ι H hs) (r : VRep K ζ ι H v u) (e : seqOf u hs = some (its, g)) :
    ∃ a, v = .ref a ∧ ((isTup u = false ∧ (∃ xs, SqL K H a xs ∧ xs.length = its.length) ∧ LstAt K ζ ι H a its g) ∨ (isTup u = true ∧ (∃ xs, SqT K H a xs ∧ xs.length = its.length) ∧ TupAt K ζ ι H a its g)) := by
  cases r with
  | d r =>
    cases r with
    | lst h n ra =>
      cases e
      refine ⟨_, rfl, .inl ⟨rfl, ⟨_, .of h, ra.length⟩, fun ζ' ι2 H2 h2 e2 s2 hz _ => ?_⟩⟩
      have m := mv_wide s e2 hz
      exact ⟨_, .of (m.keep _ _ h n).1, ra.mv m⟩
    | tup h ra =>
      cases e
      refine ⟨_, rfl, .inr ⟨rfl, ⟨_, SqT.of h, ra.length⟩, fun ζ' ι2 H2 h2 e2 s2 hz _ => ?_⟩⟩
      have m := mv_wide s e2 hz
      exact ⟨_, m.sqt (SqT.of h), ra.mv m⟩
    | con h hc ra =>
      cases e
      refine ⟨_, rfl, .inr ⟨rfl, ⟨_, h, ra.length⟩, fun ζ' ι2 H2 h2 e2 s2 hz _ => ?_⟩⟩
      have m := mv_wide s e2 hz
      exact ⟨_, m.sqt h, ra.mv m⟩
    | _ => cases e
  | @r a i h =>
    simp only [seqOf] at e
    cases q : hs[i]? with
    | none => rw [q] at e; cases e
    | some m =>
      have z := s.at_ i a m h q
      rw [q] at e
      cases z with
      | lst z1 z2 =>
        cases e
        refine ⟨_, rfl, .inl ⟨rfl, ⟨_, .of z1, z2.length⟩, fun ζ' ι2 H2 h2 e2 s2 hz hc => ?_⟩⟩
        have hh := hc _ List.mem_cons_self
        obtain ⟨t, rfl⟩ := e2.pre
        obtain ⟨hi, _⟩ := List.getElem?_eq_some_iff.mp h
        have y := s2.at_ i a _ (by rw [List.getElem?_append_left hi]; exact h) hh
        cases y with
        | lst y1 y2 => exact ⟨_, .of y1, y2⟩
      | dK z1 z2 => cases e
      | dT z1 z2 => cases e
  | x => cases e
  | c => cases e
  | t => cases e
  | @s a ns h =>
    cases e
    have hl : ∀ (ι2 : List Addr) (H2 : Hp), Ext ι H ι2 H2 → SqL K H2 a (ns.map V.int) := fun ι2 H2 e2 => by
      rcases h with ⟨o, h⟩ | h
      · exact .inl (.inr ⟨o, (s.mv e2).fz h (by intro _ z; cases z) (by intro _ z; cases z) (by intro _ z; cases z)⟩)
      · exact h H2
    exact ⟨a, rfl, .inl ⟨rfl, ⟨_, hl ι H Ext.refl, by simp⟩, fun ζ' ι2 H2 h2 e2 s2 hz _ => ⟨_, hl ι2 H2 e2, RepAll.ints ns⟩⟩⟩
theorem iter_list {K : PySem.W.Frag} {ζ ι : List Addr} {H : Hp} {a : Addr} {its : List D} {g : List (Nat × List D)} (h : LstAt K ζ ι H a its g) : IterOk K ζ ι H (Itl K a) its g := ⟨fun i ζ' ι2 H2 h2 e2 s2 hz hc => by
  obtain ⟨xs, q, ra⟩ := h ζ' ι2 H2 h2 e2 s2 hz hc
  refine ⟨fun hi => ?_, fun hi => ⟨xs, q, by rw [ra.length]; exact hi⟩⟩
  obtain ⟨x, hx, _⟩ := ra.get (List.getElem?_eq_getElem hi)
  refine ⟨⟨xs, x, q, hx⟩, fun y H' ⟨ey, hy⟩ => ?_⟩
  subst ey
  refine ⟨fun _ _ z => z, fun d hd => ?_⟩
  obtain ⟨y', hy', ry⟩ := ra.get hd
  rw [hy xs q] at hy'
  cases hy'
  exact ry⟩
theorem iter_tup {K : PySem.W.Frag} {ζ ι : List Addr} {H : Hp} {a : Addr} {its : List D} {g : List (Nat × List D)} (h : TupAt K ζ ι H a its g) : IterOk K ζ ι H (Itt K a) its g := ⟨fun i ζ' ι2 H2 h2 e2 s2 hz hc => by
  obtain ⟨xs, q, ra⟩ := h ζ' ι2 H2 h2 e2 s2 hz hc
  refine ⟨fun hi => ?_, fun hi => ⟨xs, q, by rw [ra.length]; exact hi⟩⟩
  obtain ⟨x, hx, _⟩ := ra.get (List.getElem?_eq_getElem hi)
  refine ⟨⟨xs, x, q, hx⟩, fun y H' ⟨ey, hy⟩ => ?_⟩
  subst ey
  refine ⟨fun _ _ z => z, fun d hd => ?_⟩
  obtain ⟨y', hy', ry⟩ := ra.get hd
  rw [hy xs q] at hy'
  cases hy'
  exact ry⟩
/-- as Kt.bind, for what is walked -/
theorem Ki.bind {γ δ : Type} {K : PySem.W.Frag} {ζ ι : List Addr} {H : Hp} {rel : List Addr → Hp → δ → γ → Prop} {r : R γ} {k : γ → Hs → R (List D × List (Nat × List D))} {Q : It → Hp → Prop} {W : WX} {Q1 : δ → Hp → Prop} {σ : L2.St} (w : Ki K ζ ι H σ (r.bind k) Q W)
    (h : ∀ a hs b H' ι', Ext ι H ι' H' → Sim K ζ ι' H' hs → rel ι' H' b a → (∀ p, k a hs = .ok p hs → ∀ J, IterOk K ζ ι' H' J p.1 p.2 → Q J H') → k a hs ≠ .no → Q1 b H') : Kt K ζ rel ι H r Q1 (WE W σ) := by
  cases r with
  | ok a hs => exact fun b H' ι' e s rr => h a hs b H' ι' e s rr (fun p hp J io => by
      simp only [R.bind_ok] at w
      rw [hp] at w
      exact w J H' ι' e s io) (fun z => by
      simp only [R.bind_ok] at w
      rw [z] at w
      exact w)
  | ex c v hs => exact w
  | no => exact w
def iSeq (f : MV) : MI := fun ρ h => (f ρ h).bind fun u h1 => R.opt (seqOf u h1) h1
/-- a value that is a list or a tuple: either way, by cases on the value -/
theorem pi_seq {tg l : Expr} {tl : TE} (hl : PE X l tl) : PI X tg l (fun σ H R => tl σ H fun x H1 => ∃ a, x = .ref a ∧ (((∃ xs, SqL X.K H1 a xs) ∧ R (Itl X.K a) H1) ∨ ((∃ xs, SqT X.K H1 a xs) ∧ R (Itt X.K a) H1))) := by
  refine ⟨fun pins s σ H R I h => ?_⟩
  refine thn (hl.run pins s σ H _ I h) fun v s1 ⟨x, H1, I1, r1, a, ex, q⟩ => ?_
  subst ex
  cases r1
  have fin : ∀ b ∈ [s1.heap.objs.size], FpOk X pins H1 b := fun b hb => by
    have e : b = s1.heap.objs.size := by simpa using hb
    subst e
    exact I1.fpOk (Nat.le_refl _) (I1.hok.fresh (Nat.le_refl _))
  rcases q with ⟨⟨xs, hq⟩, q⟩ | ⟨⟨xs, hq⟩, q⟩
  · obtain ⟨its, rv, p, hz⟩ := I1.list hq
    refine wpAny_pyIter_list p.isList ?_
    exact ⟨s1.heap.objs.size, [s1.heap.objs.size], _, _, H1, rfl, I1.kept (t' := s1.toks) fun b o e => Heap.get?_push_of_some _ e, turn_list a _, ⟨_, Heap.get?_push_size _ rfl, rfl, rfl⟩, fin, q⟩
  · obtain ⟨its, rv, p, hz⟩ := I1.tuple hq
    refine wpAny_pyIter_tuple (show s1.heap.IsTuple a its.toArray from p) ?_
    exact ⟨s1.heap.objs.size, [s1.heap.objs.size], _, _, H1, rfl, I1.kept (t' := s1.toks) fun b o e => Heap.get?_push_of_some _ e, turn_tuple a _, ⟨_, Heap.get?_push_size _ rfl, rfl, rfl⟩, fin, q⟩
theorem ei_seq {tg : Expr} (he : EE X e f) : EI X tg e (iSeq f) := ⟨fun W tk => by
  obtain ⟨t, p, q⟩ := he.run W tk
  refine ⟨_, pi_seq p, fun ζ ι ρ hs σ H Q er s k => q ζ ι ρ hs σ H _ er s (Ki.bind k fun u h1 x H1 ι1 e1 s1 r1 k1 k2 => ?_)⟩
  cases e : seqOf u h1 with
  | none => rw [e] at k2; exact absurd rfl k2
  | some p =>
    rw [e] at k1
    obtain ⟨a, rfl, ⟨_, ⟨xs, hx, _⟩, hl⟩ | ⟨_, ⟨xs, hx, _⟩, hl⟩⟩ := seqOf_ok (its := p.1) (g := p.2) s1 r1 e
    · exact ⟨a, rfl, .inl ⟨⟨xs, hx⟩, k1 p rfl _ (iter_list hl)⟩⟩
    · exact ⟨a, rfl, .inr ⟨⟨xs, hx⟩, k1 p rfl _ (iter_tup hl)⟩⟩⟩
/-- range(n), range(a, b), range(a, b, c) -/
def rng (lo : Int) (n : Nat) : List D := (List.range n).map fun i => .int (lo + (i : Nat))
def rngC (lo c : Int) (n : Nat) : List D := (List.range n).map fun i => .int (lo + (i : Nat) * c)
def smallI (i : Int) : Bool := decide (i.natAbs.log2 < 62)
theorem log2_lt {i : Int} {n : Nat} (h : i.natAbs.log2 < n) : i.natAbs < 2 ^ n := by
  by_cases e : i.natAbs = 0
  · rw [e]; exact Nat.pow_pos (by omega)
  · exact (Nat.log2_lt e).mp h
theorem smallI_ok {i : Int} (h : smallI i = true) : -(2 ^ 62) ≤ i ∧ i < 2 ^ 62 := by
  have z := log2_lt (of_decide_eq_true h)
  omega
theorem smallI_of {i : Int} (h : i.natAbs < 2 ^ 61) : smallI i = true := by
  refine decide_eq_true ?_
  by_cases e : i.natAbs = 0
  · rw [e]; decide
  · exact Nat.lt_trans ((Nat.log2_lt e).mpr h) (by omega)
def rangeOf1 : List Val → Option (List D)
  | [.d (.int j)] => if smallI j = true then some (rng 0 j.toNat) else none
  | _ => none
def rangeOf2 : List Val → Option (List D)
  | [.d (.int i), .d (.int j)] => if smallI i = true ∧ smallI j = true then some (rng i (j - i).toNat) else none
  | _ => none
/-- a step of -1 -/
def rangeOfD : List Val → Option (List D)
  | [.d (.int i), .d (.int j), .d (.int k)] => if smallI i = true ∧ smallI j = true ∧ k = -1 then some (rngC i (-1) (i - j).toNat) else none
  | _ => none
def iRng (o : List Val → Option (List D)) (fas : Env → Hs → R (List Val)) : MI := fun ρ h => (fas ρ h).bind fun us h1 => R.opt ((o us).map fun l => (l, [])) h1
theorem rangeOf1_ok {us : List Val} {l : List D} (h : rangeOf1 us = some l) : ∃ j, us = [.d (.int j)] ∧ smallI j = true ∧ l = rng 0 j.toNat := by
  unfold rangeOf1 at h
  split at h
  · split at h
    · cases h; exact ⟨_, rfl, by assumption, rfl⟩
    · cases h
  · cases h
theorem rangeOf2_ok {us : List Val} {l : List D} (h : rangeOf2 us = some l) : ∃ i j, us = [.d (.int i), .d (.int j)] ∧ smallI i = true ∧ smallI j = true ∧ l = rng i (j - i).toNat := by
  unfold rangeOf2 at h
  split at h
  · split at h
    · rename_i q
      cases h; exact ⟨_, _, rfl, q.1, q.2, rfl⟩
    · cases h
  · cases h
theorem rangeOfD_ok {us : List Val} {l : List D} (h : rangeOfD us = some l) : ∃ i j, us = [.d (.int i), .d (.int j), .d (.int (-1))] ∧ smallI i = true ∧ smallI j = true ∧ l = rngC i (-1) (i - j).toNat := by
  unfold rangeOfD at h
  split at h
  · split at h
    · rename_i q
      obtain ⟨q1, q2, rfl⟩ := q
      cases h; exact ⟨_, _, rfl, q1, q2, rfl⟩
    · cases h
  · cases h
theorem iter_rng {K : PySem.W.Frag} {ζ ι : List Addr} {H : Hp} (lo : Int) (n : Nat) : IterOk K ζ ι H (Itr lo n) (rng lo n) [] := ⟨fun i ζ' ι2 H2 h2 e2 s2 hz hc => by
  have hl : (rng lo n).length = n := by simp [rng]
  rw [hl]
  refine ⟨fun hi => ⟨hi, fun x H' ⟨eh, ex⟩ => ?_⟩, fun hi => hi⟩
  subst eh
  refine ⟨fun _ _ z => z, fun d hd => ?_⟩
  have : (rng lo n)[i]? = some (.int (lo + (i : Nat))) := by simp [rng, hi]
  rw [this] at hd
  cases hd
  subst ex
  exact .int _⟩
theorem iter_rngC {K : PySem.W.Frag} {ζ ι : List Addr} {H : Hp} (lo c : Int) (n : Nat) : IterOk K ζ ι H (Itc lo c n) (rngC lo c n) [] := ⟨fun i ζ' ι2 H2 h2 e2 s2 hz hc => by
  have hl : (rngC lo c n).length = n := by simp [rngC]
  rw [hl]
  refine ⟨fun hi => ⟨hi, fun x H' ⟨eh, ex⟩ => ?_⟩, fun hi => hi⟩
  subst eh
  refine ⟨fun _ _ z => z, fun d hd => ?_⟩
  have : (rngC lo c n)[i]? = some (.int (lo + (i : Nat) * c)) := by simp [rngC, hi]
  rw [this] at hd
  cases hd
  subst ex
  exact .int _⟩
theorem VRep.int {K : PySem.W.Frag} {ζ ι : List Addr} {H : Hp} {v : V} {i : Int} (r : VRep K ζ ι H v (.d (.int i))) : v = .int i := by
  cases r with
  | d r => cases r; rfl
theorem iRng_out {o : List Val → Option (List D)} {us : List Val} {h1 : Hs} (k : R.opt ((o us).map fun l => ((l, []) : List D × List (Nat × List D))) h1 ≠ .no) : ∃ l, o us = some l ∧ R.opt ((o us).map fun l => ((l, []) : List D × List (Nat × List D))) h1 = .ok (l, []) h1 := by
  cases e : o us with
  | none => rw [e] at k; exact absurd rfl k
  | some l => exact ⟨l, rfl, rfl⟩
theorem ei_range1 {tg a : Expr} {fas : Env → Hs → R (List Val)} {p pos : Pos} (hm : X.mg "range" = none) (ha : EA X [a] fas) (hg : Gl X "range" := by rfl) (hs : starEach [a] X.env = [(false, eval a X.env)] := by rfl) : EI X tg (.Call (.Name "range" p) [a] [] pos) (iRng rangeOf1 fas) := ⟨fun W tk => by
  obtain ⟨t, p, q⟩ := ha.run W tk
  refine ⟨_, pi_range1 hg hm p hs, fun ζ ι ρ hs σ H Q er s k => q ζ ι ρ hs σ H _ er s (Ki.bind k fun us h1 xs H1 ι1 e1 s1 r1 k1 k2 => ?_)⟩
  obtain ⟨l, e, e2⟩ := iRng_out k2
  obtain ⟨j, rfl, hj, rfl⟩ := rangeOf1_ok e
  obtain ⟨j1, j2⟩ := smallI_ok hj
  cases r1 with
  | cons r1 rr =>
    cases rr
    cases r1.int
    exact ⟨j, rfl, j1, j2, k1 _ e2 _ (iter_rng 0 _)⟩⟩
theorem ei_range2 {tg a b : Expr} {fas : Env → Hs → R (List Val)} {p pos : Pos} (hm : X.mg "range" = none) (ha : EA X [a, b] fas) (hg : Gl X "range" := by rfl) (hs : starEach [a, b] X.env = [(false, eval a X.env), (false, eval b X.env)] := by rfl) (hs2 : starEach [b] X.env = [(false, eval b X.env)] := by rfl) :
    EI X tg (.Call (.Name "range" p) [a, b] [] pos) (iRng rangeOf2 fas) := ⟨fun W tk => by
  obtain ⟨t, p, q⟩ := ha.run W tk
  refine ⟨_, pi_range2 hg hm p hs hs2, fun ζ ι ρ hs σ H Q er s k => q ζ ι ρ hs σ H _ er s (Ki.bind k fun us h1 xs H1 ι1 e1 s1 r1 k1 k2 => ?_)⟩
  obtain ⟨l, e, e2⟩ := iRng_out k2
  obtain ⟨i, j, rfl, hi, hj, rfl⟩ := rangeOf2_ok e
  obtain ⟨j1, j2⟩ := smallI_ok hj
  obtain ⟨i1, i2⟩ := smallI_ok hi
  cases r1 with
  | cons r1 rr =>
    cases rr with
    | cons r2 rr =>
      cases rr
      cases r1.int
      cases r2.int
      exact ⟨i, j, rfl, ⟨i1, i2, j1, j2⟩, k1 _ e2 _ (iter_rng _ _)⟩⟩
theorem ei_rangeD {tg a b c : Expr} {fas : Env → Hs → R (List Val)} {p pos : Pos} (hm : X.mg "range" = none) (ha : EA X [a, b, c] fas) (hg : Gl X "range" := by rfl) (hs : starEach [a, b, c] X.env = (false, eval a X.env) :: starEach [b, c] X.env := by rfl)
    (hpl : (backTo pos (starEach [b, c] X.env)).any (·.1) = false := by rfl) : EI X tg (.Call (.Name "range" p) [a, b, c] [] pos) (iRng rangeOfD fas) := ⟨fun W tk => by
  obtain ⟨t, p, q⟩ := ha.run W tk
  refine ⟨_, pi_range3 hg hm p hs hpl, fun ζ ι ρ hs σ H Q er s k => q ζ ι ρ hs σ H _ er s (Ki.bind k fun us h1 xs H1 ι1 e1 s1 r1 k1 k2 => ?_)⟩
  obtain ⟨l, e, e2⟩ := iRng_out k2
  obtain ⟨i, j, rfl, hi, hj, rfl⟩ := rangeOfD_ok e
  obtain ⟨j1, j2⟩ := smallI_ok hj
  obtain ⟨i1, i2⟩ := smallI_ok hi
  cases r1 with
  | cons r1 rr =>
    cases rr with
    | cons r2 rr =>
      cases rr with
      | cons r3 rr =>
        cases rr
        cases r1.int
        cases r2.int
        cases r3.int
        exact ⟨i, j, -1, _, rfl, RgC.neg i1 i2 j1 j2, k1 _ e2 _ (iter_rngC _ _ _)⟩⟩
/-- zip of two, each a list or a tuple -/
def zipOf (u v : Val) (h : Hs) : Option (List D × List (Nat × List D)) := match seqOf u h, seqOf v h with
  | some (xs, g1), some (ys, g2) => some (List.zipWith (fun a b => .tuple [a, b]) xs ys, g1 ++ g2)
  | _, _ => none
def iZip2 (fas : Env → Hs → R (List Val)) : MI := fun ρ h => (fas ρ h).bind fun us h1 => match us with
  | [u, v] => R.opt (zipOf u v h1) h1
  | _ => .no
theorem Chk.left {g1 g2 : List (Nat × List D)} {h : Hs} (c : Chk (g1 ++ g2) h) : Chk g1 h := fun p m => c p (List.mem_append_left _ m)
theorem Chk.right {g1 g2 : List (Nat × List D)} {h : Hs} (c : Chk (g1 ++ g2) h) : Chk g2 h := fun p m => c p (List.mem_append_right _ m)
theorem pair_rep {K : PySem.W.Frag} {α : List Addr} {H : Hp} {T : Addr} {x y : V} {a b : D} (ap : Ap α H) (hT : H T = none) (r1 : Rep K α H x a) (r2 : Rep K α H y b) : Rep K α (upd H T (.tup [x, y])) (.ref T) (.tuple [a, b]) :=
  .tup upd_same (.cons (r1.same ap (same_new hT)) (.cons (r2.same ap (same_new hT)) .nil))
/-- a list or a tuple that is walked -/
def SeqW (K : PySem.W.Frag) (p : Bool) (ζ ι : List Addr) (H : Hp) (a : Addr) (its : List D) (g : List (Nat × List D)) : Prop := if p = true then TupAt K ζ ι H a its g else LstAt K ζ ι H a its g
theorem SeqW.at_ {K : PySem.W.Frag} {p : Bool} {ζ ι ζ' ι2 : List Addr} {H H2 : Hp} {a : Addr} {its : List D} {g : List (Nat × List D)} {hh : Hs} (w : SeqW K p ζ ι H a its g) (e : Ext ι H ι2 H2) (s : Sim K ζ' ι2 H2 hh) (hz : ∀ a ∈ ζ', a ∈ ζ ∨ H a = none) (c : Chk g hh) :
    ∃ vs, SqB K p H2 a vs ∧ RepAll K (ζ' ++ ι2) H2 vs its := by
  cases p
  · exact (show LstAt K ζ ι H a its g from w) ζ' ι2 H2 hh e s hz c
  · exact (show TupAt K ζ ι H a its g from w) ζ' ι2 H2 hh e s hz c
theorem iter_zipG {K : PySem.W.Frag} {p q : Bool} {ζ ι : List Addr} {H : Hp} {a b : Addr} {xs ys : List D} {g1 g2 : List (Nat × List D)} (h1 : SeqW K p ζ ι H a xs g1) (h2 : SeqW K q ζ ι H b ys g2) : IterOk K ζ ι H (ItzG K p q a b) (List.zipWith (fun a b => .tuple [a, b]) xs ys) (g1 ++ g2) := ⟨fun i ζ' ι2 H2 hh e2 s2 hz hc => by
  obtain ⟨vs, q1, ra⟩ := h1.at_ e2 s2 hz hc.left
  obtain ⟨ws, q2, rb⟩ := h2.at_ e2 s2 hz hc.right
  rw [List.length_zipWith]
  refine ⟨fun hi => ?_, fun hi => ⟨vs, ws, q1, q2, by rw [ra.length, rb.length]; omega⟩⟩
  have ha : i < xs.length := by omega
  have hb : i < ys.length := by omega
  obtain ⟨x, hx, rx⟩ := ra.get (List.getElem?_eq_getElem ha)
  obtain ⟨y, hy, ry⟩ := rb.get (List.getElem?_eq_getElem hb)
  refine ⟨⟨vs, ws, x, y, q1, q2, hx, hy⟩, fun v H' ⟨T, x', y', ev, hT, eH, f1, f2⟩ => ?_⟩
  subst ev eH
  refine ⟨same_new hT, fun d hd => ?_⟩
  have e1 := f1 vs q1
  have e3 := f2 ws q2
  rw [hx] at e1
  rw [hy] at e3
  cases e1
  cases e3
  rw [List.getElem?_zipWith, List.getElem?_eq_getElem ha, List.getElem?_eq_getElem hb] at hd
  cases hd
  exact pair_rep s2.apA hT rx ry⟩
theorem seqOf_w {K : PySem.W.Frag} {ζ ι : List Addr} {H : Hp} {hs : Hs} {v : V} {u : Val} {its : List D} {g : List (Nat × List D)} (s : Sim K ζ ι H hs) (r : VRep K ζ ι H v u) (e : seqOf u hs = some (its, g)) : ∃ a p vs, v = .ref a ∧ SqB K p H a vs ∧ SeqW K p ζ ι H a its g := by
  obtain ⟨a, rfl, ⟨_, ⟨vs, hv, _⟩, l1⟩ | ⟨_, ⟨vs, hv, _⟩, l1⟩⟩ := seqOf_ok s r e
  · exact ⟨a, false, vs, rfl, hv, l1⟩
  · exact ⟨a, true, vs, rfl, hv, l1⟩
theorem ei_zip {elts : List Expr} {kk : Nat} {tpos : Pos} {a b : Expr} {fas : Env → Hs → R (List Val)} {p pos : Pos} (hm : X.mg "zip" = none) (ha : EA X [a, b] fas) (hg : Gl X "zip" := by rfl) (hs : starEach [a, b] X.env = (false, eval a X.env) :: starEach [b] X.env := by rfl)
    (hpl : (backTo pos (starEach [b] X.env)).any (·.1) = false := by rfl) : EI X (.Tuple elts kk tpos) (.Call (.Name "zip" p) [a, b] [] pos) (iZip2 fas) := ⟨fun W tk => by
  obtain ⟨t, p, q⟩ := ha.run W tk
  refine ⟨_, pi_zipG hg hm p hs hpl, fun ζ ι ρ hs σ H Q er s k => q ζ ι ρ hs σ H _ er s (Ki.bind k fun us h1 xs H1 ι1 e1 s1 r1 k1 k2 => ?_)⟩
  cases r1 with
  | nil => exact absurd rfl k2
  | cons r1 rr => cases rr with
    | nil => exact absurd rfl k2
    | cons r2 rr => cases rr with
      | cons _ _ => exact absurd rfl k2
      | nil =>
        rename_i u _ v
        cases e : zipOf u v h1 with
        | none => simp only [e] at k2; exact absurd rfl k2
        | some p =>
          simp only [e] at k1
          unfold zipOf at e
          split at e
          · rename_i xs g1 ys g2 eu ev
            cases e
            have kk := k1 _ rfl
            obtain ⟨a, p, vs, rfl, hv, l1⟩ := seqOf_w s1 r1 eu
            obtain ⟨b, q, ws, rfl, hw, l2⟩ := seqOf_w s1 r2 ev
            exact ⟨a, b, vs, ws, p, q, rfl, hv, hw, kk _ (iter_zipG l1 l2)⟩
          · cases e⟩
/-- enumerate of a list -/
def enumOf (u : Val) (h : Hs) : Option (List D × List (Nat × List D)) := match seqOf u h with
  | some (xs, g) => if isTup u = false then some ((List.range xs.length).zipWith (fun i a => .tuple [.int (i : Nat), a]) xs, g) else none
  | none => none
def iEnumD (fas : Env → Hs → R (List Val)) : MI := fun ρ h => (fas ρ h).bind fun us h1 => match us with
  | [u] => R.opt (enumOf u h1) h1
  | _ => .no
theorem iter_enum {K : PySem.W.Frag} {ζ ι : List Addr} {H : Hp} {a : Addr} {xs : List D} {g : List (Nat × List D)} (h1 : LstAt K ζ ι H a xs g) : IterOk K ζ ι H (Ite K a) ((List.range xs.length).zipWith (fun i a => .tuple [.int (i : Nat), a]) xs) g := ⟨fun i ζ' ι2 H2 hh e2 s2 hz hc => by
  obtain ⟨vs, q1, ra⟩ := h1 ζ' ι2 H2 hh e2 s2 hz hc
  rw [List.length_zipWith, List.length_range, Nat.min_self]
  refine ⟨fun hi => ?_, fun hi => ⟨vs, q1, by rw [ra.length]; omega⟩⟩
  obtain ⟨x, hx, rx⟩ := ra.get (List.getElem?_eq_getElem hi)
  refine ⟨⟨vs, x, q1, hx⟩, fun v H' ⟨T, x', ev, hT, eH, f1⟩ => ?_⟩
  subst ev eH
  refine ⟨same_new hT, fun d hd => ?_⟩
  have e1 := f1 vs q1
  rw [hx] at e1
  cases e1
  rw [List.getElem?_zipWith, List.getElem?_range hi, List.getElem?_eq_getElem hi] at hd
  cases hd
  exact pair_rep s2.apA hT (.int _) rx⟩
theorem ei_enum {elts : List Expr} {kk : Nat} {tpos : Pos} {a : Expr} {fas : Env → Hs → R (List Val)} {p pos : Pos} (hm : X.mg "enumerate" = none) (ha : EA X [a] fas) (hg : Gl X "enumerate" := by rfl) (hs : starEach [a] X.env = [(false, eval a X.env)] := by rfl) :
    EI X (.Tuple elts kk tpos) (.Call (.Name "enumerate" p) [a] [] pos) (iEnumD fas) := ⟨fun W tk => by
  obtain ⟨t, p, q⟩ := ha.run W tk
  refine ⟨_, pi_enum hg hm p hs, fun ζ ι ρ hs σ H Q er s k => q ζ ι ρ hs σ H _ er s (Ki.bind k fun us h1 xs H1 ι1 e1 s1 r1 k1 k2 => ?_)⟩
  cases r1 with
  | nil => exact absurd rfl k2
  | cons r1 rr => cases rr with
    | cons _ _ => exact absurd rfl k2
    | nil =>
      rename_i u
      cases e : enumOf u h1 with
      | none => simp only [e] at k2; exact absurd rfl k2
      | some p =>
        simp only [e] at k1
        unfold enumOf at e
        split at e
        · rename_i xs g eu
          split at e
          · rename_i et
            cases e
            obtain ⟨a, rfl, ⟨t1, ⟨vs, hv, _⟩, l1⟩ | ⟨t1, ⟨vs, hv, _⟩, l1⟩⟩ := seqOf_ok s1 r1 eu
            · exact ⟨a, vs, rfl, hv, k1 _ rfl _ (iter_enum l1)⟩
            · rw [t1] at et; cases et
          · cases e
        · cases e⟩

/-! ### for -/
open Classical in
noncomputable def forR (g : List (Nat × List D)) (gt : MG) (body : MS) : List D → Env → Hs → S
  | [], ρ, h => if Chk g h then .nx ρ h else .no
  | d :: ds, ρ, h => if Chk g h then (match gt (.d d) ρ h with
    | .ok ρ' h' => (match body ρ' h' with
      | .nx ρ2 h2 => forR g gt body ds ρ2 h2
      | .ct ρ2 h2 => forR g gt body ds ρ2 h2
      | .bk ρ2 h2 => .nx ρ2 h2
      | r => r)
    | _ => .no) else .no
noncomputable def sFor (fi : MI) (gt : MG) (body : MS) : MS := fun ρ h => (fi ρ h).bindS ρ fun p h1 => forR p.2 gt body p.1 ρ h1
theorem Ks.bindI {K : PySem.W.Frag} {ζ ι : List Addr} {H : Hp} {r : R (List D × List (Nat × List D))} {ρ : Env} {k : List D × List (Nat × List D) → Hs → S} {D : Ends} {W : WX} {Q1 : It → Hp → Prop} {σ : L2.St} {hs : Hs} (w : Ks K ζ ι H (r.bindS ρ k) D W) (er : ERep K ζ ι H σ ρ) (s : Sim K ζ ι H hs)
    (h : ∀ p hs J H' ι', Ext ι H ι' H' → Sim K ζ ι' H' hs → IterOk K ζ ι' H' J p.1 p.2 → Ks K ζ ι' H' (k p hs) D W → Q1 J H') : Ki K ζ ι H σ r Q1 W := by
  cases r with
  | ok a hs => exact fun b H' ι' e s r => h a hs b H' ι' e s r (w.mv e)
  | ex c v hs => exact fun cls dd H' ι' e s2 x => w cls dd σ H' ι' e s2 (er.mv s e) x
  | no => exact w
theorem ss_for {tg iter : Expr} {body : List Stmt} {vs : List Nat} {fi : MI} {gt : MG} {gb : MS} {k : Nat} (C : Cn X k) (hi : EI X tg iter fi) (hg : EG X tg vs gt) (hb : SSs X body gb) (hs : ∀ x, foldedSetIterable iter X.env x = pure x := by intro _; rfl) :
    SS X (.For tg iter body [] pos) (sFor fi gt gb) := ⟨fun W tk => by
  obtain ⟨wi, pi, qi⟩ := hi.run W tk
  obtain ⟨tg, pg, qg⟩ := hg.run
  obtain ⟨tb, pb, qb⟩ := hb.run W tk
  refine ⟨_, ps_for C.po C.calm pi pg pb hs, fun ζ ι0 ρ hs σ H0 D er s k => qi ζ ι0 ρ hs σ H0 _ er s (Ks.bindI k er s fun p h1 J H1 ι1 e1 s1 io k1 => ?_)⟩
  obtain ⟨its, g⟩ := p
  refine ⟨fun i m σ H => m = its.length - i ∧ i ≤ its.length ∧ ∃ ι h ρ, Ext ι1 H1 ι H ∧ Sim X.K ζ ι H h ∧ ERep X.K ζ ι H σ ρ ∧ Ks X.K ζ ι H (forR g gt gb (its.drop i) ρ h) D W,
    ⟨its.length, by simp, Nat.zero_le _, ι1, h1, ρ, Ext.refl, s1, er.mv s e1, k1⟩, ?_⟩
  rintro i m σ2 H2 ⟨rfl, hi, ι2, h2, ρ2, e2, s2, er2, k2⟩
  by_cases hlt : i < its.length
  · rw [List.drop_eq_getElem_cons hlt] at k2
    unfold forR at k2
    split at k2
    · rename_i hc
      have st := io.step i ζ ι2 H2 h2 e2 s2 (fun a m => .inl m) hc
      obtain ⟨go, yl⟩ := st.1 hlt
      refine .inr ⟨go, fun σ' H' => its.length - (i + 1) < its.length - i ∧ i + 1 ≤ its.length ∧ ∃ ι h ρ, Ext ι1 H1 ι H' ∧ Sim X.K ζ ι H' h ∧ ERep X.K ζ ι H' σ' ρ ∧ Ks X.K ζ ι H' (forR g gt gb (its.drop (i + 1)) ρ h) D W,
        fun σ' H' ⟨q1, q2, q3⟩ => ⟨_, q1, rfl, q2, q3⟩, fun x H' y => ?_⟩
      obtain ⟨sm, rp⟩ := yl x H' y
      have rx := rp _ (List.getElem?_eq_getElem hlt)
      have ex := Ext.of_same (ι := ι2) sm
      refine qg ζ ι2 ρ2 h2 σ2 H' x (.d its[i]) _ (er2.mv s2 ex) (s2.same sm) (.d rx) ?_
      cases eg : gt (.d its[i]) ρ2 h2 with
      | no => rw [eg] at k2; exact k2.elim
      | ex c v h => rw [eg] at k2; exact k2.elim
      | ok ρ3 h3 =>
        rw [eg] at k2
        intro σ3 H3 ι3 e3 s3 er3 _
        have eA : Ext ι2 H2 ι3 H3 := ex.trans e3
        refine qb ζ ι3 ρ3 h3 σ3 H3 _ er3 s3 ?_
        simp only at k2
        have again : ∀ {ρ4 : Env} {h4 : Hs}, Ks X.K ζ ι2 H2 (forR g gt gb (its.drop (i + 1)) ρ4 h4) D W → ∀ σ' H' ι', Ext ι3 H3 ι' H' → Sim X.K ζ ι' H' h4 → ERep X.K ζ ι' H' σ' ρ4 →
            its.length - (i + 1) < its.length - i ∧ i + 1 ≤ its.length ∧ ∃ ι h ρ, Ext ι1 H1 ι H' ∧ Sim X.K ζ ι H' h ∧ ERep X.K ζ ι H' σ' ρ ∧ Ks X.K ζ ι H' (forR g gt gb (its.drop (i + 1)) ρ h) D W := fun {ρ4 h4} kk σ' H' ι' e4 s4 er4 =>
          ⟨by omega, hlt, ι', h4, ρ4, e2.trans (eA.trans e4), s4, er4, kk.mv (eA.trans e4)⟩
        cases eb : gb ρ3 h3 with
        | nx ρ4 h4 => rw [eb] at k2; exact again k2
        | ct ρ4 h4 => rw [eb] at k2; exact again k2
        | bk ρ4 h4 => rw [eb] at k2; exact fun σ' H' ι' e4 s4 er4 => k2 σ' H' ι' (eA.trans e4) s4 er4
        | rt v h4 => rw [eb] at k2; exact k2.mv eA
        | ex c v ρ4 h4 => rw [eb] at k2; exact k2.mv eA
        | no => rw [eb] at k2; exact k2
    · exact k2.elim
  · have e : i = its.length := by omega
    subst e
    rw [List.drop_length] at k2
    unfold forR at k2
    split at k2
    · rename_i hc
      exact .inl ⟨(io.step _ ζ ι2 H2 h2 e2 s2 (fun a m => .inl m) hc).2 (Nat.le_refl _), k2.nx s2 er2⟩
    · exact k2.elim⟩

/-! ### while -/
def whileN (c : Env → Hs → R Bool) (body : MS) : Nat → Env → Hs → S
  | 0, _, _ => .no
  | n + 1, ρ, h => (c ρ h).bindS ρ fun b h1 => if b = true then (match body ρ h1 with
    | .nx ρ2 h2 => whileN c body n ρ2 h2
    | .ct ρ2 h2 => whileN c body n ρ2 h2
    | .bk ρ2 h2 => .nx ρ2 h2
    | r => r) else .nx ρ h1
open Classical in
/-- as many turns as it takes, if some number of them is enough -/
noncomputable def sWhile (c : Env → Hs → R Bool) (body : MS) : MS := fun ρ h => if q : ∃ n, whileN c body n ρ h ≠ .no then whileN c body q.choose ρ h else .no
theorem whileN_up (c : Env → Hs → R Bool) (body : MS) : ∀ (n m : Nat) (ρ : Env) (h : Hs), whileN c body n ρ h ≠ .no → n ≤ m → whileN c body m ρ h = whileN c body n ρ h := by
  intro n
  induction n with
  | zero => exact fun m ρ h q _ => absurd rfl q
  | succ n ih =>
    intro m ρ h q hm
    obtain ⟨m, rfl⟩ : ∃ m', m = m' + 1 := ⟨m - 1, by omega⟩
    unfold whileN at q ⊢
    cases e : c ρ h with
    | no => rfl
    | ex c v h => rfl
    | ok b h1 =>
      simp only [e, R.bindS_ok] at q ⊢
      cases b with
      | false => rfl
      | true =>
        simp only [if_true] at q ⊢
        cases eb : body ρ h1 with
        | nx ρ2 h2 => simp only [eb] at q ⊢; exact ih m ρ2 h2 q (by omega)
        | ct ρ2 h2 => simp only [eb] at q ⊢; exact ih m ρ2 h2 q (by omega)
        | bk ρ2 h2 => rfl
        | rt v h => rfl
        | ex c v ρ h => rfl
        | no => rfl
theorem sWhile_eq {c : Env → Hs → R Bool} {body : MS} {n : Nat} {ρ : Env} {h : Hs} (q : whileN c body n ρ h ≠ .no) : sWhile c body ρ h = whileN c body n ρ h := by
  have z : ∃ n, whileN c body n ρ h ≠ .no := ⟨n, q⟩
  unfold sWhile
  rw [dif_pos z]
  have y := z.choose_spec
  by_cases hl : z.choose ≤ n
  · exact (whileN_up c body _ n ρ h y hl).symm
  · exact whileN_up c body n _ ρ h q (by omega)
theorem ss_while {c : Expr} {body : List Stmt} {fc : Env → Hs → R Bool} {gb : MS} {k : Nat} (C : Cn X k) (hc : ET X c fc) (hb : SSs X body gb) : SS X (.While c body [] pos) (sWhile fc gb) := ⟨fun W tk => by
  obtain ⟨tc, pc, qc⟩ := hc.run W tk
  obtain ⟨tb, pb, qb⟩ := hb.run W tk
  refine ⟨_, ps_while C.po pc pb, fun ζ ι0 ρ hs σ H0 D er s k => ?_⟩
  unfold sWhile at k
  split at k
  · rename_i q
    generalize q.choose = n at k
    refine ⟨fun m σ H => ∃ ι h ρ, Ext ι0 H0 ι H ∧ Sim X.K ζ ι H h ∧ ERep X.K ζ ι H σ ρ ∧ Ks X.K ζ ι H (whileN fc gb m ρ h) D W, ⟨n, ι0, hs, ρ, Ext.refl, s, er, k⟩, ?_⟩
    rintro m σ2 H2 ⟨ι2, h2, ρ2, e2, s2, er2, k2⟩
    cases m with
    | zero => exact k2.elim
    | succ m =>
      unfold whileN at k2
      refine qc ζ ι2 ρ2 h2 σ2 H2 _ er2 s2 (Ks.bind k2 er2 s2 fun b h3 b' H3 ι3 e3 s3 r3 k3 => ?_)
      subst r3
      cases b' with
      | false => exact k3.nx s3 (er2.mv s2 e3)
      | true =>
        simp only [if_true] at k3 ⊢
        refine ⟨fun σ' H' => ∃ ι h ρ, Ext ι0 H0 ι H' ∧ Sim X.K ζ ι H' h ∧ ERep X.K ζ ι H' σ' ρ ∧ Ks X.K ζ ι H' (whileN fc gb m ρ h) D W, fun σ' H' q => ⟨m, by omega, q⟩, ?_⟩
        refine qb ζ ι3 ρ2 h3 σ2 H3 _ (er2.mv s2 e3) s3 ?_
        have again : ∀ {ρ4 : Env} {h4 : Hs}, Ks X.K ζ ι3 H3 (whileN fc gb m ρ4 h4) D W → ∀ σ' H' ι', Ext ι3 H3 ι' H' → Sim X.K ζ ι' H' h4 → ERep X.K ζ ι' H' σ' ρ4 →
            ∃ ι h ρ, Ext ι0 H0 ι H' ∧ Sim X.K ζ ι H' h ∧ ERep X.K ζ ι H' σ' ρ ∧ Ks X.K ζ ι H' (whileN fc gb m ρ h) D W := fun {ρ4 h4} kk σ' H' ι' e4 s4 er4 =>
          ⟨ι', h4, ρ4, e2.trans (e3.trans e4), s4, er4, kk.mv e4⟩
        cases eb : gb ρ2 h3 with
        | nx ρ4 h4 => simp only [eb] at k3; exact again k3
        | ct ρ4 h4 => simp only [eb] at k3; exact again k3
        | bk ρ4 h4 => simp only [eb] at k3; exact k3
        | rt v h4 => simp only [eb] at k3; exact k3
        | ex c v ρ4 h4 => simp only [eb] at k3; exact k3
        | no => simp only [eb] at k3; exact k3
  · exact k.elim⟩
end
end DL

set_option Elab.async false
set_option linter.all false
set_option maxRecDepth 100000
set_option maxHeartbeats 1000000
namespace DL
open PySem PySem.Spec PyProof.Rows L2

/-! ### the meanings' own readings: the same in every context over K -/
def tE (K : PySem.W.Frag) (f : MV) (W : WX) : TE := fun σ H Q => ∃ ζ ι ρ hs, ERep K ζ ι H σ ρ ∧ Sim K ζ ι H hs ∧ Kt K ζ (VRep K ζ) ι H (f ρ hs) Q (WE W σ)
theorem EE.can {X : Cx} {e : Expr} {f : MV} {W : WX} (h : EE X e f) (tk : Takes X W) : PE X e (tE X.K f W) := by
  obtain ⟨t, p, q⟩ := h.run W tk
  exact ⟨fun pins s σ H Q I ⟨ζ, ι, ρ, hs, er, sm, k⟩ => p.run pins s σ H Q I (q ζ ι ρ hs σ H Q er sm k)⟩
def tT (K : PySem.W.Frag) (f : Env → Hs → R Bool) (W : WX) : TT := fun σ H Q => ∃ ζ ι ρ hs, ERep K ζ ι H σ ρ ∧ Sim K ζ ι H hs ∧ Kt K ζ (fun _ _ b b' => b = b') ι H (f ρ hs) Q (WE W σ)
theorem ET.can {X : Cx} {e : Expr} {f : Env → Hs → R Bool} {W : WX} (h : ET X e f) (tk : Takes X W) : PT X e (tT X.K f W) := by
  obtain ⟨t, p, q⟩ := h.run W tk
  exact ⟨fun pins s σ H Q I ⟨ζ, ι, ρ, hs, er, sm, k⟩ => p.run pins s σ H Q I (q ζ ι ρ hs σ H Q er sm k)⟩
def tG (K : PySem.W.Frag) (vs : List Nat) (g : MG) : TG := fun x σ H Q => ∃ ζ ι ρ hs u, ERep K ζ ι H σ ρ ∧ Sim K ζ ι H hs ∧ VRep K ζ ι H x u ∧ Kg K ζ ι H vs σ (g u ρ hs) Q
theorem EG.can {X : Cx} {tg : Expr} {vs : List Nat} {g : MG} (h : EG X tg vs g) : PG X tg (tG X.K vs g) := by
  obtain ⟨t, p, q⟩ := h.run
  exact ⟨fun pins s σ H v u Q I r ⟨ζ, ι, ρ, hs, uu, er, sm, vr, k⟩ => p.run pins s σ H v u Q I r (q ζ ι ρ hs σ H v uu Q er sm vr k)⟩
def tI (K : PySem.W.Frag) (f : MI) (W : WX) : TI := fun σ H Q => ∃ ζ ι ρ hs, ERep K ζ ι H σ ρ ∧ Sim K ζ ι H hs ∧ Ki K ζ ι H σ (f ρ hs) Q W
theorem EI.can {X : Cx} {tg iter : Expr} {f : MI} {W : WX} (h : EI X tg iter f) (tk : Takes X W) : PI X tg iter (tI X.K f W) := by
  obtain ⟨t, p, q⟩ := h.run W tk
  exact ⟨fun pins s σ H Q I ⟨ζ, ι, ρ, hs, er, sm, k⟩ => p.run pins s σ H Q I (q ζ ι ρ hs σ H Q er sm k)⟩
abbrev W0 : WX := fun _ _ _ _ => False

/-! ### list comprehensions -/
def wipeD (ρ : Env) : List Nat → Env
  | [] => ρ
  | v :: vs => (wipeD ρ vs).set v none
theorem ERep.wipe {K : PySem.W.Frag} {ζ ι : List Addr} {H : Hp} {σ : L2.St} {ρ : Env} (er : ERep K ζ ι H σ ρ) : ∀ vs : List Nat, ERep K ζ ι H (wipe σ vs) (wipeD ρ vs)
  | [] => er
  | v :: vs => (ERep.wipe er vs).gone v none
/-- the tests of a clause: none, one -/
structure ETs (X : Cx) (ifs : List Expr) (f : Env → Hs → R Bool) : Prop where
  run : ∀ W : WX, Takes X W → PTs X ifs (tT X.K f W)
def tYesD : Env → Hs → R Bool := fun _ h => .ok true h
open Classical in
noncomputable def compR (g : List (Nat × List D)) (gt : MG) (ft : Env → Hs → R Bool) (fe : MV) (ρ : Env) : List D → Hs → List D → Option (List D × Hs)
  | [], h, acc => if Chk g h then some (acc, h) else none
  | d :: ds, h, acc => if Chk g h then (match gt (.d d) ρ h with
    | .ok ρ1 h1 => (match ft ρ1 h1 with
      | .ok true h2 => (match fe ρ1 h2 with
        | .ok (.d x) h3 => if acc.length < sizeLine then compR g gt ft fe ρ ds h3 (acc ++ [x]) else none
        | _ => none)
      | .ok false h2 => compR g gt ft fe ρ ds h2 acc
      | _ => none)
    | _ => none) else none
def mkL (o : Option (List D × Hs)) : R Val := match o with
  | some (ds, h) => .ok (.d (.list ds)) h
  | none => .no
def mkLM (o : Option (List D × Hs)) : R Val := match o with
  | some (ds, h) => .ok (.r h.length) (h ++ [.lst ds])
  | none => .no
noncomputable def eLc (vs : List Nat) (fi : MI) (gt : MG) (ft : Env → Hs → R Bool) (fe : MV) : MV := fun ρ h => (fi ρ h).bind fun p h1 => mkL (compR p.2 gt ft fe (wipeD ρ vs) p.1 h1 [])
/-- the new list will be changed: a new place of the store -/
noncomputable def eLcM (vs : List Nat) (fi : MI) (gt : MG) (ft : Env → Hs → R Bool) (fe : MV) : MV := fun ρ h => (fi ρ h).bind fun p h1 => mkLM (compR p.2 gt ft fe (wipeD ρ vs) p.1 h1 [])
theorem Sim.making {K : PySem.W.Frag} {ζ ι : List Addr} {H : Hp} {hs : Hs} (s : Sim K ζ ι H hs) {q : Addr} (hq : H q = none) (xs : List V) : Sim K (q :: ζ) ι (upd H q (.lst xs)) hs ∧ ∀ {v : V} {d : D}, Rep K (ζ ++ ι) H v d → Rep K (q :: ζ ++ ι) (upd H q (.lst xs)) v d := by
  have fr := s.fresh hq
  have mv : Mv (ζ ++ ι) H (q :: ζ ++ ι) (upd H q (.lst xs)) := ⟨fun a o h n => ⟨same_new hq a o h, fun m => by
    rcases List.mem_cons.mp m with e | m
    · rw [e, hq] at h; cases h
    · exact n m⟩, s.mvA⟩
  refine ⟨⟨?_, s.len, fun i a m h1 h2 => ?_, fun a m => ?_⟩, fun r => r.mv mv⟩
  · exact List.nodup_cons.mpr ⟨fr, s.nd⟩
  · have z := s.at_ i a m h1 h2
    cases z with
    | lst z r => exact .lst (same_new hq _ _ z) (r.mv mv)
    | dK z r => exact .dK (same_new hq _ _ z) (r.mv mv)
    | dT z r => exact .dT (same_new hq _ _ z) (r.mv mv)
  · rcases List.mem_cons.mp m with e | m
    · rw [e]; exact .inl ⟨xs, upd_same⟩
    · rcases s.ap a m with ⟨x, z⟩ | ⟨x, z⟩ | ⟨x, z⟩
      · exact .inl ⟨x, same_new hq _ _ z⟩
      · exact .inr (.inl ⟨x, same_new hq _ _ z⟩)
      · exact .inr (.inr ⟨x, same_new hq _ _ z⟩)
/-- the list in the making grows -/
theorem Sim.grow {K : PySem.W.Frag} {ζ ι : List Addr} {H : Hp} {hs : Hs} {q : Addr} (s : Sim K (q :: ζ) ι H hs) (xs : List V) : Sim K (q :: ζ) ι (upd H q (.lst xs)) hs ∧ Mv (q :: ζ ++ ι) H (q :: ζ ++ ι) (upd H q (.lst xs)) := by
  have mv : Mv (q :: ζ ++ ι) H (q :: ζ ++ ι) (upd H q (.lst xs)) := ⟨fun a o h n => ⟨by
    rw [upd_ne (fun e => n (by rw [e]; exact List.mem_cons_self))]; exact h, n⟩, s.mvA⟩
  have nq : ∀ {a : Addr}, a ∈ ζ ++ ι → a ≠ q := fun {a} m e => (List.nodup_cons.mp s.nd).1 (e ▸ m)
  refine ⟨⟨s.nd, s.len, fun i a m h1 h2 => ?_, fun a m => ?_⟩, mv⟩
  · have z := s.at_ i a m h1 h2
    have ne : a ≠ q := nq (List.mem_append_right _ (List.mem_of_getElem? h1))
    cases z with
    | lst z r => exact .lst (by rw [upd_ne ne]; exact z) (r.mv mv)
    | dK z r => exact .dK (by rw [upd_ne ne]; exact z) (r.mv mv)
    | dT z r => exact .dT (by rw [upd_ne ne]; exact z) (r.mv mv)
  · by_cases e : a = q
    · rw [e]; exact .inl ⟨xs, upd_same⟩
    · rcases s.ap a m with ⟨x, z⟩ | ⟨x, z⟩ | ⟨x, z⟩
      · exact .inl ⟨x, by rw [upd_ne e]; exact z⟩
      · exact .inr (.inl ⟨x, by rw [upd_ne e]; exact z⟩)
      · exact .inr (.inr ⟨x, by rw [upd_ne e]; exact z⟩)
/-- it is made: no longer one in the making -/
theorem Sim.made {K : PySem.W.Frag} {ζ ι : List Addr} {H : Hp} {hs : Hs} {q : Addr} (s : Sim K (q :: ζ) ι H hs) : Sim K ζ ι H hs := by
  have sub : ∀ a ∈ ζ ++ ι, a ∈ q :: ζ ++ ι := fun a m => List.mem_cons_of_mem _ m
  refine ⟨(List.nodup_cons.mp s.nd).2, s.len, fun i a m h1 h2 => ?_, fun a m => s.ap a (List.mem_cons_of_mem _ m)⟩
  have z := s.at_ i a m h1 h2
  cases z with
  | lst z r => exact .lst z (r.sub sub)
  | dK z r => exact .dK z (r.sub sub)
  | dT z r => exact .dT z (r.sub sub)
/-- it is made, and is a place of the store -/
theorem Sim.madeM {K : PySem.W.Frag} {ζ ι : List Addr} {H : Hp} {hs : Hs} {q : Addr} {xs : List V} {ds : List D} (s : Sim K (q :: ζ) ι H hs) (hq : H q = some (.lst xs)) (r : RepAll K (q :: ζ ++ ι) H xs ds) : Sim K ζ (ι ++ [q]) H (hs ++ [.lst ds]) := by
  have sub : ∀ a ∈ ζ ++ (ι ++ [q]), a ∈ q :: ζ ++ ι := fun a m => by
    simp only [List.mem_append, List.mem_cons, List.mem_nil_iff, or_false, List.cons_append] at m ⊢
    rcases m with m | m | m
    · exact .inr (.inl m)
    · exact .inr (.inr m)
    · exact .inl m
  have nd := List.nodup_cons.mp s.nd
  refine ⟨?_, by simp [s.len], fun i a m h1 h2 => ?_, fun a m => s.ap a (List.mem_cons_of_mem _ m)⟩
  · rw [← List.append_assoc]
    refine List.nodup_append.mpr ⟨nd.2, by simp, fun a ha b hb => ?_⟩
    have e : b = q := by simpa using hb
    rw [e]
    rintro rfl
    exact nd.1 ha
  · by_cases hi : i < ι.length
    · rw [List.getElem?_append_left hi] at h1
      rw [List.getElem?_append_left (by rw [← s.len]; exact hi)] at h2
      have z := s.at_ i a m h1 h2
      cases z with
      | lst z r => exact .lst z (r.sub sub)
      | dK z r => exact .dK z (r.sub sub)
      | dT z r => exact .dT z (r.sub sub)
    · have e : i = ι.length := by
        have := (List.getElem?_eq_some_iff.mp h1).1
        rw [List.length_append, List.length_singleton] at this
        omega
      rw [e, List.getElem?_append_right (Nat.le_refl _), Nat.sub_self] at h1
      rw [e, s.len, List.getElem?_append_right (Nat.le_refl _), Nat.sub_self] at h2
      cases h1
      cases h2
      exact .lst hq (r.sub sub)
theorem TRepAll.mvW {K : PySem.W.Frag} {ζ ζ' ι0 ι : List Addr} {H0 H : Hp} (m : Mv (ζ ++ ι0) H0 (ζ' ++ ι) H) (p : ι0 <+: ι) : ∀ {vs : List V} {ms : List (Sum D Nat)}, TRepAll K ζ ι0 H0 vs ms → TRepAll K ζ' ι H vs ms
  | _, _, .nil => .nil
  | _, _, .d q t => .d (q.mv m) (TRepAll.mvW m p t)
  | _, _, .r h t => .r (by
    obtain ⟨u, rfl⟩ := p
    obtain ⟨hi, _⟩ := List.getElem?_eq_some_iff.mp h
    rw [List.getElem?_append_left hi]; exact h) (TRepAll.mvW m p t)
theorem VRep.mvW {K : PySem.W.Frag} {ζ ζ' ι0 ι : List Addr} {H0 H : Hp} {x : V} {u : Val} (m : Mv (ζ ++ ι0) H0 (ζ' ++ ι) H) (p : ι0 <+: ι) (r : VRep K ζ ι0 H0 x u) : VRep K ζ' ι H x u := by
  cases r with
  | d r => exact .d (r.mv m)
  | @r a i h =>
    obtain ⟨t, rfl⟩ := p
    obtain ⟨hi, _⟩ := List.getElem?_eq_some_iff.mp h
    exact .r (by rw [List.getElem?_append_left hi]; exact h)
  | x h1 h2 h3 => exact .x (m.fz h1 (by intro _ z; cases z) (by intro _ z; cases z) (by intro _ z; cases z)) (m.fz h2 (by intro _ z; cases z) (by intro _ z; cases z) (by intro _ z; cases z)) (h3.mv m)
  | s h =>
    rcases h with ⟨o, h⟩ | h
    · exact .s (.inl ⟨o, m.fz h (by intro _ z; cases z) (by intro _ z; cases z) (by intro _ z; cases z)⟩)
    · exact .s (.inr h)
  | c h => exact .c h
  | t h q => exact .t (m.fz h (by intro _ z; cases z) (by intro _ z; cases z) (by intro _ z; cases z)) (q.mvW m p)
theorem ERep.mvW {K : PySem.W.Frag} {ζ ζ' ι0 ι : List Addr} {H0 H : Hp} {σ : L2.St} {ρ : Env} (m : Mv (ζ ++ ι0) H0 (ζ' ++ ι) H) (p : ι0 <+: ι) (r : ERep K ζ ι0 H0 σ ρ) : ERep K ζ' ι H σ ρ :=
  ⟨r.1, fun i v h => let ⟨x, h1, h2⟩ := r.2 i v h; ⟨x, h1, h2.mvW m p⟩⟩
section
variable {X : Cx} {pos : Pos}
theorem ets_nil : ETs X [] tYesD := ⟨fun W tk => ⟨fun pins s σ H Q I ⟨ζ, ι, ρ, hs, er, sm, k⟩ => pts_nil.run pins s σ H Q I (k.here sm (fun _ _ h => h) rfl)⟩⟩
theorem ets_one {c : Expr} {f : Env → Hs → R Bool} (h : ET X c f) : ETs X [c] f := ⟨fun W tk => pts_one (h.can tk)⟩
/-- the loop of a comprehension, from the iterator's start on -/
theorem lc_loop {K : PySem.W.Frag} {ζ ι1 : List Addr} {H1 : Hp} {h1 : Hs} {J : It} {its : List D} {g : List (Nat × List D)} {gt : MG} {ft : Env → Hs → R Bool} {fe : MV} {vs ws : List Nat} {σ : L2.St} {ρ : Env} {Q : VK} {ds : List D} {hE : Hs}
    (hv : ∀ i ∈ ws, i ∈ vs) (s1 : Sim K ζ ι1 H1 h1) (er : ERep K ζ ι1 H1 σ ρ) (io : IterOk K ζ ι1 H1 J its g) (hc : compR g gt ft fe (wipeD ρ vs) its h1 [] = some (ds, hE))
    (fin : ∀ q xs ι H, H1 q = none → Ext ι1 H1 ι H → Sim K (q :: ζ) ι H hE → H q = some (.lst xs) → RepAll K (q :: ζ ++ ι) H xs ds → Q (.ref q) H) :
    ∀ D, H1 D = none → ∃ W : Nat → Nat → Hp → Prop, (∃ m, W 0 m (upd H1 D (.lst []))) ∧ ∀ i m H, W i m H →
      (J.stop i H ∧ Q (.ref D) H) ∨ (J.go i H ∧ ∃ Nx : Hp → Prop, (∀ H', Nx H' → ∃ m', m' < m ∧ W (i + 1) m' H') ∧ ∀ x H', J.yld i H x H' → tG K ws gt x (wipe σ vs) H' fun σ2 H2 => wipe σ2 vs = wipe σ vs ∧ tT K ft W0 σ2 H2 fun b H3 =>
        if b = true then tE K fe W0 σ2 H3 fun y H4 => ∃ acc, H4 D = some (.lst acc) ∧ acc.length < sizeLine ∧ Nx (upd H4 D (.lst (acc ++ [y]))) else Nx H3) := by
  intro D hD
  have mk := s1.making hD []
  have hz : ∀ a ∈ D :: ζ, a ∈ ζ ∨ H1 a = none := fun a m => by
    rcases List.mem_cons.mp m with e | m
    · rw [e]; exact .inr hD
    · exact .inl m
  -- the invariant
  refine ⟨fun i m H => m = its.length - i ∧ i ≤ its.length ∧ ∃ ι h acc xs, Ext ι1 H1 ι H ∧ Sim K (D :: ζ) ι H h ∧ H D = some (.lst xs) ∧ RepAll K (D :: ζ ++ ι) H xs acc ∧ compR g gt ft fe (wipeD ρ vs) (its.drop i) h acc = some (ds, hE),
    ⟨its.length, by simp, Nat.zero_le _, ι1, h1, [], [], Ext.of_same (same_new hD), mk.1, upd_same, .nil, hc⟩, ?_⟩
  rintro i m H ⟨rfl, hi, ι2, h2, acc, xs, e2, s2, hx, ra, c2⟩
  have er2 : ERep K (D :: ζ) ι2 H (wipe σ vs) (wipeD ρ vs) := (er.wipe vs).mvW (mv_wide s1 e2 hz) e2.pre
  by_cases hlt : i < its.length
  · rw [List.drop_eq_getElem_cons hlt] at c2
    unfold compR at c2
    split at c2
    · rename_i hck
      obtain ⟨go, yl⟩ := (io.step i (D :: ζ) ι2 H h2 e2 s2 hz hck).1 hlt
      refine .inr ⟨go, fun H' => its.length - (i + 1) < its.length - i ∧ i + 1 ≤ its.length ∧ ∃ ι h acc xs, Ext ι1 H1 ι H' ∧ Sim K (D :: ζ) ι H' h ∧ H' D = some (.lst xs) ∧ RepAll K (D :: ζ ++ ι) H' xs acc ∧ compR g gt ft fe (wipeD ρ vs) (its.drop (i + 1)) h acc = some (ds, hE),
        fun H' ⟨q1, q2, q3⟩ => ⟨_, q1, rfl, q2, q3⟩, fun x H' y => ?_⟩
      obtain ⟨sm, rp⟩ := yl x H' y
      have rx := rp _ (List.getElem?_eq_getElem hlt)
      have ex := Ext.of_same (ι := ι2) sm
      split at c2
      · rename_i ρ3 h3 eg
        refine ⟨D :: ζ, ι2, wipeD ρ vs, h2, .d its[i], er2.mv s2 ex, s2.same sm, .d rx, ?_⟩
        rw [eg]
        intro σ3 H3 ι3 e3 s3 er3 w3
        refine ⟨(w3 vs hv).trans ?_, D :: ζ, ι3, ρ3, h3, er3, s3, ?_⟩
        · apply List.ext_getElem?
          intro j
          rw [wipe_get, wipe_get, wipe_length]
          by_cases hj : j ∈ vs ∧ j < σ.length
          · rw [if_pos hj, if_pos hj]
          · rw [if_neg hj, if_neg hj]
        have eA : Ext ι2 H ι3 H3 := ex.trans e3
        split at c2
        · rename_i h4 et
          rw [et]
          intro b H4 ι4 e4 s4 eb
          subst eb
          rw [if_pos rfl]
          split at c2
          · rename_i x5 h5 ee
            split at c2
            · rename_i hl
              refine ⟨D :: ζ, ι4, ρ3, h4, er3.mv s3 e4, s4, ?_⟩
              rw [ee]
              intro y5 H5 ι5 e5 s5 r5
              have eB : Ext ι2 H ι5 H5 := (eA.trans e4).trans e5
              have nD : D ∉ ι2 := fun m => (List.nodup_cons.mp s2.nd).1 (List.mem_append_right _ m)
              have hx5 : H5 D = some (.lst xs) := eB.keep _ _ hx nD
              have ra5 := ra.mv (s2.mv eB)
              obtain ⟨s6, m6⟩ := s5.grow (xs ++ [y5])
              refine ⟨xs, hx5, by rw [ra5.length]; exact hl, by omega, hlt, ι5, h5, acc ++ [x5], xs ++ [y5], ?_, s6, upd_same, ?_, c2⟩
              · have eC := e2.trans eB
                exact ⟨eC.pre, eC.new, fun a o h n => by
                  rw [upd_ne (fun e => by rw [e, hD] at h; cases h)]
                  exact eC.keep a o h n⟩
              · cases r5 with
                | d r5 => exact (ra5.app (.cons r5 .nil)).mv m6
            · cases c2
          · cases c2
        · rename_i h4 et
          rw [et]
          intro b H4 ι4 e4 s4 eb
          subst eb
          rw [if_neg Bool.false_ne_true]
          have eB : Ext ι2 H ι4 H4 := eA.trans e4
          have nD : D ∉ ι2 := fun m => (List.nodup_cons.mp s2.nd).1 (List.mem_append_right _ m)
          exact ⟨by omega, hlt, ι4, h4, acc, xs, e2.trans eB, s4, eB.keep _ _ hx nD, ra.mv (s2.mv eB), c2⟩
        · cases c2
      · cases c2
    · cases c2
  · have e : i = its.length := by omega
    subst e
    rw [List.drop_length] at c2
    unfold compR at c2
    split at c2
    · rename_i hck
      cases c2
      exact .inl ⟨(io.step _ (D :: ζ) ι2 H _ e2 s2 hz hck).2 (Nat.le_refl _), fin D xs ι2 H hD e2 s2 hx ra⟩
    · cases c2
theorem Ki.of_lc {K : PySem.W.Frag} {ζ ι : List Addr} {H : Hp} {σ : L2.St} {r : R (List D × List (Nat × List D))} {k : List D × List (Nat × List D) → Hs → R Val} {Q : VK} {W : WX} {Q1 : It → Hp → Prop} (w : Kt K ζ (VRep K ζ) ι H (r.bind k) Q (WE W σ))
    (h : ∀ p hs J H' ι', Ext ι H ι' H' → Sim K ζ ι' H' hs → IterOk K ζ ι' H' J p.1 p.2 → Kt K ζ (VRep K ζ) ι' H' (k p hs) Q (WE W σ) → Q1 J H') : Ki K ζ ι H σ r Q1 W := by
  cases r with
  | ok a hs => exact fun b H' ι' e s r => h a hs b H' ι' e s r (w.mv e)
  | ex c v hs => exact w
  | no => exact w
variable {elt tg iter : Expr} {ifs : List Expr} {scope : Scope} {own : List (Str × Nat)} {ws : List Nat} {fi : MI} {gt : MG} {ft : Env → Hs → R Bool} {fe : MV}
/-- what both kinds of list comprehension need -/
theorem lc_reads {W : WX} {ζ ι : List Addr} {ρ : Env} {hs : Hs} {σ : L2.St} {H : Hp} {Q : VK} {m : Bool} (hv : ∀ i ∈ ws, i ∈ own.map (·.2)) (er : ERep X.K ζ ι H σ ρ) (s : Sim X.K ζ ι H hs)
    (k : Kt X.K ζ (VRep X.K ζ) ι H ((if m = true then eLcM (own.map (·.2)) fi gt ft fe else eLc (own.map (·.2)) fi gt ft fe) ρ hs) Q (WE W σ)) :
    tLc (tI X.K fi W) (tG X.K ws gt) (tT X.K ft W0) (tE X.K fe W0) (own.map (·.2)) σ H Q := by
  refine ⟨ζ, ι, ρ, hs, er, s, ?_⟩
  cases m with
  | false =>
    simp only [Bool.false_eq_true, if_false] at k
    refine Ki.of_lc k fun p h1 J H1 ι1 e1 s1 io k1 => ?_
    cases hc : compR p.2 gt ft fe (wipeD ρ (own.map (·.2))) p.1 h1 [] with
    | none => rw [hc] at k1; exact k1.elim
    | some y =>
      obtain ⟨ds, hE⟩ := y
      rw [hc] at k1
      refine lc_loop hv s1 (er.mv s e1) io hc fun q xs ι2 H2 hq e2 s2 hx ra => ?_
      exact k1 _ H2 ι2 e2 s2.made (.d (.lst hx (fun m => (List.nodup_cons.mp s2.nd).1 m) (ra.sub fun a m => List.mem_cons_of_mem _ m)))
  | true =>
    simp only [if_true] at k
    refine Ki.of_lc k fun p h1 J H1 ι1 e1 s1 io k1 => ?_
    cases hc : compR p.2 gt ft fe (wipeD ρ (own.map (·.2))) p.1 h1 [] with
    | none => rw [hc] at k1; exact k1.elim
    | some y =>
      obtain ⟨ds, hE⟩ := y
      rw [hc] at k1
      refine lc_loop hv s1 (er.mv s e1) io hc fun q xs ι2 H2 hq e2 s2 hx ra => ?_
      refine k1 _ H2 (ι2 ++ [q]) ⟨e2.pre.trans (List.prefix_append _ _), fun a m n => ?_, e2.keep⟩ (s2.madeM hx ra) (.r ?_)
      · rcases List.mem_append.mp m with m | m
        · exact e2.new a m n
        · have e : a = q := by simpa using m
          rw [e]; exact hq
      · rw [← s2.len, List.getElem?_append_right (Nat.le_refl _), Nat.sub_self]
        rfl
theorem ee_lc0 {k : Nat} (m : Bool) (C : Cn X k) (hi : EI X tg iter fi) (ok : BlkOk X.N X.env.scope scope own) (hv : ∀ i ∈ ws, i ∈ own.map (·.2))
    (hg : ∀ (s : Shared) (H : Hp) (C : Addr) (cl : List (Str × Addr)) (fp : List Addr), EG (X.blk s H scope (compEnvC scope cl C X.env) fp) tg ws gt)
    (ht : ∀ (s : Shared) (H : Hp) (C : Addr) (cl : List (Str × Addr)) (fp : List Addr), ETs (X.blk s H scope (compEnvC scope cl C X.env) fp) ifs ft)
    (he : ∀ (s : Shared) (H : Hp) (C : Addr) (cl : List (Str × Addr)) (fp : List Addr), EE (X.blk s H scope (compEnvC scope cl C X.env) fp) elt fe) (hs : ∀ x, foldedSetIterable iter X.env x = pure x) :
    EE X (.ListComp elt [⟨tg, iter, ifs, 0⟩] scope pos) (if m = true then eLcM (own.map (·.2)) fi gt ft fe else eLc (own.map (·.2)) fi gt ft fe) := ⟨fun W tk =>
  ⟨_, pe_lc C.calm C.nd (hi.can tk) ok (fun s H C cl fp => (hg s H C cl fp).can) (fun s H C cl fp => (ht s H C cl fp).run W0 takes0) (fun s H C cl fp => (he s H C cl fp).can takes0) hs, fun ζ ι ρ hs σ H Q er s k => lc_reads hv er s k⟩⟩
end
end DL

set_option Elab.async false
set_option linter.all false
set_option maxRecDepth 100000
set_option maxHeartbeats 1000000
namespace DL
open PySem PySem.Spec PyProof.Rows L2

/-! ### defs -/
abbrev FnD := List Val → Hs → R Val
/-- what a def hands back of a store of n places at its call: its own places are let go; a list of its own is frozen, or (keep) is the caller's new place -/
def frz (n : Nat) (h : Hs) : List (Sum D Nat) → Option (List D)
  | [] => some []
  | .inl d :: ms => (frz n h ms).map (d :: ·)
  | .inr i :: ms => if i < n then none else match h[i]? with
    | some (.lst ds) => (frz n h ms).map (.list ds :: ·)
    | some (.dic _ kvs) => (frz n h ms).map (.dict kvs :: ·)
    | none => none
def exitV (keep : Bool) (n : Nat) (v : Val) (h : Hs) : R Val := match v with
  | .d x => .ok (.d x) (h.take n)
  | .x c d => .ok (.x c d) (h.take n)
  | .s ns => .ok (.s ns) (h.take n)
  | .c ns => .ok (.c ns) (h.take n)
  | .t ms => match frz n h ms with
    | some ds => .ok (.d (.tuple ds)) (h.take n)
    | none => .no
  | .r i => if i < n then .ok (.r i) (h.take n) else match h[i]? with
    | some m => if keep = true then .ok (.r n) (h.take n ++ [m]) else (match m with
      | .lst ds => .ok (.d (.list ds)) (h.take n)
      | .dic _ kvs => .ok (.d (.dict kvs)) (h.take n))
    | none => .no
def exitS (keep : Bool) (n : Nat) (r : S) : R Val := match r with
  | .rt v h => exitV keep n v h
  | .nx _ h => .ok (.d .none) (h.take n)
  | .ex c v _ h => .ex c v (h.take n)
  | _ => .no
def startE (N : Nat) (us : List Val) : Env := us.map some ++ List.replicate (N - us.length) none
def mkF (keep : Bool) (N n : Nat) (g : MS) : FnD := fun us h => if us.length = n then exitS keep h.length (g (startE N us) h) else .no
/-- the promise: the call means F -/
def spOf (K : PySem.W.Frag) (n : Nat) (F : FnD) : Sp := fun vs H Q E => ∃ ζ ι hs us, us.length = n ∧ Sim K ζ ι H hs ∧ VRepAll K ζ ι H vs us ∧ Kt K ζ (VRep K ζ) ι H (F us hs) Q E
/-- a def of the text, and what it means -/
structure FnF (P : Program) (w : World) (K : PySem.W.Frag) (mg : Str → Option Value) (base : Heap) (x : Str) (pa : Arguments) (bd : List Stmt) (sc : Scope) (ps : List Str) (k : Nat) (F : FnD) : Prop where
  ex : ∃ f fd, mg x = some (.ref f) ∧ FunD K x x pa bd sc [] [] f fd ∧ Binds K fd ps [] ∧ FnOk P w K mg base (L2.CX P w) k f fd ps (spOf K ps.length F)
  len : ∀ us h, F us h ≠ .no → us.length = ps.length
section
variable {K : PySem.W.Frag} {ζ ι ι' : List Addr} {H H' : Hp} {hs : Hs}
theorem VRepAll.length : ∀ {vs : List V} {us : List Val}, VRepAll K ζ ι H vs us → vs.length = us.length
  | _, _, .nil => rfl
  | _, _, .cons _ t => by rw [List.length_cons, List.length_cons, VRepAll.length t]
theorem VRepAll.get : ∀ {vs : List V} {us : List Val} {i : Nat} {u : Val}, VRepAll K ζ ι H vs us → us[i]? = some u → ∃ v, vs[i]? = some v ∧ VRep K ζ ι H v u
  | _, _, 0, _, .cons r _, e => ⟨_, rfl, by cases e; exact r⟩
  | _, _, i + 1, _, .cons _ t, e => by
    obtain ⟨v, h1, h2⟩ := VRepAll.get (i := i) t (by simpa using e)
    exact ⟨v, by simpa using h1, h2⟩
  | _, _, _, _, .nil, e => by simp at e
theorem start_rep {N : List Str} {vs : List V} {us : List Val} (r : VRepAll K ζ ι H vs us) : ERep K ζ ι H (L2.start N vs) (startE N.length us) := by
  have hl := r.length
  refine ⟨by simp [L2.start, startE, hl]; try omega, fun i v h => ?_⟩
  unfold startE at h
  unfold L2.start
  by_cases hi : i < us.length
  · rw [List.getElem?_append_left (by simpa using hi), List.getElem?_map] at h
    rw [List.getElem?_append_left (by simpa [hl] using hi), List.getElem?_map]
    cases e : us[i]? with
    | none => rw [e] at h; cases h
    | some u =>
      rw [e] at h
      have : u = v := by simpa using h
      subst this
      obtain ⟨x, q1, q2⟩ := r.get e
      exact ⟨x, by rw [q1]; rfl, q2⟩
  · rw [List.getElem?_append_right (by simpa using hi)] at h
    rw [List.getElem?_replicate] at h
    split at h <;> cases h
theorem Sim.take (s : Sim K ζ ι' H' hs) (e : Ext ι H ι' H') : Sim K ζ ι H' (hs.take ι.length) := by
  obtain ⟨t, rfl⟩ := e.pre
  have sub : ∀ a ∈ ζ ++ ι, a ∈ ζ ++ (ι ++ t) := fun a m => by
    rcases List.mem_append.mp m with m | m
    · exact List.mem_append_left _ m
    · exact List.mem_append_right _ (List.mem_append_left _ m)
  have hl := s.len
  rw [List.length_append] at hl
  refine ⟨?_, by rw [List.length_take]; omega, fun i a m h1 h2 => ?_, s.ap⟩
  · have nd := s.nd
    rw [← List.append_assoc] at nd
    exact (List.nodup_append.mp nd).1
  · obtain ⟨hi, _⟩ := List.getElem?_eq_some_iff.mp h1
    rw [List.getElem?_take_of_lt hi] at h2
    have z := s.at_ i a m (by rw [List.getElem?_append_left hi]; exact h1) h2
    cases z with
    | lst z r => exact .lst z (r.sub sub)
    | dK z r => exact .dK z (r.sub sub)
    | dT z r => exact .dT z (r.sub sub)
theorem Ext.back (e : Ext ι H ι' H') : Ext ι H ι H' := ⟨List.prefix_rfl, fun a h1 h2 => absurd h1 h2, e.keep⟩
theorem sub_back (e : Ext ι H ι' H') : ∀ a ∈ ζ ++ ι, a ∈ ζ ++ ι' := fun a m => by
  obtain ⟨t, rfl⟩ := e.pre
  rcases List.mem_append.mp m with m | m
  · exact List.mem_append_left _ m
  · exact List.mem_append_right _ (List.mem_append_left _ m)
theorem frz_ok (s : Sim K ζ ι H hs) {h' : Hs} (e : Ext ι H ι' H') (s' : Sim K ζ ι' H' h') : ∀ {xs : List V} {ms : List (Sum D Nat)} {ds : List D}, TRepAll K ζ ι' H' xs ms → frz hs.length h' ms = some ds → RepAll K (ζ ++ ι) H' xs ds
  | _, _, _, .nil, q => by cases q; exact .nil
  | _, _, _, .d (ms := ms) r t, q => by
    simp only [frz] at q
    cases z : frz hs.length h' ms with
    | none => rw [z] at q; cases q
    | some es =>
      rw [z] at q
      cases q
      exact .cons (r.sub (sub_back e)) (frz_ok s e s' t z)
  | _, _, _, .r (a := a) (i := i) (ms := ms) r t, q => by
    have hl := s.len
    simp only [frz] at q
    split at q
    · cases q
    · rename_i hi
      have na : a ∉ ζ ++ ι := fun mm => by
        obtain ⟨u, rfl⟩ := e.pre
        have nd := s'.nd
        rw [← List.append_assoc] at nd
        have hi2 : ι.length ≤ i := by omega
        rw [List.getElem?_append_right hi2] at r
        exact (List.nodup_append.mp nd).2.2 a mm a (List.mem_of_getElem? r) rfl
      cases em : h'[i]? with
      | none => rw [em] at q; cases q
      | some m =>
        have z := s'.at_ i a m r em
        rw [em] at q
        cases z with
        | lst z1 z2 =>
          simp only at q
          cases y : frz hs.length h' ms with
          | none => rw [y] at q; cases q
          | some es =>
            rw [y] at q
            cases q
            exact .cons (.lst z1 na (z2.sub (sub_back e))) (frz_ok s e s' t y)
        | dK z1 z2 =>
          simp only at q
          cases y : frz hs.length h' ms with
          | none => rw [y] at q; cases q
          | some es =>
            rw [y] at q
            cases q
            exact .cons (.dK z1 na (z2.sub (sub_back e))) (frz_ok s e s' t y)
        | dT z1 z2 =>
          simp only at q
          cases y : frz hs.length h' ms with
          | none => rw [y] at q; cases q
          | some es =>
            rw [y] at q
            cases q
            exact .cons (.dT z1 na (z2.sub (sub_back e))) (frz_ok s e s' t y)
theorem exitV_ok {keep : Bool} {v : Val} {Q : VK} {E : XK} {x : V} (s : Sim K ζ ι H hs) {h' : Hs} (k : Kt K ζ (VRep K ζ) ι H (exitV keep hs.length v h') Q E) (e : Ext ι H ι' H') (s' : Sim K ζ ι' H' h') (r : VRep K ζ ι' H' x v) : Q x H' := by
  have hl := s.len
  have st := s'.take e
  rw [hl] at st
  unfold exitV at k
  cases r with
  | d r => exact k x H' ι e.back st (.d (r.sub (sub_back e)))
  | x q1 q2 q3 => exact k _ H' ι e.back st (.x q1 q2 (q3.sub (sub_back e)))
  | s q => exact k _ H' ι e.back st (.s q)
  | c q => exact k _ H' ι e.back st (.c q)
  | t q1 q2 =>
    simp only at k
    cases y : frz hs.length h' _ with
    | none => rw [y] at k; exact k.elim
    | some ds =>
      rw [y] at k
      exact k _ H' ι e.back st (.d (.tup q1 (frz_ok s e s' q2 y)))
  | @r a i q =>
    by_cases hi : i < hs.length
    · simp only [if_pos hi] at k
      refine k _ H' ι e.back st (.r ?_)
      obtain ⟨t, rfl⟩ := e.pre
      rw [List.getElem?_append_left (by rw [hl]; exact hi)] at q
      exact q
    · simp only [if_neg hi] at k
      cases em : h'[i]? with
      | none => rw [em] at k; exact k.elim
      | some m =>
        simp only [em] at k
        have z := s'.at_ i a m q em
        have na : a ∉ ζ ++ ι := fun mm => by
          obtain ⟨t, rfl⟩ := e.pre
          have nd := s'.nd
          rw [← List.append_assoc] at nd
          have hi2 : ι.length ≤ i := by omega
          rw [List.getElem?_append_right hi2] at q
          exact (List.nodup_append.mp nd).2.2 a mm a (List.mem_of_getElem? q) rfl
        by_cases hk : keep = true
        · simp only [if_pos hk] at k
          have naz : a ∉ ι := fun mm => na (List.mem_append_right _ mm)
          have ma : a ∈ ι' := List.mem_of_getElem? q
          have ex : Ext ι H (ι ++ [a]) H' := ⟨List.prefix_append _ _, fun b m n => by
            rcases List.mem_append.mp m with m | m
            · exact absurd m n
            · have eb : b = a := by simpa using m
              rw [eb]; exact e.new a ma naz, e.keep⟩
          have sub : ∀ b ∈ ζ ++ (ι ++ [a]), b ∈ ζ ++ ι' := fun b m => by
            rcases List.mem_append.mp m with m | m
            · exact List.mem_append_left _ m
            · rcases List.mem_append.mp m with m | m
              · exact sub_back (ζ := ζ) e b (List.mem_append_right _ m)
              · have eb : b = a := by simpa using m
                rw [eb]; exact List.mem_append_right _ ma
          refine k _ H' (ι ++ [a]) ex ⟨?_, by simp [st.len, hl], fun j b m' h1 h2 => ?_, s'.ap⟩ (.r ?_)
          · rw [← List.append_assoc]
            refine List.nodup_append.mpr ⟨s.nd, by simp, fun b hb c hc => ?_⟩
            have ec : c = a := by simpa using hc
            rw [ec]
            rintro rfl
            exact na hb
          · by_cases hj : j < ι.length
            · rw [List.getElem?_append_left hj] at h1
              have hj2 : j < (h'.take hs.length).length := by rw [← st.len]; exact hj
              rw [List.getElem?_append_left hj2, List.getElem?_take_of_lt (by rw [← hl]; exact hj)] at h2
              obtain ⟨t, rfl⟩ := e.pre
              have y := s'.at_ j b m' (by rw [List.getElem?_append_left hj]; exact h1) h2
              cases y with
              | lst z r => exact .lst z (r.sub sub)
              | dK z r => exact .dK z (r.sub sub)
              | dT z r => exact .dT z (r.sub sub)
            · have ej : j = ι.length := by
                have := (List.getElem?_eq_some_iff.mp h1).1
                rw [List.length_append, List.length_singleton] at this
                omega
              have e2 : ι.length = (h'.take hs.length).length := st.len
              rw [ej, List.getElem?_append_right (Nat.le_refl _), Nat.sub_self] at h1
              rw [ej, e2, List.getElem?_append_right (Nat.le_refl _), Nat.sub_self] at h2
              cases h1
              cases h2
              cases z with
              | lst z r => exact .lst z (r.sub sub)
              | dK z r => exact .dK z (r.sub sub)
              | dT z r => exact .dT z (r.sub sub)
          · rw [← hl, List.getElem?_append_right (Nat.le_refl _), Nat.sub_self]
            rfl
        · simp only [if_neg hk] at k
          cases z with
          | lst z r => exact k _ H' ι e.back st (.d (.lst z na (r.sub (sub_back e))))
          | dK z r => exact k _ H' ι e.back st (.d (.dK z na (r.sub (sub_back e))))
          | dT z r => exact k _ H' ι e.back st (.d (.dT z na (r.sub (sub_back e))))
end
theorem mkF_len {keep : Bool} {N n : Nat} {g : MS} (us : List Val) (h : Hs) (q : mkF keep N n g us h ≠ .no) : us.length = n := by
  unfold mkF at q
  split at q
  · assumption
  · exact absurd rfl q
section
variable {P : Program} {w : World} {K : PySem.W.Frag} {mg : Str → Option Value} {base : Heap}
/-- a def that is never called -/
theorem fn_no {x : Str} {pa : Arguments} {bd : List Stmt} {sc : Scope} {N ps : List Str} {k : Nat} {f : Addr} {fd : FuncData} (hm : mg x = some (.ref f)) (F : FunD K x x pa bd sc [] [] f fd) (S : FnScope N ps sc) (hb : Binds K fd ps []) :
    FnF P w K mg base x pa bd sc ps (k + 1) (fun _ _ => .no) := by
  refine ⟨⟨f, fd, hm, F, hb, ?_⟩, fun us h z => absurd rfl z⟩
  refine F.ok S (fun vs H Q E h => ?_) (fun cdv A outer s H vs Q E hr h => ?_)
  · obtain ⟨ζ, ι, hs, us, hl, s, r, kk⟩ := h
    exact kk.elim
  · obtain ⟨ζ, ι, hs, us, hl, sm, r, kk⟩ := h
    exact kk.elim
/-- THE RULE for a def -/
theorem fn_mk {x : Str} {pa : Arguments} {bd : List Stmt} {sc : Scope} {N ps : List Str} {k : Nat} {G : MS} {f : Addr} {fd : FuncData} (keep : Bool) (hm : mg x = some (.ref f)) (F : FunD K x x pa bd sc [] [] f fd) (S : FnScope N ps sc) (hb : Binds K fd ps [])
    (body : ∀ (cdv : Value) (A : Around) (outer : List PySem.Env) (s : Shared) (H : Hp) (E : XK), Cn (cxOf (L2.CX P w) P w K mg base N x sc f cdv A outer s H E) k → SSs (cxOf (L2.CX P w) P w K mg base N x sc f cdv A outer s H E) bd G) :
    FnF P w K mg base x pa bd sc ps (k + 1) (mkF keep N.length ps.length G) := by
  refine ⟨⟨f, fd, hm, F, hb, ?_⟩, mkF_len⟩
  refine F.ok S (fun vs H Q E h => ?_) (fun cdv A outer s H vs Q E hr h => ?_)
  · obtain ⟨ζ, ι, hs, us, hl, s, r, _⟩ := h
    rw [r.length, hl]
  · obtain ⟨ζ, ι, hs, us, hl, sm, r, kk⟩ := h
    have tk : Takes (cxOf (L2.CX P w) P w K mg base N x sc f cdv A outer s H E) (fun cls d _ H => E cls d H) := takes_of rfl rfl rfl rfl
    have C : Cn (cxOf (L2.CX P w) P w K mg base N x sc f cdv A outer s H E) k := ⟨rfl, S.nd, hr, passes_of rfl⟩
    obtain ⟨t, p, q⟩ := (body cdv A outer s H E C).run _ tk
    refine ⟨t, p, q ζ ι (startE N.length us) hs _ H _ (start_rep r) sm ?_⟩
    unfold mkF at kk
    rw [if_pos hl] at kk
    cases e : G (startE N.length us) hs with
    | nx ρ h =>
      rw [e] at kk
      intro σ' H' ι' e' s' er'
      have st := s'.take e'
      rw [sm.len] at st
      exact kk _ H' ι e'.back st (.d .non)
    | rt v h =>
      rw [e] at kk
      intro y H' ι' e' s' r'
      exact exitV_ok sm kk e' s' r'
    | bk ρ h => rw [e] at kk; exact kk.elim
    | ct ρ h => rw [e] at kk; exact kk.elim
    | no => rw [e] at kk; exact kk.elim
    | ex c v ρ h =>
      rw [e] at kk
      intro cls dd σ' H' ι' e' s' er' x'
      have st := s'.take e'
      rw [sm.len] at st
      obtain ⟨x1, da, w', x2, x3, x4⟩ := x'
      exact kk cls dd H' ι e'.back st ⟨x1, da, w', x2, x3, x4.sub (sub_back e')⟩
end
/-! ### calls -/
def eCall (F : FnD) (fas : Env → Hs → R (List Val)) : MV := fun ρ h => (fas ρ h).bind fun us h1 => F us h1
section
variable {X : Cx} {x : Str} {pa : Arguments} {bd : List Stmt} {sc : Scope} {ps : List Str} {k j : Nat} {F : FnD} {p pos : Pos} {e : Expr} {es : List Expr} {fas : Env → Hs → R (List Val)}
theorem ee_call (hf : FnF X.prog X.w X.K X.mg X.base x pa bd sc ps k F) (C : Cn X j) (ha : EA X (e :: es) fas) (hk : k ≤ j := by decide) (hg : Gl X x := by rfl) (hdb : (x == ("__debug__" : Str)) = false := by decide)
    (he : starEach (e :: es) X.env = (false, eval e X.env) :: starEach es X.env := by rfl) (hpl : (backTo pos (starEach es X.env)).any (·.1) = false := by rfl) : EE X (.Call (.Name x p) (e :: es) [] pos) (eCall F fas) := ⟨fun W tk => by
  obtain ⟨f, fd, hm, FD, hb, G⟩ := hf.ex
  obtain ⟨t, pp, q⟩ := ha.run W tk
  refine ⟨_, pe_callS G (C.room.mono hk) hg hm FD.kp hb (fun σ => passAt tk σ) pp hdb he hpl, fun ζ ι ρ hs σ H Q er s kk => q ζ ι ρ hs σ H _ er s (Kt.bind kk fun us h1 xs H1 ι1 e1 s1 r1 k1 => ?_)⟩
  refine ⟨ζ, ι1, h1, us, hf.len us h1 fun z => ?_, s1, r1, k1⟩
  rw [z] at k1
  exact k1⟩
theorem pe_callS0 {X : Cx} {CX : CXT} {k : Nat} {f : Addr} {fd : FuncData} {ps : List Str} {sp : Sp} {E : L2.St → XK} {x : Str} {p pos : Pos} (F : FnOk X.prog X.w X.K X.mg X.base CX k f fd ps sp) (hr : Room k X.A) (hg : Gl X x) (hm : X.mg x = some (.ref f)) (hk : PySem.W.keepIn X.K (.ref f) = true) (hb : Binds X.K fd ps []) (hx : ∀ σ, PassesAt CX X σ (E σ))
    (hdb : (x == ("__debug__" : Str)) = false := by decide) : PE X (.Call (.Name x p) [] [] pos) (tCallS sp E tNil) := by
  refine ⟨fun pins s σ H Q I h => ?_⟩
  refine wpAny_Call_Name_kw (ld_glob I hg hm ?_ hdb)
  exact PySem.W.callWith_K0 I.kIn hk (run_fnS (us := []) F hr hb (hx σ) I .nil h)
theorem ee_call0 (hf : FnF X.prog X.w X.K X.mg X.base x pa bd sc ps k F) (C : Cn X j) (hk : k ≤ j := by decide) (hg : Gl X x := by rfl) (hdb : (x == ("__debug__" : Str)) = false := by decide) : EE X (.Call (.Name x p) [] [] pos) (eCall F aNil) := ⟨fun W tk => by
  obtain ⟨f, fd, hm, FD, hb, G⟩ := hf.ex
  refine ⟨_, pe_callS0 G (C.room.mono hk) hg hm FD.kp hb (fun σ => passAt tk σ) hdb, fun ζ ι ρ hs σ H Q er s kk => ?_⟩
  refine ⟨ζ, ι, hs, [], hf.len [] hs fun z => ?_, s, .nil, kk⟩
  unfold eCall aNil at kk
  simp only [R.bind_ok] at kk
  rw [z] at kk
  exact kk⟩
theorem Kt.bindE {γ δ γ' δ' : Type} {K : PySem.W.Frag} {ζ ι : List Addr} {H : Hp} {rel : List Addr → Hp → δ → γ → Prop} {rel' : List Addr → Hp → δ' → γ' → Prop} {r : R γ} {k : γ → Hs → R γ'} {Q : δ' → Hp → Prop} {E : XK} {Q1 : δ → Hp → Prop}
    (w : Kt K ζ rel' ι H (r.bind k) Q E) (h : ∀ a hs b H' ι', r = .ok a hs → Ext ι H ι' H' → Sim K ζ ι' H' hs → rel ι' H' b a → Kt K ζ rel' ι' H' (k a hs) Q E → Q1 b H') : Kt K ζ rel ι H r Q1 E := by
  cases r with
  | ok a hs => exact fun b H' ι' e s r => h a hs b H' ι' rfl e s r (w.mv e)
  | ex c v hs => exact w
  | no => exact w
/-- keywords' values -/
structure EK (X : Cx) (kws : List Keyword) (n : Nat) (f : Env → Hs → R (List Val)) : Prop where
  run : ∀ W : WX, Takes X W → ∃ t, PK X kws t ∧ ∀ (ζ ι : List Addr) (ρ : Env) (hs : Hs) (σ : L2.St) (H : Hp) (Q : List V → Hp → Prop), ERep X.K ζ ι H σ ρ → Sim X.K ζ ι H hs → Kt X.K ζ (VRepAll X.K ζ) ι H (f ρ hs) Q (WE W σ) → t σ H Q
  len : ∀ ρ h us h', f ρ h = .ok us h' → us.length = n
theorem ek_nil : EK X [] 0 aNil := ⟨fun W tk => ⟨_, pk_nil, fun ζ ι ρ hs σ H Q er s k => k.here s (fun _ _ h => h) .nil⟩, fun ρ h us h' e => by cases e; rfl⟩
theorem ek_cons {nm : Option Str} {kpos : Pos} {kws : List Keyword} {n : Nat} {fa : MV} {fr : Env → Hs → R (List Val)} (ha : EE X e fa) (hr : EK X kws n fr) : EK X (⟨nm, e, kpos⟩ :: kws) (n + 1) (aCons fa fr) := ⟨fun W tk => by
  obtain ⟨ta, pa, qa⟩ := ha.run W tk
  obtain ⟨tr, pr, qr⟩ := hr.run W tk
  refine ⟨_, pk_cons pa pr, fun ζ ι ρ hs σ H Q er s k => ?_⟩
  refine qa ζ ι ρ hs σ H _ er s (Kt.bind k fun u h1 x H1 ι1 e1 s1 r1 k1 => ?_)
  refine qr ζ ι1 ρ h1 σ H1 _ (er.mv s e1) s1 (Kt.bind k1 fun us h2 xs H2 ι2 e2 s2 r2 k2 => ?_)
  exact k2.here s2 (fun _ _ h => h) (.cons (r1.mv s1 e2) r2), fun ρ h us h' e => by
  unfold aCons at e
  cases e1 : fa ρ h with
  | no => rw [e1] at e; cases e
  | ex c v h => rw [e1] at e; cases e
  | ok u h1 =>
    rw [e1] at e
    simp only [R.bind_ok] at e
    cases e2 : fr ρ h1 with
    | no => rw [e2] at e; cases e
    | ex c v h => rw [e2] at e; cases e
    | ok us2 h2 =>
      rw [e2] at e
      cases e
      rw [List.length_cons, hr.len _ _ _ _ e2]⟩
/-- the j-th of the keywords' values in the parameters' order: us ahead, then ws by π -/
def byPi {γ : Type} (π : List Nat) (us ws : List γ) : List γ := us ++ π.filterMap fun i => ws[i]?
def eCallK (F : FnD) (π : List Nat) (fas fks : Env → Hs → R (List Val)) : MV := fun ρ h => (fas ρ h).bind fun us h1 => (fks ρ h1).bind fun ws h2 => F (byPi π us ws) h2
theorem VRepAll.pi {K : PySem.W.Frag} {ζ ι : List Addr} {H : Hp} {zs : List V} {ws : List Val} (r : VRepAll K ζ ι H zs ws) : ∀ π : List Nat, VRepAll K ζ ι H (π.filterMap fun i => zs[i]?) (π.filterMap fun i => ws[i]?)
  | [] => .nil
  | i :: π => by
    rw [List.filterMap_cons, List.filterMap_cons]
    cases e : ws[i]? with
    | none =>
      have : zs[i]? = none := by
        rw [List.getElem?_eq_none_iff] at e ⊢
        rw [r.length]
        exact e
      rw [this]
      exact VRepAll.pi r π
    | some u =>
      obtain ⟨v, h1, h2⟩ := r.get e
      rw [h1]
      exact .cons h2 (VRepAll.pi r π)
theorem VRepAll.app {K : PySem.W.Frag} {ζ ι : List Addr} {H : Hp} : ∀ {vs zs : List V} {us ws : List Val}, VRepAll K ζ ι H vs us → VRepAll K ζ ι H zs ws → VRepAll K ζ ι H (vs ++ zs) (us ++ ws)
  | _, _, _, _, .nil, s => s
  | _, _, _, _, .cons r t, s => .cons r (VRepAll.app t s)
theorem vals_pi {zs : List V} {ws : List Value} (r : Vals zs ws) : ∀ π : List Nat, Vals (π.filterMap fun i => zs[i]?) (π.filterMap fun i => ws[i]?)
  | [] => .nil
  | i :: π => by
    rw [List.filterMap_cons, List.filterMap_cons]
    cases e : zs[i]? with
    | none =>
      rw [Vals.none_of r e]
      exact vals_pi r π
    | some u =>
      obtain ⟨v, h1, h2⟩ := Vals.get r e
      rw [h1]
      exact .cons h2 (vals_pi r π)
def tCallKS (sp : Sp) (gV : List V → List V → List V) (E : L2.St → XK) (t tk : TA) : TE := fun σ H Q => t σ H fun vs H1 => tk σ H1 fun zs H2 => sp (gV vs zs) H2 Q (E σ)
section
variable {CX : CXT} {f : Addr} {fd : FuncData} {sp : Sp} {E : L2.St → XK} {ks : List Str} {g : List Value → List Value → List Value} {gV : List V → List V → List V} {kws : List Keyword} {t tk : TA}
theorem run_fnkS {pins : List (Addr × Obj)} {σ : L2.St} {H : Hp} {s : Shared} {Q : VK} {us ws : List Value} {vs zs : List V} (F : FnOk X.prog X.w X.K X.mg X.base CX k f fd ps sp) (hr : Room k X.A) (hb : BindsTo s fd ⟨us, ks.zip ws⟩ (ps.zip (g us ws))) (hx : PassesAt CX X σ (E σ))
    (I : Inv X pins σ H s) (r2 : Vals (gV vs zs) (g us ws)) (h : sp (gV vs zs) H Q (E σ)) : wpAny (model X.prog X.w) X.A (call (.ref f) us (ks.zip ws)) (EP X pins σ Q) X.xe s := by
  refine wpAny_call (codeAny_mono (F.run X.A X.stack s H ⟨us, ks.zip ws⟩ (g us ws) (gV vs zs) Q (E σ) hr I.env0 hb r2 h) fun r s' hq => ?_)
  cases r with
  | error e => exact hx pins H s e s' I hq
  | ok fl =>
    cases fl with
    | ret u => exact I.after hq
    | next => exact False.elim hq
    | brk => exact False.elim hq
    | cont => exact False.elim hq
end
variable {kws : List Keyword} {fks : Env → Hs → R (List Val)}
/-- f(k = v, ..) with keywords alone; π puts their values in the parameters' order -/
theorem ee_callK0 (hf : FnF X.prog X.w X.K X.mg X.base x pa bd sc ps k F) (C : Cn X j) (ks : List Str) (π : List Nat) (hkw : EK X kws ks.length fks)
    (hbind : ∀ (kV doc pm : Value) (an : Option Addr) (cdv ct : Value) (ws : List Value), ws.length = ks.length → bindArgs (PySem.W.fnOf x x pa bd sc .none kV doc pm an cdv ct) ⟨[], ks.zip ws⟩ = pure (ps.zip (byPi π [] ws)))
    (hk : k ≤ j := by decide) (hg : Gl X x := by rfl) (hall : (backToKw pos (keywordEach kws X.env)).all (·.1.isSome) = true := by rfl) (hks : (backToKw pos (keywordEach kws X.env)).filterMap (·.1) = ks := by rfl)
    (hdb : (x == ("__debug__" : Str)) = false := by decide) (hpl : ((backTo pos (starEach [] X.env)).any (·.1) || (backToKw pos (keywordEach kws X.env)).any (·.1.isNone)) = false := by rfl) :
    EE X (.Call (.Name x p) [] kws pos) (eCallK F π aNil fks) := ⟨fun W tk => by
  obtain ⟨f, fd, hm, FD, hb, G⟩ := hf.ex
  obtain ⟨t, pp, q⟩ := hkw.run W tk
  have G := G
  refine ⟨fun σ H Q => t σ H fun zs H2 => zs.length = ks.length ∧ spOf X.K ps.length F (byPi π [] zs) H2 Q (WE W σ), ⟨fun pins s σ H Q I h => ?_⟩, fun ζ ι ρ hs σ H Q er s kk => ?_⟩
  · refine wpAny_Call_Name_kw (ld_glob I hg hm ?_ hdb)
    refine PySem.W.callWith_KW0 (h₀ := X.base) I.ok.mod.kin FD.kp hall ?_ hpl
    refine thn (pp.run pos pins s σ H _ I h) fun ws s2 ⟨zs, H2, I2, rz, hz, q2⟩ => ⟨I2.kIn, ?_⟩
    rw [hks]
    refine run_fnkS (g := byPi π) (gV := byPi π) (us := []) (vs := []) G (C.room.mono hk) ?_ (passAt tk σ) I2 (vals_pi rz π) q2
    obtain ⟨oc, od, dV, kV, doc, pm, an, cdv, ct, osl, rfl, lk, hcd, hD, hK⟩ := FD.ex
    rcases hD with ⟨_, rfl⟩ | ⟨e, _⟩
    · exact .of_eq (hbind kV doc pm an cdv ct ws (by rw [← Paired.length rz]; exact hz))
    · exact absurd rfl e
  · unfold eCallK aNil at kk
    simp only [R.bind_ok] at kk
    refine q ζ ι ρ hs σ H _ er s (Kt.bindE kk fun us h1 xs H1 ι1 eu e1 s1 r1 k1 => ⟨?_, ζ, ι1, h1, byPi π [] us, hf.len _ h1 fun z => ?_, s1, ?_, k1⟩)
    · rw [r1.length, hkw.len _ _ _ _ eu]
    · rw [z] at k1; exact k1
    · exact (VRepAll.nil).app (r1.pi π)⟩
/-- f(e, .., k = v, ..) -/
theorem ee_callK (hf : FnF X.prog X.w X.K X.mg X.base x pa bd sc ps k F) (C : Cn X j) (ks : List Str) (π : List Nat) (n : Nat) (ha : EA X (e :: es) fas) (hal : ∀ ρ h us h', fas ρ h = .ok us h' → us.length = n) (hkw : EK X kws ks.length fks)
    (hbind : ∀ (kV doc pm : Value) (an : Option Addr) (cdv ct : Value) (us ws : List Value), us.length = n → ws.length = ks.length → bindArgs (PySem.W.fnOf x x pa bd sc .none kV doc pm an cdv ct) ⟨us, ks.zip ws⟩ = pure (ps.zip (byPi π us ws)))
    (hk : k ≤ j := by decide) (hg : Gl X x := by rfl) (hall : (backToKw pos (keywordEach kws X.env)).all (·.1.isSome) = true := by rfl) (hks : (backToKw pos (keywordEach kws X.env)).filterMap (·.1) = ks := by rfl)
    (hdb : (x == ("__debug__" : Str)) = false := by decide) (he : starEach (e :: es) X.env = (false, eval e X.env) :: starEach es X.env := by rfl)
    (hpl : ((backTo pos (starEach (e :: es) X.env)).any (·.1) || (backToKw pos (keywordEach kws X.env)).any (·.1.isNone)) = false := by rfl) :
    EE X (.Call (.Name x p) (e :: es) kws pos) (eCallK F π fas fks) := ⟨fun W tk => by
  obtain ⟨f, fd, hm, FD, hb, G⟩ := hf.ex
  obtain ⟨t, pp, q⟩ := hkw.run W tk
  obtain ⟨ta, pa', qa⟩ := ha.run W tk
  have G := G
  refine ⟨fun σ H Q => ta σ H fun vs H1 => t σ H1 fun zs H2 => vs.length = n ∧ zs.length = ks.length ∧ spOf X.K ps.length F (byPi π vs zs) H2 Q (WE W σ), ⟨fun pins s σ H Q I h => ?_⟩, fun ζ ι ρ hs σ H Q er s kk => ?_⟩
  · refine wpAny_Call_Name_kw (ld_glob I hg hm ?_ hdb)
    refine PySem.W.callWith_KW (h₀ := X.base) I.ok.mod.kin FD.kp hall (thn (pa'.run pos pins s σ H _ I h) fun us s1 ⟨vs, H1, I1, r, q1⟩ => ?_) hpl he
    refine thn (pp.run pos pins s1 σ H1 _ I1 q1) fun ws s2 ⟨zs, H2, I2, rz, hn, hz, q2⟩ => ⟨I2.kIn, ?_⟩
    rw [hks]
    refine run_fnkS (g := byPi π) (gV := byPi π) G (C.room.mono hk) ?_ (passAt tk σ) I2 (r.append (vals_pi rz π)) q2
    obtain ⟨oc, od, dV, kV, doc, pm, an, cdv, ct, osl, rfl, lk, hcd, hD, hK⟩ := FD.ex
    rcases hD with ⟨_, rfl⟩ | ⟨e, _⟩
    · exact .of_eq (hbind kV doc pm an cdv ct us ws (by rw [← Paired.length r]; exact hn) (by rw [← Paired.length rz]; exact hz))
    · exact absurd rfl e
  · refine qa ζ ι ρ hs σ H _ er s (Kt.bindE kk fun vs h1 xs H1 ι1 ev e1 s1 r1 k1 => ?_)
    refine q ζ ι1 ρ h1 σ H1 _ (er.mv s e1) s1 (Kt.bindE k1 fun us h2 zs H2 ι2 eu e2 s2 r2 k2 => ⟨?_, ?_, ζ, ι2, h2, byPi π vs us, hf.len _ h2 fun z => ?_, s2, ?_, k2⟩)
    · rw [r1.length, hal _ _ _ _ ev]
    · rw [r2.length, hkw.len _ _ _ _ eu]
    · rw [z] at k2; exact k2
    · exact (r1.mv s1 e2).app (r2.pi π)⟩
theorem aNil_len {ρ : Env} {h : Hs} {us : List Val} {h' : Hs} (e : aNil ρ h = .ok us h') : us.length = 0 := by cases e; rfl
theorem aCons_len {n : Nat} {fa : MV} {fr : Env → Hs → R (List Val)} (hr : ∀ ρ h us h', fr ρ h = .ok us h' → us.length = n) (ρ : Env) (h : Hs) (us : List Val) (h' : Hs) (e : aCons fa fr ρ h = .ok us h') : us.length = n + 1 := by
  unfold aCons at e
  cases e1 : fa ρ h with
  | no => rw [e1] at e; cases e
  | ex c v h => rw [e1] at e; cases e
  | ok u h1 =>
    rw [e1] at e
    simp only [R.bind_ok] at e
    cases e2 : fr ρ h1 with
    | no => rw [e2] at e; cases e
    | ex c v h => rw [e2] at e; cases e
    | ok us2 h2 =>
      rw [e2] at e
      cases e
      rw [List.length_cons, hr _ _ _ _ e2]

/-! ### changing a thing of the store -/
theorem Sim.store {K : PySem.W.Frag} {ζ ι : List Addr} {H : Hp} {hs : Hs} (s : Sim K ζ ι H hs) {i : Nat} {a : Addr} {m : MO} {o : HO} (hi : ι[i]? = some a) (hm : MRep K (ζ ++ ι) (upd H a o) a m) :
    Sim K ζ ι (upd H a o) (hs.set i m) ∧ Ext ι H ι (upd H a o) := by
  have ma : a ∈ ι := List.mem_of_getElem? hi
  have mv : Mv (ζ ++ ι) H (ζ ++ ι) (upd H a o) := ⟨fun b u h n => ⟨by
    rw [upd_ne (fun e => n (by rw [e]; exact List.mem_append_right _ ma))]; exact h, n⟩, s.mvA⟩
  refine ⟨⟨s.nd, by simp [s.len], fun j b m' h1 h2 => ?_, fun b mb => ?_⟩, ⟨List.prefix_rfl, fun b h1 h2 => absurd h1 h2, fun b u h n => by
    rw [upd_ne (fun e => n (by rw [e]; exact ma))]; exact h⟩⟩
  · by_cases e : i = j
    · subst e
      rw [hi] at h1
      cases h1
      have hl : i < hs.length := by
        have := (List.getElem?_eq_some_iff.mp hi).1
        rw [s.len] at this
        exact this
      rw [List.getElem?_set_self hl] at h2
      cases h2
      exact hm
    · rw [List.getElem?_set_ne e] at h2
      have z := s.at_ j b m' h1 h2
      have ne : b ≠ a := fun eq => by
        subst eq
        have nd := (List.nodup_append.mp s.nd).2.1
        obtain ⟨l1, e1⟩ := List.getElem?_eq_some_iff.mp hi
        obtain ⟨l2, e2⟩ := List.getElem?_eq_some_iff.mp h1
        exact e ((List.getElem_inj nd).mp (e1.trans e2.symm))
      cases z with
      | lst z r => exact .lst (by rw [upd_ne ne]; exact z) (r.mv mv)
      | dK z r => exact .dK (by rw [upd_ne ne]; exact z) (r.mv mv)
      | dT z r => exact .dT (by rw [upd_ne ne]; exact z) (r.mv mv)
  · have ne : b ≠ a := fun eq => (List.nodup_append.mp s.nd).2.2 b mb a ma eq
    rcases s.ap b mb with ⟨x, z⟩ | ⟨x, z⟩ | ⟨x, z⟩
    · exact .inl ⟨x, by rw [upd_ne ne]; exact z⟩
    · exact .inr (.inl ⟨x, by rw [upd_ne ne]; exact z⟩)
    · exact .inr (.inr ⟨x, by rw [upd_ne ne]; exact z⟩)
/-- the places that keep their reps when a place of the store changes -/
theorem Sim.storeMv {K : PySem.W.Frag} {ζ ι : List Addr} {H : Hp} {hs : Hs} (s : Sim K ζ ι H hs) {i : Nat} {a : Addr} (o : HO) (hi : ι[i]? = some a) : Mv (ζ ++ ι) H (ζ ++ ι) (upd H a o) := ⟨fun b u h n => ⟨by
    rw [upd_ne (fun e => n (by rw [e]; exact List.mem_append_right _ (List.mem_of_getElem? hi)))]; exact h, n⟩, s.mvA⟩
/-- xs.m(e, ..) of a list of the store: g tells of its items and the arguments the new items and the answer -/
def eLM (g : List D → List D → Option (List D × D)) (fo : MV) (fas : Env → Hs → R (List Val)) : MV := fun ρ h => (fo ρ h).bind fun u h1 => match u with
  | .r i => (match h1[i]? with
    | some (.lst _) => (fas ρ h1).bind fun us h2 => (match h2[i]?, pDs us with
      | some (.lst ds), some as => (match g ds as with
        | some (es, d) => .ok (.d d) (h2.set i (.lst es))
        | none => .no)
      | _, _ => .no)
    | _ => .no)
  | _ => .no
/-- what a method of lists by values means -/
def LmD (X : Cx) (r : V → List V → Hp → VK → Prop) (g : List D → List D → Option (List D × D)) : Prop := ∀ (α : List Addr) (H : Hp) (l : Addr) (xs as : List V) (ds ads es : List D) (d : D) (Q : VK), l ∈ α → H l = some (.lst xs) → RepAll X.K α H xs ds → RepAll X.K α H as ads → g ds ads = some (es, d) →
  (∀ ys z, RepAll X.K α H ys es → Rep X.K α H z d → Q z (upd H l (.lst ys))) → r (.ref l) as H Q
theorem lm_out {ζ ι : List Addr} {H : Hp} {h2 : Hs} {i : Nat} {g : List D → List D → Option (List D × D)} {r : V → List V → Hp → VK → Prop} {a : Addr} {us : List Val} {as : List V} {Q : VK} {E : XK} (hd : LmD X r g) (s2 : Sim X.K ζ ι H h2) (q : ι[i]? = some a) (r2 : VRepAll X.K ζ ι H as us)
    (k : Kt X.K ζ (VRep X.K ζ) ι H (match h2[i]?, pDs us with
      | some (.lst ds), some as => (match g ds as with
        | some (es, d) => .ok (.d d) (h2.set i (.lst es))
        | none => .no)
      | _, _ => .no) Q E) : r (.ref a) as H Q := by
  split at k
  · rename_i ds ads em ep
    split at k
    · rename_i es d eg
      have z := s2.at_ i a _ q em
      cases z with
      | lst z1 z2 =>
        refine hd (ζ ++ ι) H a _ as ds ads es d Q (List.mem_append_right _ (List.mem_of_getElem? q)) z1 z2 (pDs_ok r2 ep) eg fun ys z ry rz => ?_
        have mv := s2.storeMv (.lst ys) q
        obtain ⟨s3, e3⟩ := s2.store (m := .lst es) q (.lst upd_same (ry.mv mv))
        exact k z _ ι e3 s3 (.d (rz.mv mv))
    · exact k.elim
  · exact k.elim
theorem ee_lm {o : Expr} {name : Str} {apos cpos : Pos} {id : String} {r : V → List V → Hp → VK → Prop} {g : List D → List D → Option (List D × D)} {fo : MV} (slot : Slot "list" name id) (hty : typeOf (.builtin id) = pure (.type "method_descriptor")) (hm : MtR X id r) (hd : LmD X r g) (ho : EE X o fo) (ha : EA X (e :: es) fas)
    (hbase : attributeBase o name X.env (eval o X.env) = eval o X.env := by rfl)
    (hfew : ((backTo cpos (starEach (e :: es) X.env)).all (fun x => !x.1) && (backToKw cpos (keywordEach [] X.env)).all (fun x => x.1.isSome)
      && decide ((e :: es).length + ([] : List Keyword).length + (if ([] : List Keyword).isEmpty then 0 else 1) < 30)) = true := by rfl)
    (hline : (apos.endLine == cpos.line) = true := by rfl) (hs : starEach (e :: es) X.env = (false, eval e X.env) :: starEach es X.env := by rfl) (hplain : (backTo cpos (starEach es X.env)).any (·.1) = false := by rfl) :
    EE X (.Call (.Attribute o name apos) (e :: es) [] cpos) (eLM g fo fas) := ⟨fun W tk => by
  obtain ⟨to, po, qo⟩ := ho.run W tk
  obtain ⟨ta, pa, qa⟩ := ha.run W tk
  refine ⟨_, pe_bm PySem.F.plainAttrs_list slot hty hm po pa hbase hfew hline hs hplain, fun ζ ι ρ hs σ H Q er s k => ?_⟩
  refine qo ζ ι ρ hs σ H _ er s (Kt.bind k fun u h1 x H1 ι1 e1 s1 r1 k1 => ?_)
  cases r1 with
  | @r a i q =>
    simp only at k1
    split at k1
    · rename_i em
      have z := s1.at_ i a _ q em
      cases z with
      | lst z1 z2 =>
        refine ⟨.inl ⟨rfl, _, SqL.of z1⟩, ?_⟩
        refine qa ζ ι1 ρ h1 σ H1 _ (er.mv s e1) s1 (Kt.bind k1 fun us h2 xs H2 ι2 e2 s2 r2 k2 => ?_)
        have q2 : ι2[i]? = some a := by
          obtain ⟨t, rfl⟩ := e2.pre
          obtain ⟨hi, _⟩ := List.getElem?_eq_some_iff.mp q
          rw [List.getElem?_append_left hi]
          exact q
        exact lm_out hd s2 q2 r2 k2
    · exact k1.elim
  | d r => exact k1.elim
  | x _ _ _ => exact k1.elim
  | s _ => exact k1.elim
  | c _ => exact k1.elim
  | t _ _ => exact k1.elim⟩
theorem ee_lm0 {o : Expr} {name : Str} {apos cpos : Pos} {id : String} {r : V → List V → Hp → VK → Prop} {g : List D → List D → Option (List D × D)} {fo : MV} (slot : Slot "list" name id) (hty : typeOf (.builtin id) = pure (.type "method_descriptor")) (hm : MtR X id r) (hd : LmD X r g) (ho : EE X o fo)
    (hbase : attributeBase o name X.env (eval o X.env) = eval o X.env := by rfl) (hline : (apos.endLine == cpos.line) = true := by rfl) : EE X (.Call (.Attribute o name apos) [] [] cpos) (eLM g fo aNil) := ⟨fun W tk => by
  obtain ⟨to, po, qo⟩ := ho.run W tk
  refine ⟨_, pe_bm0 PySem.F.plainAttrs_list slot hty hm po hbase hline, fun ζ ι ρ hs σ H Q er s k => ?_⟩
  refine qo ζ ι ρ hs σ H _ er s (Kt.bind k fun u h1 x H1 ι1 e1 s1 r1 k1 => ?_)
  cases r1 with
  | @r a i q =>
    simp only at k1
    split at k1
    · rename_i em
      have z := s1.at_ i a _ q em
      cases z with
      | lst z1 z2 =>
        refine ⟨.inl ⟨rfl, _, SqL.of z1⟩, ?_⟩
        exact lm_out hd s1 q .nil k1
    · exact k1.elim
  | d r => exact k1.elim
  | x _ _ _ => exact k1.elim
  | s _ => exact k1.elim
  | c _ => exact k1.elim
  | t _ _ => exact k1.elim⟩
def gAppend : List D → List D → Option (List D × D) := fun ds as => match as with
  | [a] => if ds.length < sizeLine then some (ds ++ [a], .none) else none
  | _ => none
theorem lm_append : LmD X rAppend gAppend := by
  intro α H l xs as ds ads es d Q hl hx ra rb e k
  unfold gAppend at e
  split at e
  · split at e
    · cases e
      cases rb with
      | cons r1 rr =>
        cases rr
        exact ⟨l, xs, _, rfl, rfl, hx, by rw [ra.length]; assumption, k _ _ (ra.app (.cons r1 .nil)) .non⟩
    · cases e
  · cases e
def gPop : List D → List D → Option (List D × D) := fun ds as => match as with
  | [] => (ds[ds.length - 1]?).map fun d => (ds.dropLast, d)
  | _ => none
theorem RepAll.dropLast {K : PySem.W.Frag} {α : List Addr} {H : Hp} {vs : List V} {ds : List D} (r : RepAll K α H vs ds) : RepAll K α H vs.dropLast ds.dropLast := by
  rw [List.dropLast_eq_take, List.dropLast_eq_take, r.length]
  exact r.take _
theorem lm_pop : LmD X rPop gPop := by
  intro α H l xs as ds ads es d Q hl hx ra rb e k
  unfold gPop at e
  split at e
  · cases rb
    cases q : ds[ds.length - 1]? with
    | none => rw [q] at e; cases e
    | some y =>
      rw [q] at e
      cases e
      obtain ⟨v, h1, h2⟩ := ra.get q
      exact ⟨l, xs, v, rfl, rfl, hx, by rw [ra.length]; exact h1, k _ _ ra.dropLast h2⟩
  · cases e
def gPopAt : List D → List D → Option (List D × D) := fun ds as => match as with
  | [.int i] => if i.natAbs.log2 < 63 then (match seqIndex? i ds.length with
    | some k => (ds[k]?).map fun d => (ds.eraseIdx k, d)
    | none => none) else none
  | _ => none
theorem RepAll.eraseIdx {K : PySem.W.Frag} {α : List Addr} {H : Hp} : ∀ (n : Nat) {vs : List V} {ds : List D}, RepAll K α H vs ds → RepAll K α H (vs.eraseIdx n) (ds.eraseIdx n)
  | _, _, _, .nil => .nil
  | 0, _, _, .cons _ t => t
  | n + 1, _, _, .cons q t => .cons q (RepAll.eraseIdx n t)
theorem lm_popAt : LmD X rPopAt gPopAt := by
  intro α H l xs as ds ads es d Q hl hx ra rb e k
  unfold gPopAt at e
  split at e
  · split at e
    · rename_i i hi
      split at e
      · rename_i kk ek
        cases q : ds[kk]? with
        | none => rw [q] at e; cases e
        | some y =>
          rw [q] at e
          cases e
          obtain ⟨v, h1, h2⟩ := ra.get q
          cases rb with
          | cons r1 rr =>
            cases rr
            cases r1
            have hi' := log2_lt hi
            exact ⟨l, xs, i, kk, v, rfl, rfl, hx, by omega, by omega, by rw [ra.length]; exact ek, h1, k _ _ (ra.eraseIdx kk) h2⟩
      · cases e
    · cases e
  · cases e
def gReverse : List D → List D → Option (List D × D) := fun ds as => match as with
  | [] => some (ds.reverse, .none)
  | _ => none
theorem RepAll.reverse {K : PySem.W.Frag} {α : List Addr} {H : Hp} : ∀ {vs : List V} {ds : List D}, RepAll K α H vs ds → RepAll K α H vs.reverse ds.reverse
  | _, _, .nil => .nil
  | _, _, .cons r t => by
    rw [List.reverse_cons, List.reverse_cons]
    exact (RepAll.reverse t).app (.cons r .nil)
theorem lm_reverse : LmD X rReverse gReverse := by
  intro α H l xs as ds ads es d Q hl hx ra rb e k
  unfold gReverse at e
  split at e
  · cases rb
    cases e
    exact ⟨l, xs, rfl, rfl, hx, k _ _ ra.reverse .non⟩
  · cases e
/-- xs[i] = e, xs a list of the store -/
def sSub (fe fo fi : MV) : MS := fun ρ h => (fe ρ h).bindS ρ fun v h1 => (fo ρ h1).bindS ρ fun u h2 => (fi ρ h2).bindS ρ fun w h3 => match v, u, w with
  | .d x, .r i, .d (.int k) => (match h3[i]? with
    | some (.lst ds) => (match ixN ds.length k with
      | some j => .nx ρ (h3.set i (.lst (ds.set j x)))
      | none => .no)
    | _ => .no)
  | _, _, _ => .no
theorem ss_sub {o i e : Expr} {fe fo fi : MV} {tpos : Pos} (he : EE X e fe) (ho : EE X o fo) (hi : EE X i fi)
    (hs : swapsWithSole [.Subscript o i tpos] e pos.line X.env = pure false := by rfl) (hw : swappedStores [.Subscript o i tpos] e X.env = pure none := by rfl) (ha : (assignEach [.Subscript o i tpos] X.env).map (·.2) = [assign (.Subscript o i tpos) X.env] := by rfl)
    (hv : ∀ v, assign (.Subscript o i tpos) X.env v = (do
      let ov ← holding [v] (eval o X.env)
      let iv ← holding [v, ov] (eval i X.env)
      standAt tpos
      holding [v, ov, iv] (setItem ov iv v)
      release [v, ov, iv] []) := by exact fun _ => rfl) :
    SS X (.Assign [.Subscript o i tpos] e pos) (sSub fe fo fi) := ⟨fun W tk => by
  obtain ⟨te, pe, qe⟩ := he.run W tk
  obtain ⟨to, po, qo⟩ := ho.run W tk
  obtain ⟨ti, pi, qi⟩ := hi.run W tk
  refine ⟨_, ps_asg pe (pg_sub po pi set_list hv) hs hw ha, fun ζ ι ρ hs σ H D er s k => ?_⟩
  refine qe ζ ι ρ hs σ H _ er s (Ks.bind k er s fun v h1 x H1 ι1 e1 s1 r1 k1 => ?_)
  have er1 := er.mv s e1
  refine qo ζ ι1 ρ h1 σ H1 _ er1 s1 (Ks.bind k1 er1 s1 fun u h2 y H2 ι2 e2 s2 r2 k2 => ?_)
  have er2 := er1.mv s1 e2
  refine qi ζ ι2 ρ h2 σ H2 _ er2 s2 (Ks.bind k2 er2 s2 fun w h3 z H3 ι3 e3 s3 r3 k3 => ?_)
  have er3 := er2.mv s2 e3
  have r1' := (r1.mv s1 e2).mv s2 e3
  have r2' := r2.mv s2 e3
  split at k3
  · rename_i dx j kk
    split at k3
    · rename_i ds em
      split at k3
      · rename_i jj ej
        cases r1' with
        | d r1' =>
          cases r2' with
          | @r a _ q =>
            cases r3.int
            have zz := s3.at_ j a _ q em
            cases zz with
            | @lst zs _ z1 z2 =>
              refine ⟨a, _, kk, jj, rfl, rfl, z1, by rw [z2.length]; exact ej, ?_⟩
              have mv := s3.storeMv (.lst (zs.set jj x)) q
              obtain ⟨s4, e4⟩ := s3.store (m := .lst (ds.set jj dx)) q (.lst upd_same ((z2.set r1' jj).mv mv))
              exact (k3.mv e4).nx s4 (er3.mv s3 e4)
      · exact k3.elim
    · exact k3.elim
  · exact k3.elim⟩
end
end DL

set_option Elab.async false
set_option linter.all false
set_option maxRecDepth 100000
set_option maxHeartbeats 4000000
namespace DL
open PySem PySem.Spec PyProof.Rows L2
/-! ### tuple * int, the rest: none, once -/
theorem tup_none (l : Addr) (items : Array Value) (n : Nat) (dd : Option Addr) (sl : Array (Option Value)) (x : Int) (u : Tok) (c0 : (decide (x < -(2 ^ 63)) || decide (x ≥ 2 ^ 63)) = false) (c1 : (items.isEmpty || x == 1) = false) (c2 : (decide (x ≤ 0) || items.isEmpty) = true) :
    Meets (Builtin.«tuple.__mul__» ⟨[.ref l, .int x u], []⟩) (fun _ R s => s.heap.get? l = some { cls := .type "tuple", dict := dd, data := .seq items n, slots := sl } ∧
      R (.ok (.ret (Value.ref s.heap.objs.size))) { s with heap := s.heap.push { cls := Value.type "tuple", data := Data.seq #[] }, toks := s.toks }) :=
  .of_wp fun prog w A R s h => by
    obtain ⟨hp, g, d, tk, os⟩ := s
    obtain ⟨hl, h⟩ := h
    have f1 := AutoSeq1.idx_int
    wp_walk using wpAny_loadPart' hl
    repeat (first
      | (refine wpAny_ite_false (decide_eq_false (by rw [c0]; exact Bool.false_ne_true)) ?_; wp_walk using wpAny_loadPart' hl)
      | (refine wpAny_ite_false (decide_eq_false (by rw [c1]; exact Bool.false_ne_true)) ?_; wp_walk using wpAny_loadPart' hl)
      | (refine wpAny_ite_true (decide_eq_true c2) ?_; wp_walk using wpAny_loadPart' hl))
    exact ⟨_, rfl, h⟩
theorem tup_once (l : Addr) (items : Array Value) (n : Nat) (dd : Option Addr) (sl : Array (Option Value)) (x : Int) (u : Tok) (c0 : (decide (x < -(2 ^ 63)) || decide (x ≥ 2 ^ 63)) = false) (c1 : (items.isEmpty || x == 1) = true) :
    Meets (Builtin.«tuple.__mul__» ⟨[.ref l, .int x u], []⟩) (fun _ R s => s.heap.get? l = some { cls := .type "tuple", dict := dd, data := .seq items n, slots := sl } ∧
      R (.ok (.ret (Value.ref l))) s) :=
  .of_wp fun prog w A R s h => by
    obtain ⟨hp, g, d, tk, os⟩ := s
    obtain ⟨hl, h⟩ := h
    have f1 := AutoSeq1.idx_int
    wp_walk using wpAny_loadPart' hl
    repeat (first
      | (refine wpAny_ite_false (decide_eq_false (by rw [c0]; exact Bool.false_ne_true)) ?_; wp_walk using wpAny_loadPart' hl)
      | (refine wpAny_ite_true (decide_eq_true c1) ?_; wp_walk using wpAny_loadPart' hl))
    exact ⟨_, rfl, h⟩
def rRepF (K : PySem.W.Frag) : R2 := fun x y H Q => ∃ l k xs, x = .ref l ∧ y = .int k ∧ SqT K H l xs ∧ -(2 ^ 63) ≤ k ∧ ((xs ≠ [] ∧ k ≤ 0 ∧ ∀ p, H p = none → Q (.ref p) (upd H p (.tup []))) ∨ ((xs = [] ∨ k = 1) ∧ k < 2 ^ 63 ∧ Q (.ref l) H))
theorem op_repF {X : Cx} : OpR X (binaryOp .Mult) (rRepF X.K) := by
  intro pins s σ H x y v u Q I rx ry h
  obtain ⟨l, k, xs, rfl, rfl, hT, h1, h⟩ := h
  cases rx
  obtain ⟨t, rfl⟩ := ry
  obtain ⟨its, r, ⟨⟨cls, dd, data, sl⟩, ho, hc, n, hd⟩, hs⟩ := I.tuple hT
  simp only at hc hd
  subst hc hd
  rcases h with ⟨hne, h2, q⟩ | ⟨h2, h3, q⟩
  · have some_ : its.toArray.isEmpty = false := by
      cases its with
      | nil => cases xs with
        | nil => exact absurd rfl hne
        | cons _ _ => cases r
      | cons a b => rfl
    have c0 : (decide (k < -(2 ^ 63)) || decide (k ≥ 2 ^ 63)) = false := by rw [decide_eq_false (by omega), decide_eq_false (by omega)]; rfl
    have c1 : (its.toArray.isEmpty || k == 1) = false := by
      rw [some_, Bool.false_or]
      exact beq_eq_false_iff_ne.mpr (by omega)
    have c2 : (decide (k ≤ 0) || its.toArray.isEmpty) = true := by rw [decide_eq_true h2]; rfl
    refine wpAny_binaryOp_repeat_ref (T := "tuple") (U := "int") (by decide) ⟨_, ho, rfl⟩ (fun s' => typeIs_int s' k t) noFill_tuple_mul F.fills_int_mul F.slot_int_rmul repeat_tuple F.slot_int_index.lookup
      (call_meets F.slot_int_rmul (typeIs_int s k t) F.entry_int_rmul (F.args_int_rmul_2 _ _) (int_rmul_tuple k t l its.toArray n dd sl) ⟨ho, rfl, ⟨_, ho, rfl⟩, call_meets F.slot_tuple_mul ⟨_, ho, rfl⟩ F.entry_tuple_mul (F.args_tuple_mul_2 _ _) (tup_none l its.toArray n dd sl k t c0 c1 c2) ⟨ho, ?_⟩⟩)
    refine ⟨.ref s.heap.objs.size, _, I.laid (t' := s.toks) (o := .tup []) (fun b ob z => Heap.get?_push_of_some _ z) (Nat.le_refl _) ?_, rfl, q _ (I.hok.fresh (Nat.le_refl _))⟩
    exact ⟨Nat.zero_le _, [], .nil, IsTup.new _ _⟩
  · have c0 : (decide (k < -(2 ^ 63)) || decide (k ≥ 2 ^ 63)) = false := by rw [decide_eq_false (by omega), decide_eq_false (by omega)]; rfl
    have c1 : (its.toArray.isEmpty || k == 1) = true := by
      rcases h2 with rfl | rfl
      · cases r
        rfl
      · simp
    refine wpAny_binaryOp_repeat_ref (T := "tuple") (U := "int") (by decide) ⟨_, ho, rfl⟩ (fun s' => typeIs_int s' k t) noFill_tuple_mul F.fills_int_mul F.slot_int_rmul repeat_tuple F.slot_int_index.lookup
      (call_meets F.slot_int_rmul (typeIs_int s k t) F.entry_int_rmul (F.args_int_rmul_2 _ _) (int_rmul_tuple k t l its.toArray n dd sl) ⟨ho, rfl, ⟨_, ho, rfl⟩, call_meets F.slot_tuple_mul ⟨_, ho, rfl⟩ F.entry_tuple_mul (F.args_tuple_mul_2 _ _) (tup_once l its.toArray n dd sl k t c0 c1) ⟨ho, ?_⟩⟩)
    exact ⟨.ref l, H, I, rfl, q⟩
end DL

set_option Elab.async false
set_option linter.all false
set_option maxRecDepth 100000
set_option maxHeartbeats 1000000
namespace DL
open PySem PySem.Spec PyProof.Rows L2

/-! ### data by operators -/
section
variable {K : PySem.W.Frag} {α : List Addr} {H : Hp} {v : V}
theorem RdV.int {i : Int} (r : RdV K α H v (.int i)) : v = .int i := by
  cases r with
  | imm r => cases r; rfl
theorem RdV.bool {b : Bool} (r : RdV K α H v (.bool b)) : v = .bl b := by
  cases r with
  | imm r => cases r; rfl
theorem RdV.str {x : Str} (r : RdV K α H v (.str x)) : v = .str x := by
  cases r with
  | imm r => cases r; rfl
theorem RdV.tup {ds : List D} (r : RdV K α H v (.tuple ds)) : ∃ a xs, v = .ref a ∧ SqT K H a xs ∧ RepAll K α H xs ds ∧ Rep K α H (.ref a) (.tuple ds) := by
  cases r with
  | imm r => cases r with
    | tup h ra => exact ⟨_, _, rfl, SqT.of h, ra, .tup h ra⟩
    | con h hc ra => exact ⟨_, _, rfl, h, ra, .con h hc ra⟩
theorem RdV.list {ds : List D} (r : RdV K α H v (.list ds)) : ∃ a xs, v = .ref a ∧ H a = some (.lst xs) ∧ RepAll K α H xs ds := by
  cases r with
  | imm r => cases r with
    | lst h n ra => exact ⟨_, _, rfl, h, ra⟩
  | lst h ra => exact ⟨_, _, rfl, h, ra⟩
end
/-! numbers -/
def dInt2 (g : Int → Int → Option D) : D → D → Option D := fun a b => match a, b with
  | .int i, .int j => g i j
  | _, _ => none
theorem dInt2_ok {g : Int → Int → Option D} {a b c : D} (h : dInt2 g a b = some c) : ∃ i j, a = .int i ∧ b = .int j ∧ g i j = some c := by
  unfold dInt2 at h
  split at h
  · exact ⟨_, _, rfl, rfl, h⟩
  · cases h
section
variable {X : Cx}
theorem od_int {r : R2} {g : Int → Int → Option D} (h : ∀ i j c, g i j = some c → ∀ H Q, (∀ z, (∀ (α : List Addr) (H' : Hp), Rep X.K α H' z c) → Q z H) → r (.int i) (.int j) H Q) : OpD X r (dInt2 g) := by
  intro α H x y a b c Q ap rx ry e k
  obtain ⟨i, j, rfl, rfl, e⟩ := dInt2_ok e
  cases rx.int
  cases ry.int
  exact h i j c e H Q fun z rz => k z H (fun _ _ h => h) (rz α H)
/-- the sign of a product's size is known -/
def CMulV (i j : Int) : Prop := i.natAbs.log2 + j.natAbs.log2 < 50000000
theorem CMulV.ok {i j : Int} (h : CMulV i j) : IntMulOk i j := by
  have b : ∀ x : Int, Builtin.Int.intBits x ≤ x.natAbs.log2 + 1 := fun x => by
    unfold Builtin.Int.intBits
    split <;> omega
  have h1 := b i
  have h2 := b j
  have h3 : i.natAbs.log2 + j.natAbs.log2 < 50000000 := h
  have e : bitsLine = 134217728 := by decide
  unfold IntMulOk
  intro z
  rw [Bool.and_eq_true] at z
  have z2 := z.2
  unfold Builtin.Int.intTooBig at z2
  have z3 := of_decide_eq_true z2
  rw [e] at z3
  omega
theorem op_mulV : OpR X (binaryOp .Mult) (rI CMulV fun i j => .int (i * j)) := opI fun _ _ _ _ _ _ _ hc q => mul_int q hc.ok
def mulOk (i j : Int) : Bool := decide (i.natAbs.log2 + j.natAbs.log2 < 50000000)
def gMul (i j : Int) : Option D := if mulOk i j = true then some (.int (i * j)) else none
def gSub (i j : Int) : Option D := some (.int (i - j))
def gFdiv (i j : Int) : Option D := if 0 < j ∧ j.natAbs.log2 < 9000 then some (.int (i / j)) else none
def gFdivN (i j : Int) : Option D := if j ≠ 0 ∧ j.natAbs.log2 < 9000 then some (.int (i.fdiv j)) else none
def gMod (i j : Int) : Option D := if j ≠ 0 then some (.int (i.fmod j)) else none
def CPowW (i j : Int) : Prop := 0 ≤ j ∧ ((j ≤ 1000000 ∧ i.natAbs < 2 ^ 64) ∨ (j ≤ 1000 ∧ i.natAbs.log2 < 100000))
instance (i j : Int) : Decidable (CPowW i j) := by unfold CPowW; exact inferInstance
def gPow (i j : Int) : Option D := if CPowW i j then some (.int (i ^ j.toNat)) else none
theorem gPow_small {i j : Int} (h0 : 0 ≤ j) (h1 : j ≤ 1000) (h2 : i.natAbs.log2 < 100000) : gPow i j = some (.int (i ^ j.toNat)) := if_pos ⟨h0, .inr ⟨h1, h2⟩⟩
def gCmp (p : Int → Int → Bool) (i j : Int) : Option D := some (.bool (p i j))
theorem op_fdivNW : OpR X (binaryOp .FloorDiv) (rI (fun _ j => j ≠ 0 ∧ j.natAbs.log2 < 9000) fun i j => .int (i.fdiv j)) := opI fun i j _ _ _ _ _ hc q => floordiv_int hc.1 q (.inl (PyProof.noPylong_of_log2 hc.2))
theorem od_sub : OpD X (rI0 fun i j => .int (i - j)) (dInt2 gSub) := od_int fun i j c e H Q k => by
  cases e
  exact ⟨i, j, rfl, rfl, k _ fun _ _ => .int _⟩
theorem od_fdiv : OpD X (rI (fun _ j => j ≠ 0 ∧ j.natAbs.log2 < 9000) fun i j => .int (i.fdiv j)) (dInt2 gFdivN) := od_int fun i j c e H Q k => by
  unfold gFdivN at e
  split at e
  · rename_i h
    cases e
    exact ⟨i, j, rfl, rfl, h, k _ fun _ _ => .int _⟩
  · cases e
theorem od_mod : OpD X (rI (fun _ j => j ≠ 0) fun i j => .int (i.fmod j)) (dInt2 gMod) := od_int fun i j c e H Q k => by
  unfold gMod at e
  split at e
  · rename_i h
    cases e
    exact ⟨i, j, rfl, rfl, h, k _ fun _ _ => .int _⟩
  · cases e
theorem op_powW : OpR X (binaryOp .Pow) (rI CPowW fun i j => .int (i ^ j.toNat)) := opI fun i j _ _ _ _ _ hc q => pow_int hc.1 (by
  obtain ⟨h0, ⟨h1, h2⟩ | ⟨h1, h2⟩⟩ := hc
  · exact bits_mul_le h2 h0 h1
  · have hb : Builtin.Int.intBits i ≤ 100000 := by
      unfold Builtin.Int.intBits
      split <;> omega
    have h3 : (Builtin.Int.intBits i : Int) * j ≤ 100000 * j := Int.mul_le_mul_of_nonneg_right (by omega) h0
    omega) q
theorem od_pow : OpD X (rI CPowW fun i j => .int (i ^ j.toNat)) (dInt2 gPow) := od_int fun i j c e H Q k => by
  unfold gPow at e
  split at e
  · rename_i h
    cases e
    exact ⟨i, j, rfl, rfl, h, k _ fun _ _ => .int _⟩
  · cases e
theorem od_cmp {p : Int → Int → Bool} : OpD X (rI0 fun i j => .bl (p i j)) (dInt2 (gCmp p)) := od_int fun i j c e H Q k => by
  cases e
  exact ⟨i, j, rfl, rfl, k _ fun _ _ => .bl _⟩
/-! + : ints, texts, tuples, lists -/
def dAdd : D → D → Option D
  | .int i, .int j => some (.int (i + j))
  | .str x, .str y => if x.length + y.length ≤ sizeLine then some (.str (x ++ y)) else none
  | .tuple xs, .tuple ys => if xs.length + ys.length ≤ sizeLine then some (.tuple (xs ++ ys)) else none
  | .list xs, .list ys => if xs.length + ys.length ≤ sizeLine then some (.list (xs ++ ys)) else none
  | _, _ => none
def rAddD (K : PySem.W.Frag) : R2 := fun x y H Q => rI0 (fun i j => .int (i + j)) x y H Q ∨ (∃ i j, x = .str i ∧ y = .str j ∧ i.length + j.length ≤ sizeLine ∧ Q (.str (i ++ j)) H) ∨ rCatA K x y H Q ∨ rCat x y H Q
theorem op_addD : OpR X (binaryOp .Add) (rAddD X.K) := op_add.or (op_add_str.or (op_catA.or op_cat))
theorem od_add : OpD X (rAddD X.K) dAdd := by
  intro α H x y a b c Q ap rx ry e k
  unfold dAdd at e
  split at e
  · cases e
    cases rx.int
    cases ry.int
    exact .inl ⟨_, _, rfl, rfl, k _ H (fun _ _ h => h) (.int _)⟩
  · split at e
    · cases e
      cases rx.str
      cases ry.str
      exact .inr (.inl ⟨_, _, rfl, rfl, by assumption, k _ H (fun _ _ h => h) (.str _)⟩)
    · cases e
  · split at e
    · rename_i xs ys hl
      cases e
      obtain ⟨p, us, rfl, hp, ra, rt⟩ := rx.tup
      obtain ⟨q, vs, rfl, hq, rb, ru⟩ := ry.tup
      refine .inr (.inr (.inl ⟨p, q, us, vs, rfl, rfl, hp, hq, by rw [ra.length, rb.length]; exact hl, fun e0 => ?_, fun _ e1 => ?_, fun _ _ r hr => ?_⟩))
      · subst e0
        cases ra
        exact k _ H (fun _ _ h => h) ru
      · subst e1
        cases rb
        rw [List.append_nil] at k
        exact k _ H (fun _ _ h => h) rt
      · exact k _ _ (same_new hr) (.tup upd_same ((ra.app rb).same ap (same_new hr)))
    · cases e
  · split at e
    · rename_i xs ys hl
      cases e
      obtain ⟨p, us, rfl, hp, ra⟩ := rx.list
      obtain ⟨q, vs, rfl, hq, rb⟩ := ry.list
      exact .inr (.inr (.inr ⟨p, q, us, vs, rfl, rfl, hp, hq, by rw [ra.length, rb.length]; exact hl, fun r hr => k _ _ (same_new hr) (.lst upd_same (ap.fresh hr) ((ra.app rb).same ap (same_new hr)))⟩))
    · cases e
  · cases e
/-! * : ints, a list or a tuple and an int -/
def dMul : D → D → Option D
  | .int i, .int j => if mulOk i j = true then some (.int (i * j)) else none
  | .list xs, .int k => if k.natAbs.log2 < 63 ∧ xs.length * k.toNat ≤ sizeLine then some (.list (List.replicate k.toNat xs).flatten) else none
  | .tuple xs, .int k => if k.natAbs.log2 < 63 ∧ k ≤ 1000 ∧ xs.length ≤ 1000 then some (.tuple (List.replicate k.toNat xs).flatten) else none
  | _, _ => none
def rMulD (K : PySem.W.Frag) : R2 := fun x y H Q => rI CMulV (fun i j => .int (i * j)) x y H Q ∨ rRep x y H Q ∨ rRepT K x y H Q ∨ rRepF K x y H Q
theorem op_mulD : OpR X (binaryOp .Mult) (rMulD X.K) := op_mulV.or (op_rep.or (op_repT.or op_repF))
theorem RepAll.rep {K : PySem.W.Frag} {α : List Addr} {H : Hp} {vs : List V} {ds : List D} (r : RepAll K α H vs ds) : ∀ n : Nat, RepAll K α H (List.replicate n vs).flatten (List.replicate n ds).flatten
  | 0 => .nil
  | n + 1 => by
    rw [List.replicate_succ, List.replicate_succ, List.flatten_cons, List.flatten_cons]
    exact r.app (RepAll.rep r n)
theorem od_mul : OpD X (rMulD X.K) dMul := by
  intro α H x y a b c Q ap rx ry e k
  unfold dMul at e
  split at e
  · split at e
    · rename_i h
      cases e
      cases rx.int
      cases ry.int
      exact .inl ⟨_, _, rfl, rfl, (show _ + _ < 50000000 from of_decide_eq_true h), k _ H (fun _ _ h => h) (.int _)⟩
    · cases e
  · split at e
    · rename_i h
      cases e
      obtain ⟨p, us, rfl, hp, ra⟩ := rx.list
      cases ry.int
      have hb := log2_lt h.1
      exact .inr (.inl ⟨p, _, us, rfl, rfl, hp, by omega, by omega, by rw [ra.length]; exact h.2, fun r hr => k _ _ (same_new hr) (.lst upd_same (ap.fresh hr) ((ra.rep _).same ap (same_new hr)))⟩)
    · cases e
  · rename_i xs kk
    split at e
    · rename_i h
      cases e
      obtain ⟨p, us, rfl, hp, ra, rt⟩ := rx.tup
      cases ry.int
      have hb := log2_lt h.1
      have elen := ra.length
      have enil : us = [] → xs = [] := fun z => List.eq_nil_of_length_eq_zero (by rw [← elen, z]; rfl)
      have eall : ∀ m : Nat, xs = [] → (List.replicate m xs).flatten = [] := fun m z => by rw [z]; simp
      by_cases hu : us = []
      · refine .inr (.inr (.inr ⟨p, _, us, rfl, rfl, hp, by omega, .inr ⟨.inl hu, by omega, ?_⟩⟩))
        have z := eall kk.toNat (enil hu)
        rw [z] at k
        rw [enil hu] at rt
        exact k _ H (fun _ _ h => h) rt
      · by_cases h1 : kk = 1
        · subst h1
          refine .inr (.inr (.inr ⟨p, _, us, rfl, rfl, hp, by omega, .inr ⟨.inr rfl, by omega, ?_⟩⟩))
          have z : (List.replicate (1 : Int).toNat xs).flatten = xs := by simp
          rw [z] at k
          exact k _ H (fun _ _ h => h) rt
        · by_cases h0 : kk ≤ 0
          · refine .inr (.inr (.inr ⟨p, _, us, rfl, rfl, hp, by omega, .inl ⟨hu, h0, fun r hr => ?_⟩⟩))
            have z : (List.replicate kk.toNat xs).flatten = [] := by rw [show kk.toNat = 0 by omega]; rfl
            rw [z] at k
            exact k _ _ (same_new hr) (.tup upd_same .nil)
          · exact .inr (.inr (.inl ⟨p, _, us, rfl, rfl, hp, hu, by omega, h.2.1, by rw [ra.length]; exact h.2.2, fun r hr => k _ _ (same_new hr) (.tup upd_same ((ra.rep _).same ap (same_new hr)))⟩))
    · cases e
  · cases e
def dNeg : D → Option D
  | .int i => some (.int (-i))
  | _ => none
theorem ud_neg : UnD X (rU fun i => .int (-i)) dNeg := by
  intro α H x a c Q ap rx e k
  unfold dNeg at e
  split at e
  · cases e
    cases rx.int
    exact ⟨_, rfl, k _ H (fun _ _ h => h) (.int _)⟩
  · cases e
/-! == and != -/
mutual
theorem Rep.dp {K : PySem.W.Frag} {α : List Addr} {H : Hp} : ∀ {d : D} {v : V}, Rep K α H v d → d.canLay0 = true → Dp K H v d
  | _, _, .non, _ => .non
  | _, _, .bl b, _ => .bl b
  | _, _, .int i, _ => .int i
  | _, _, .str x, _ => .str x
  | _, _, .lst r n a, h => .lst (SqL.of r) (RepAll.dp a (by simpa [PyData.canLay0] using h))
  | _, _, .tup r a, h => .tup (SqT.of r) (RepAll.dp a (by simpa [PyData.canLay0] using h))
  | _, _, .con r c a, h => .tup r (RepAll.dp a (by simpa [PyData.canLay0] using h))
  | _, _, .dK r n a, h => by simp [PyData.canLay0] at h
  | _, _, .dT r n a, h => by simp [PyData.canLay0] at h
theorem RepAll.dp {K : PySem.W.Frag} {α : List Addr} {H : Hp} : ∀ {ds : List D} {vs : List V}, RepAll K α H vs ds → PyData.canLayAll0 ds = true → DpAll K H vs ds
  | _, _, .nil, _ => .nil
  | _, _, .cons r t, h => by
    have h' := Bool.and_eq_true_iff.mp (show (_ && _) = true from by simpa [PyData.canLayAll0] using h)
    exact .cons (Rep.dp r h'.1) (RepAll.dp t h'.2)
end
def dEq (a b : D) : Option D := if SeqAt.shaped a = true ∧ SeqAt.shaped b = true then some (.bool (PyData.eqv a b)) else none
def dNe (a b : D) : Option D := if SeqAt.shaped a = true ∧ SeqAt.shaped b = true then some (.bool (!PyData.eqv a b)) else none
theorem od_eq : OpD X (rEqD X.K) dEq := by
  intro α H x y a b c Q ap rx ry e k
  unfold dEq at e
  split at e
  · rename_i h
    cases e
    exact ⟨a, b, rx.rep0.dp (SeqAt.canLay_of_shaped h.1), ry.rep0.dp (SeqAt.canLay_of_shaped h.2), h.1, h.2, k _ H (fun _ _ h => h) (.bl _)⟩
  · cases e
theorem od_ne : OpD X (rNeD X.K) dNe := by
  intro α H x y a b c Q ap rx ry e k
  unfold dNe at e
  split at e
  · rename_i h
    cases e
    exact ⟨a, b, rx.rep0.dp (SeqAt.canLay_of_shaped h.1), ry.rep0.dp (SeqAt.canLay_of_shaped h.2), h.1, h.2, k _ H (fun _ _ h => h) (.bl _)⟩
  · cases e
/-! in, not in: a list of anything; a tuple of flat things -/
def flatD : D → Bool
  | .none => true
  | .bool _ => true
  | .int _ => true
  | .str _ => true
  | _ => false
def inD (x : D) (ys : List D) : Bool := ys.any fun y => PyData.eqv y x
def dIn (neg : Bool) : D → D → Option D := fun x y => match y with
  | .list ys => if SeqAt.shaped x = true ∧ SeqAt.shaped (.list ys) = true then some (.bool (if neg then !inD x ys else inD x ys)) else none
  | .tuple ys => if flatD x = true ∧ ys.all flatD = true then some (.bool (if neg then !inD x ys else inD x ys)) else none
  | _ => none
theorem Rep.flat {K : PySem.W.Frag} {α : List Addr} {H : Hp} {v : V} {d : D} (r : Rep K α H v d) (h : flatD d = true) : flatV v = true := by
  cases r <;> first | rfl | cases h
theorem RdV.flat {K : PySem.W.Frag} {α : List Addr} {H : Hp} {v : V} {d : D} (r : RdV K α H v d) (h : flatD d = true) : flatV v = true := by
  cases r with
  | imm r => exact r.flat h
  | lst => cases h
  | dK => cases h
  | dT => cases h
theorem RepAll.flat {K : PySem.W.Frag} {α : List Addr} {H : Hp} : ∀ {vs : List V} {ds : List D}, RepAll K α H vs ds → ds.all flatD = true → vs.all flatV = true
  | _, _, .nil, _ => rfl
  | _, _, .cons r t, h => by
    rw [List.all_cons, Bool.and_eq_true] at h ⊢
    exact ⟨r.flat h.1, RepAll.flat t h.2⟩
theorem eqV_eqv {K : PySem.W.Frag} {α β : List Addr} {H : Hp} {v w : V} {d e : D} (r : Rep K α H v d) (q : Rep K β H w e) (h : flatD d = true) (h' : flatD e = true) : eqV v w = PyData.eqv d e := by
  cases r <;> first | (simp [flatD] at h; done) | (cases q <;> first | (simp [flatD] at h'; done) | simp [eqV, PyData.eqv])
theorem inV_inD {K : PySem.W.Frag} {α β : List Addr} {H : Hp} {v : V} {d : D} (r : Rep K β H v d) (h : flatD d = true) : ∀ {vs : List V} {ds : List D}, RepAll K α H vs ds → ds.all flatD = true → inV v vs = inD d ds
  | _, _, .nil, _ => rfl
  | _, _, .cons q t, hh => by
    rw [List.all_cons, Bool.and_eq_true] at hh
    have := inV_inD r h t hh.2
    unfold inV inD at this ⊢
    rw [List.any_cons, List.any_cons, this, eqV_eqv q r hh.1 h]
def rInX (K : PySem.W.Frag) (neg : Bool) : R2 := fun x y H Q => rIn K neg x y H Q ∨ (if neg = true then rNotInD K x y H Q else rInD K x y H Q)
theorem op_inX (hu : X.A.units + 65 < cLine) : OpR X (compareOp .In) (rInX X.K false) := op_in_seq.or (op_inD hu)
theorem op_notInX (hu : X.A.units + 65 < cLine) : OpR X (compareOp .NotIn) (rInX X.K true) := op_notIn_seq.or (op_notInD hu)
theorem od_in (neg : Bool) : OpD X (rInX X.K neg) (dIn neg) := by
  intro α H x y a b c Q ap rx ry e k
  unfold dIn at e
  split at e
  · rename_i ys
    split at e
    · rename_i h
      cases e
      have h1 := rx.rep0.dp (SeqAt.canLay_of_shaped h.1)
      have h2 := ry.rep0.dp (SeqAt.canLay_of_shaped h.2)
      refine .inr ?_
      cases neg with
      | true => exact ⟨a, ys, h1, h2, h.1, h.2, k _ H (fun _ _ h => h) (.bl _)⟩
      | false => exact ⟨a, ys, h1, h2, h.1, h.2, k _ H (fun _ _ h => h) (.bl _)⟩
    · cases e
  · rename_i ys
    split at e
    · rename_i h
      cases e
      obtain ⟨p, us, rfl, hp, ra, rt⟩ := ry.tup
      refine .inl ⟨p, us, rfl, .inr hp, rx.flat h.1, ra.flat h.2, ?_⟩
      rw [inV_inD rx.rep0 h.1 ra h.2]
      exact k _ H (fun _ _ h => h) (.bl _)
    · cases e
  · cases e
/-! a subscript: also of the script -/
def vS : Val → Hs → Option D
  | .s ns, _ => some (.list (ns.map .int))
  | .c ns, _ => some (.tuple (ns.map .int))
  | u, h => vD u h
@[simp] theorem vS_d (x : D) (h : Hs) : vS (.d x) h = some x := rfl
def dIx : D → D → Option D := fun a b => match a, b with
  | .list xs, .int i => atI xs i
  | .tuple xs, .int i => atI xs i
  | .str z, .int i => if z.length ≤ sizeLine then (atI z.cps.toList i).map fun c => .str ⟨#[c]⟩ else none
  | _, _ => none
def eIx (fa fb : MV) : MV := fun ρ h => (fa ρ h).bind fun u h1 => (fb ρ h1).bind fun v h2 => match vS u h2, vD v h2 with
  | some a, some b => R.opt ((dIx a b).map .d) h2
  | _, _ => .no
theorem vS_ok {ζ ι : List Addr} {H : Hp} {hs : Hs} {v : V} {u : Val} {d : D} {K : PySem.W.Frag} (s : Sim K ζ ι H hs) (r : VRep K ζ ι H v u) (e : vS u hs = some d) : (∃ a xs ds, v = .ref a ∧ d = .list ds ∧ SqL K H a xs ∧ RepAll K (ζ ++ ι) H xs ds) ∨ ((∀ ds, d ≠ .list ds) ∧ (RdV K (ζ ++ ι) H v d ∨ ∃ a xs ds, v = .ref a ∧ d = .tuple ds ∧ SqT K H a xs ∧ RepAll K (ζ ++ ι) H xs ds)) := by
  have go : RdV K (ζ ++ ι) H v d → (∃ a xs ds, v = .ref a ∧ d = .list ds ∧ SqL K H a xs ∧ RepAll K (ζ ++ ι) H xs ds) ∨ ((∀ ds, d ≠ .list ds) ∧ (RdV K (ζ ++ ι) H v d ∨ ∃ a xs ds, v = .ref a ∧ d = .tuple ds ∧ SqT K H a xs ∧ RepAll K (ζ ++ ι) H xs ds)) := fun r => by
    by_cases hl : ∃ ds, d = .list ds
    · obtain ⟨ds, rfl⟩ := hl
      obtain ⟨a, xs, rfl, hx, ra⟩ := r.list
      exact .inl ⟨a, xs, ds, rfl, rfl, .of hx, ra⟩
    · exact .inr ⟨fun ds z => hl ⟨ds, z⟩, .inl r⟩
  cases u with
  | c ns =>
    cases e
    cases r with
    | @c a _ h => exact .inr ⟨fun ds z => (by cases z), .inr ⟨a, _, _, rfl, rfl, h H, RepAll.ints ns⟩⟩
  | s ns =>
    cases e
    cases r with
    | @s a _ h =>
      refine .inl ⟨a, _, _, rfl, rfl, ?_, RepAll.ints ns⟩
      rcases h with ⟨o, h⟩ | h
      · exact .inl (.inr ⟨o, h⟩)
      · exact h H
  | d x => exact go (vD_ok s r e)
  | r i => exact go (vD_ok s r e)
  | x c w => exact go (vD_ok s r e)
  | t ms => exact go (vD_ok s r e)
theorem RepAll.atI {K : PySem.W.Frag} {α : List Addr} {H : Hp} {vs : List V} {ds : List D} {i : Int} {d : D} (r : RepAll K α H vs ds) (e : L2.atI ds i = some d) : ∃ v, L2.atI vs i = some v ∧ Rep K α H v d := by
  unfold L2.atI at e ⊢
  rw [r.length]
  cases q : ixN ds.length i with
  | none => rw [q] at e; cases e
  | some j =>
    rw [q] at e
    exact r.get e
variable {e a b : Expr} {fa fb : MV} {pos : Pos}
theorem ee_ixS (ha : EE X a fa) (hb : EE X b fb) (hs : PlainIx b := by exact fun _ _ => rfl) : EE X (.Subscript a b pos) (eIx fa fb) := ⟨fun W tk => by
  obtain ⟨ta, pa, qa⟩ := ha.run W tk
  obtain ⟨tb, pb, qb⟩ := hb.run W tk
  refine ⟨_, pe_ix ix_seq pa pb hs, fun ζ ι ρ hs σ H Q er s k => ?_⟩
  refine qa ζ ι ρ hs σ H _ er s (Kt.bind k fun u h1 x H1 ι1 e1 s1 r1 k1 => ?_)
  refine qb ζ ι1 ρ h1 σ H1 _ (er.mv s e1) s1 (Kt.bind k1 fun v h2 y H2 ι2 e2 s2 r2 k2 => ?_)
  split at k2
  · rename_i da db ea eb
    obtain ⟨c, ec, k3⟩ := k2.opt
    cases hg : dIx da db with
    | none => rw [hg] at ec; cases ec
    | some c' =>
      rw [hg] at ec
      cases ec
      unfold dIx at hg
      split at hg
      · cases (vD_ok s2 r2 eb).int
        rcases vS_ok s2 (r1.mv s1 e2) ea with ⟨p, xs, ds, rfl, ed, hq, ra⟩ | ⟨n, _⟩
        · cases ed
          obtain ⟨v, hv, rv⟩ := ra.atI hg
          exact .inl ⟨p, xs, _, v, rfl, rfl, hq, hv, k3.here s2 (fun _ _ h => h) (.d rv)⟩
        · exact absurd rfl (n _)
      · cases (vD_ok s2 r2 eb).int
        rcases vS_ok s2 (r1.mv s1 e2) ea with ⟨p, xs, ds, rfl, ed, hq, ra⟩ | ⟨n, r | ⟨p, xs, ds, rfl, ed, hq, ra⟩⟩
        · cases ed
        · obtain ⟨p, xs, rfl, hq, ra, rt⟩ := r.tup
          obtain ⟨v, hv, rv⟩ := ra.atI hg
          exact .inr (.inl ⟨p, xs, _, v, rfl, rfl, hq, hv, k3.here s2 (fun _ _ h => h) (.d rv)⟩)
        · cases ed
          obtain ⟨v, hv, rv⟩ := ra.atI hg
          exact .inr (.inl ⟨p, xs, _, v, rfl, rfl, hq, hv, k3.here s2 (fun _ _ h => h) (.d rv)⟩)
      · cases (vD_ok s2 r2 eb).int
        rcases vS_ok s2 (r1.mv s1 e2) ea with ⟨p, xs, ds, rfl, ed, hq, ra⟩ | ⟨n, r | ⟨p, xs, ds, rfl, ed, hq, ra⟩⟩
        · cases ed
        rotate_left
        · cases ed
        · cases r.str
          split at hg
          · rename_i hl
            cases hc : L2.atI (Str.cps _).toList _ with
            | none => rw [hc] at hg; cases hg
            | some c =>
              rw [hc] at hg
              cases hg
              exact .inr (.inr ⟨_, _, c, rfl, rfl, hl, hc, k3.here s2 (fun _ _ h => h) (.d (.str _))⟩)
          · cases hg
      · cases hg
  · exact k2.elim⟩
/-! a slice -/
def oNone : Env → Hs → R (Option Int) := fun _ h => .ok none h
def oSome (f : MV) : Env → Hs → R (Option Int) := fun ρ h => (f ρ h).bind fun u h1 => match u with
  | .d (.int i) => .ok (some i) h1
  | _ => .no
structure EO (X : Cx) (e : Option Expr) (f : Env → Hs → R (Option Int)) : Prop where
  run : ∀ W : WX, Takes X W → ∃ t, PO X e t ∧ ∀ (ζ ι : List Addr) (ρ : Env) (hs : Hs) (σ : L2.St) (H : Hp) (Q : Option Int → Hp → Prop), ERep X.K ζ ι H σ ρ → Sim X.K ζ ι H hs → Kt X.K ζ (fun _ _ b b' => b = b') ι H (f ρ hs) Q (WE W σ) → t σ H Q
theorem eo_none : EO X none oNone := ⟨fun W tk => ⟨_, po_none, fun ζ ι ρ hs σ H Q er s k => k.here s (fun _ _ h => h) rfl⟩⟩
theorem eo_some (ha : EE X a fa) : EO X (some a) (oSome fa) := ⟨fun W tk => by
  obtain ⟨ta, pa, qa⟩ := ha.run W tk
  refine ⟨_, po_some pa, fun ζ ι ρ hs σ H Q er s k => ?_⟩
  refine qa ζ ι ρ hs σ H _ er s (Kt.bind k fun u h1 x H1 ι1 e1 s1 r1 k1 => ?_)
  split at k1
  · cases r1.int
    exact ⟨_, rfl, k1.here s1 (fun _ _ h => h) rfl⟩
  · exact k1.elim⟩
def cutD (xs : List D) (lo hi : Option Int) : List D := (xs.drop (HT.sIx xs.length 0 lo)).take (HT.sIx xs.length xs.length hi - HT.sIx xs.length 0 lo)
def dSl (a : D) (lo hi : Option Int) : Option D := match a with
  | .list xs => some (.list (cutD xs lo hi))
  | .tuple xs => some (.tuple (cutD xs lo hi))
  | .str z => if z.length ≤ sizeLine then some (.str (cutS z lo hi)) else none
  | _ => none
def eSl (fa : MV) (fl fh : Env → Hs → R (Option Int)) : MV := fun ρ h => (fa ρ h).bind fun u h1 => (fl ρ h1).bind fun lo h2 => (fh ρ h2).bind fun hi h3 => match vD u h3 with
  | some a => R.opt ((dSl a lo hi).map .d) h3
  | none => .no
theorem RepAll.cut {K : PySem.W.Frag} {α : List Addr} {H : Hp} {vs : List V} {ds : List D} (r : RepAll K α H vs ds) (lo hi : Option Int) : RepAll K α H (cutV vs lo hi) (cutD ds lo hi) := by
  unfold cutV cutD
  rw [r.length]
  exact (r.drop _).take _
def rSlD (K : PySem.W.Frag) : V → Option Int → Option Int → Hp → VK → Prop := fun x lo hi H Q => rSlL K x lo hi H Q ∨ rSlA K x lo hi H Q ∨ ∃ z, x = .str z ∧ z.length ≤ sizeLine ∧ Q (.str (cutS z lo hi)) H
theorem sl_all : SlR X (rSlD X.K) := sl_list.or (sl_tupA.or sl_str)
theorem ee_sl {lo hi : Option Expr} {fl fh : Env → Hs → R (Option Int)} {p2 : Pos} (ha : EE X a fa) (hl : EO X lo fl) (hh : EO X hi fh) : EE X (.Subscript a (.Slice lo hi none p2) pos) (eSl fa fl fh) := ⟨fun W tk => by
  obtain ⟨ta, pa, qa⟩ := ha.run W tk
  obtain ⟨tl, pl, ql⟩ := hl.run W tk
  obtain ⟨th, ph, qh⟩ := hh.run W tk
  refine ⟨_, pe_slice sl_all pa pl ph, fun ζ ι ρ hs σ H Q er s k => ?_⟩
  refine qa ζ ι ρ hs σ H _ er s (Kt.bind k fun u h1 x H1 ι1 e1 s1 r1 k1 => ?_)
  have er1 := er.mv s e1
  refine ql ζ ι1 ρ h1 σ H1 _ er1 s1 (Kt.bind k1 fun l h2 l' H2 ι2 e2 s2 r2 k2 => ?_)
  subst r2
  refine qh ζ ι2 ρ h2 σ H2 _ (er1.mv s1 e2) s2 (Kt.bind k2 fun m h3 m' H3 ι3 e3 s3 r3 k3 => ?_)
  subst r3
  split at k3
  · rename_i da ea
    have rx := vD_ok s3 ((r1.mv s1 e2).mv s2 e3) ea
    obtain ⟨c, ec, k3⟩ := k3.opt
    unfold dSl at ec
    split at ec
    · cases ec
      obtain ⟨p, us, rfl, hp, ra⟩ := rx.list
      exact .inl ⟨p, us, rfl, .of hp, fun r hr => k3.here s3 (same_new hr) (.d (.lst upd_same (s3.fresh hr) ((ra.cut _ _).same s3.apA (same_new hr))))⟩
    · rename_i xs
      cases ec
      obtain ⟨p, us, rfl, hp, ra, rt⟩ := rx.tup
      refine .inr (.inl ⟨p, us, rfl, hp, fun hw => ?_, fun _ r hr => ?_⟩)
      · have e0 : cutV us l' m' = us := by
          unfold cutV
          rw [hw.1, hw.2, List.drop_zero, Nat.sub_zero, List.take_length]
        have e2 : cutD xs l' m' = xs := by
          unfold cutD
          rw [← ra.length, hw.1, hw.2, List.drop_zero, Nat.sub_zero, ra.length, List.take_length]
        rw [e2] at k3
        exact k3.here s3 (fun _ _ h => h) (.d rt)
      · exact k3.here s3 (same_new hr) (.d (.tup upd_same ((ra.cut _ _).same s3.apA (same_new hr))))
    · split at ec
      · rename_i z hz
        cases ec
        cases rx.str
        exact .inr (.inr ⟨_, rfl, hz, k3.here s3 (fun _ _ h => h) (.d (.str _))⟩)
      · cases ec
    · cases ec
  · exact k3.elim⟩
/-! built-ins -/
def d1 (g : D → Option D) : List D → Option D
  | [a] => g a
  | _ => none
def d2 (g : D → D → Option D) : List D → Option D
  | [a, b] => g a b
  | _ => none
theorem d1_ok {g : D → Option D} {ds : List D} {c : D} (h : d1 g ds = some c) : ∃ a, ds = [a] ∧ g a = some c := by
  unfold d1 at h
  split at h
  · exact ⟨_, rfl, h⟩
  · cases h
theorem d2_ok {g : D → D → Option D} {ds : List D} {c : D} (h : d2 g ds = some c) : ∃ a b, ds = [a, b] ∧ g a b = some c := by
  unfold d2 at h
  split at h
  · exact ⟨_, _, rfl, h⟩
  · cases h
theorem RdVs.one {K : PySem.W.Frag} {α : List Addr} {H : Hp} {vs : List V} {a : D} (r : RdVs K α H vs [a]) : ∃ v, vs = [v] ∧ RdV K α H v a := by
  cases r with
  | cons r t => cases t; exact ⟨_, rfl, r⟩
theorem RdVs.two {K : PySem.W.Frag} {α : List Addr} {H : Hp} {vs : List V} {a b : D} (r : RdVs K α H vs [a, b]) : ∃ v w, vs = [v, w] ∧ RdV K α H v a ∧ RdV K α H w b := by
  cases r with
  | cons r t => cases t with
    | cons q t => cases t; exact ⟨_, _, rfl, r, q⟩
theorem cd1 {r : List V → Hp → VK → Prop} {g : D → Option D} (h : ∀ (α : List Addr) (H : Hp) (v : V) (a c : D) (Q : VK), Ap α H → RdV X.K α H v a → g a = some c → (∀ z H', Same H H' → Rep X.K α H' z c → Q z H') → r [v] H Q) : CallD X r (d1 g) := by
  intro α H xs ds c Q ap rx e k
  obtain ⟨a, rfl, e⟩ := d1_ok e
  obtain ⟨v, rfl, r⟩ := rx.one
  exact h α H v a c Q ap r e k
theorem cd2 {r : List V → Hp → VK → Prop} {g : D → D → Option D} (h : ∀ (α : List Addr) (H : Hp) (v w : V) (a b c : D) (Q : VK), Ap α H → RdV X.K α H v a → RdV X.K α H w b → g a b = some c → (∀ z H', Same H H' → Rep X.K α H' z c → Q z H') → r [v, w] H Q) : CallD X r (d2 g) := by
  intro α H xs ds c Q ap rx e k
  obtain ⟨a, b, rfl, e⟩ := d2_ok e
  obtain ⟨v, w, rfl, r, q⟩ := rx.two
  exact h α H v w a b c Q ap r q e k
def dTuple : D → Option D
  | .list xs => some (.tuple xs)
  | .tuple xs => some (.tuple xs)
  | _ => none
theorem cd_tuple : CallD X (fun xs H Q => ∃ p ys, xs = [.ref p] ∧ ((SqL X.K H p ys ∧ ∀ l, H l = none → Q (.ref l) (upd H l (.tup ys))) ∨ (SqT X.K H p ys ∧ Q (.ref p) H))) (d1 dTuple) := cd1 fun α H v a c Q ap r e k => by
  unfold dTuple at e
  split at e
  · cases e
    obtain ⟨p, us, rfl, hp, ra⟩ := r.list
    exact ⟨p, us, rfl, .inl ⟨.of hp, fun l hl => k _ _ (same_new hl) (.tup upd_same (ra.same ap (same_new hl)))⟩⟩
  · cases e
    obtain ⟨p, us, rfl, hp, ra, rt⟩ := r.tup
    exact ⟨p, us, rfl, .inr ⟨hp, k _ H (fun _ _ h => h) rt⟩⟩
  · cases e
def dList : D → Option D
  | .list xs => some (.list xs)
  | .tuple xs => some (.list xs)
  | _ => none
theorem cd_list : CallD X (fun xs H Q => ∃ p ys, xs = [.ref p] ∧ (SqL X.K H p ys ∨ SqT X.K H p ys) ∧ ∀ l, H l = none → Q (.ref l) (upd H l (.lst ys))) (d1 dList) := cd1 fun α H v a c Q ap r e k => by
  unfold dList at e
  split at e
  · cases e
    obtain ⟨p, us, rfl, hp, ra⟩ := r.list
    exact ⟨p, us, rfl, .inl (.of hp), fun l hl => k _ _ (same_new hl) (.lst upd_same (ap.fresh hl) (ra.same ap (same_new hl)))⟩
  · cases e
    obtain ⟨p, us, rfl, hp, ra, rt⟩ := r.tup
    exact ⟨p, us, rfl, .inr hp, fun l hl => k _ _ (same_new hl) (.lst upd_same (ap.fresh hl) (ra.same ap (same_new hl)))⟩
  · cases e
def boolsOf : List D → Option (List Bool)
  | [] => some []
  | .bool b :: ds => (boolsOf ds).map (b :: ·)
  | _ :: _ => none
theorem boolsOf_ok {K : PySem.W.Frag} {α : List Addr} {H : Hp} : ∀ {vs : List V} {ds : List D} {bs : List Bool}, RepAll K α H vs ds → boolsOf ds = some bs → vs = bs.map V.bl
  | _, _, _, .nil, e => by cases e; rfl
  | _, _, _, .cons (d := d) r t, e => by
    cases d with
    | bool b =>
      simp only [boolsOf] at e
      cases q : boolsOf _ with
      | none => rw [q] at e; cases e
      | some bs =>
        rw [q] at e
        cases e
        cases r
        rw [boolsOf_ok t q]
        rfl
    | _ => cases e
def dAll : D → Option D
  | .list xs => (boolsOf xs).map fun bs => .bool (bs.all id)
  | _ => none
def dAny : D → Option D
  | .list xs => (boolsOf xs).map fun bs => .bool (bs.any id)
  | _ => none
theorem cd_all : CallD X (rAll X.K) (d1 dAll) := cd1 fun α H v a c Q ap r e k => by
  unfold dAll at e
  split at e
  · cases q : boolsOf _ with
    | none => rw [q] at e; cases e
    | some bs =>
      rw [q] at e
      cases e
      obtain ⟨p, us, rfl, hp, ra⟩ := r.list
      rw [boolsOf_ok ra q] at hp
      exact ⟨p, bs, rfl, .of hp, k _ H (fun _ _ h => h) (.bl _)⟩
  · cases e
theorem cd_any : CallD X (rAny X.K) (d1 dAny) := cd1 fun α H v a c Q ap r e k => by
  unfold dAny at e
  split at e
  · cases q : boolsOf _ with
    | none => rw [q] at e; cases e
    | some bs =>
      rw [q] at e
      cases e
      obtain ⟨p, us, rfl, hp, ra⟩ := r.list
      rw [boolsOf_ok ra q] at hp
      exact ⟨p, bs, rfl, .of hp, k _ H (fun _ _ h => h) (.bl _)⟩
  · cases e
def dInt : D → Option D
  | .int i => some (.int i)
  | .bool b => some (.int (if b then 1 else 0))
  | _ => none
theorem cd_int : CallD X (fun xs H Q => (∃ i, xs = [.int i] ∧ Q (.int i) H) ∨ ∃ k, xs = [.bl k] ∧ Q (.int (if k then 1 else 0)) H) (d1 dInt) := cd1 fun α H v a c Q ap r e k => by
  unfold dInt at e
  split at e
  · cases e
    cases r.int
    exact .inl ⟨_, rfl, k _ H (fun _ _ h => h) (.int _)⟩
  · cases e
    cases r.bool
    exact .inr ⟨_, rfl, k _ H (fun _ _ h => h) (.int _)⟩
  · cases e
def dAbs : D → Option D
  | .int i => some (.int (if i < 0 then -i else i))
  | _ => none
theorem cd_abs : CallD X (fun xs H Q => ∃ i, xs = [.int i] ∧ Q (.int (if i < 0 then -i else i)) H) (d1 dAbs) := cd1 fun α H v a c Q ap r e k => by
  unfold dAbs at e
  split at e
  · cases e
    cases r.int
    exact ⟨_, rfl, k _ H (fun _ _ h => h) (.int _)⟩
  · cases e
theorem cd_max2 : CallD X (fun xs H Q => ∃ i j, xs = [.int i, .int j] ∧ Q (.int (if j > i then j else i)) H) (d2 (dInt2 fun i j => some (.int (if j > i then j else i)))) := cd2 fun α H v w a b c Q ap r q e k => by
  obtain ⟨i, j, rfl, rfl, e⟩ := dInt2_ok e
  cases e
  cases r.int
  cases q.int
  exact ⟨i, j, rfl, k _ H (fun _ _ h => h) (.int _)⟩
theorem cd_min2 : CallD X (fun xs H Q => ∃ i j, xs = [.int i, .int j] ∧ Q (.int (if j < i then j else i)) H) (d2 (dInt2 fun i j => some (.int (if j < i then j else i)))) := cd2 fun α H v w a b c Q ap r q e k => by
  obtain ⟨i, j, rfl, rfl, e⟩ := dInt2_ok e
  cases e
  cases r.int
  cases q.int
  exact ⟨i, j, rfl, k _ H (fun _ _ h => h) (.int _)⟩
theorem cd_gcd : CallD X rGcd (d2 (dInt2 fun i j => some (.int ((Nat.gcd i.natAbs j.natAbs : Nat) : Int)))) := cd2 fun α H v w a b c Q ap r q e k => by
  obtain ⟨i, j, rfl, rfl, e⟩ := dInt2_ok e
  cases e
  cases r.int
  cases q.int
  exact ⟨i, j, rfl, k _ H (fun _ _ h => h) (.int _)⟩
/-- a module's name for a built-in -/
theorem ee_callFun {x : Str} {p : Pos} {es : List Expr} {fas : Env → Hs → R (List Val)} {g : List D → Option D} {r : List V → Hp → VK → Prop} {id : String} (hc : CallR X (.builtin id) r) (hd : CallD X r g) (hm : X.mg x = some (.builtin id)) (ha : EA X (e :: es) fas) (hg : Gl X x := by rfl) (hdb : (x == ("__debug__" : Str)) = false := by decide)
    (he : starEach (e :: es) X.env = (false, eval e X.env) :: starEach es X.env := by rfl) (hpl : (backTo pos (starEach es X.env)).any (·.1) = false := by rfl) : EE X (.Call (.Name x p) (e :: es) [] pos) (eCallB g fas) :=
  ee_tcb (fun pa => pe_callBfun hc hg hm pa hdb he hpl) hd ha
def intsOf : List D → Option (List Int)
  | [] => some []
  | .int b :: ds => (intsOf ds).map (b :: ·)
  | _ :: _ => none
theorem intsOf_ok {K : PySem.W.Frag} {α : List Addr} {H : Hp} : ∀ {vs : List V} {ds : List D} {bs : List Int}, RepAll K α H vs ds → intsOf ds = some bs → vs = bs.map V.int
  | _, _, _, .nil, e => by cases e; rfl
  | _, _, _, .cons (d := d) r t, e => by
    cases d with
    | int b =>
      simp only [intsOf] at e
      cases q : intsOf _ with
      | none => rw [q] at e; cases e
      | some bs =>
        rw [q] at e
        cases e
        cases r
        rw [intsOf_ok t q]
        rfl
    | _ => cases e
@[simp] theorem intsOf_map (ns : List Int) : intsOf (ns.map .int) = some ns := by
  induction ns with
  | nil => rfl
  | cons n ns ih => simp [intsOf, ih]
@[simp] theorem boolsOf_map (bs : List Bool) : boolsOf (bs.map .bool) = some bs := by
  induction bs with
  | nil => rfl
  | cons n ns ih => simp [boolsOf, ih]
def maxL (ns : List Int) : Int := ns.foldl (fun m n => if n > m then n else m) (ns.headD 0)
def minL (ns : List Int) : Int := ns.foldl (fun m n => if n < m then n else m) (ns.headD 0)
theorem foldmax_spec : ∀ (ns : List Int) (m : Int), (ns.foldl (fun m n => if n > m then n else m) m = m ∨ ns.foldl (fun m n => if n > m then n else m) m ∈ ns) ∧ m ≤ ns.foldl (fun m n => if n > m then n else m) m ∧ ∀ y ∈ ns, y ≤ ns.foldl (fun m n => if n > m then n else m) m
  | [], m => ⟨.inl rfl, Int.le_refl _, fun _ h => by cases h⟩
  | n :: ns, m => by
    obtain ⟨h1, h2, h3⟩ := foldmax_spec ns (if n > m then n else m)
    rw [List.foldl_cons]
    have a1 : m ≤ if n > m then n else m := by split <;> omega
    have a2 : n ≤ if n > m then n else m := by split <;> omega
    refine ⟨?_, by omega, fun y hy => ?_⟩
    · rcases h1 with h | h
      · rw [h]
        split
        · exact .inr List.mem_cons_self
        · exact .inl rfl
      · exact .inr (List.mem_cons_of_mem _ h)
    · rcases List.mem_cons.mp hy with e | e
      · rw [e]; omega
      · exact h3 y e
theorem foldmin_spec : ∀ (ns : List Int) (m : Int), (ns.foldl (fun m n => if n < m then n else m) m = m ∨ ns.foldl (fun m n => if n < m then n else m) m ∈ ns) ∧ ns.foldl (fun m n => if n < m then n else m) m ≤ m ∧ ∀ y ∈ ns, ns.foldl (fun m n => if n < m then n else m) m ≤ y
  | [], m => ⟨.inl rfl, Int.le_refl _, fun _ h => by cases h⟩
  | n :: ns, m => by
    obtain ⟨h1, h2, h3⟩ := foldmin_spec ns (if n < m then n else m)
    rw [List.foldl_cons]
    have a1 : (if n < m then n else m) ≤ m := by split <;> omega
    have a2 : (if n < m then n else m) ≤ n := by split <;> omega
    refine ⟨?_, by omega, fun y hy => ?_⟩
    · rcases h1 with h | h
      · rw [h]
        split
        · exact .inr List.mem_cons_self
        · exact .inl rfl
      · exact .inr (List.mem_cons_of_mem _ h)
    · rcases List.mem_cons.mp hy with e | e
      · rw [e]; omega
      · exact h3 y e
theorem maxL_spec {ns : List Int} (h : ns ≠ []) : maxL ns ∈ ns ∧ ∀ y ∈ ns, y ≤ maxL ns := by
  cases ns with
  | nil => exact absurd rfl h
  | cons n ns =>
    obtain ⟨h1, h2, h3⟩ := foldmax_spec (n :: ns) n
    refine ⟨?_, h3⟩
    rcases h1 with e | e
    · show List.foldl _ n (n :: ns) ∈ _
      rw [e]; exact List.mem_cons_self
    · exact e
theorem minL_spec {ns : List Int} (h : ns ≠ []) : minL ns ∈ ns ∧ ∀ y ∈ ns, minL ns ≤ y := by
  cases ns with
  | nil => exact absurd rfl h
  | cons n ns =>
    obtain ⟨h1, h2, h3⟩ := foldmin_spec (n :: ns) n
    refine ⟨?_, h3⟩
    rcases h1 with e | e
    · show List.foldl _ n (n :: ns) ∈ _
      rw [e]; exact List.mem_cons_self
    · exact e
def dMax : D → Option D
  | .list xs => (intsOf xs).bind fun ns => if ns = [] then none else some (.int (maxL ns))
  | _ => none
def dMin : D → Option D
  | .list xs => (intsOf xs).bind fun ns => if ns = [] then none else some (.int (minL ns))
  | _ => none
def dSum : D → Option D
  | .list xs => (intsOf xs).map fun ns => .int ns.sum
  | _ => none
theorem cd_max : CallD X (rMax X.K) (d1 dMax) := cd1 fun α H v a c Q ap r e k => by
  unfold dMax at e
  split at e
  · cases q : intsOf _ with
    | none => rw [q] at e; cases e
    | some ns =>
      rw [q] at e
      simp only [Option.bind_some] at e
      split at e
      · cases e
      · rename_i hn
        cases e
        obtain ⟨p, us, rfl, hp, ra⟩ := r.list
        rw [intsOf_ok ra q] at hp
        refine ⟨p, ns, rfl, .of hp, List.length_pos_iff.mpr hn, fun m hm hle => ?_⟩
        obtain ⟨h1, h2⟩ := maxL_spec hn
        have e : m = maxL ns := by
          have z1 := h2 m hm
          have z2 := hle _ h1
          omega
        subst e
        exact k _ H (fun _ _ h => h) (.int _)
  · cases e
theorem cd_min : CallD X (rMin X.K) (d1 dMin) := cd1 fun α H v a c Q ap r e k => by
  unfold dMin at e
  split at e
  · cases q : intsOf _ with
    | none => rw [q] at e; cases e
    | some ns =>
      rw [q] at e
      simp only [Option.bind_some] at e
      split at e
      · cases e
      · rename_i hn
        cases e
        obtain ⟨p, us, rfl, hp, ra⟩ := r.list
        rw [intsOf_ok ra q] at hp
        refine ⟨p, ns, rfl, .of hp, List.length_pos_iff.mpr hn, fun m hm hle => ?_⟩
        obtain ⟨h1, h2⟩ := minL_spec hn
        have e : m = minL ns := by
          have z1 := h2 m hm
          have z2 := hle _ h1
          omega
        subst e
        exact k _ H (fun _ _ h => h) (.int _)
  · cases e
theorem cd_sum : CallD X (rSum X.K) (d1 dSum) := cd1 fun α H v a c Q ap r e k => by
  unfold dSum at e
  split at e
  · cases q : intsOf _ with
    | none => rw [q] at e; cases e
    | some ns =>
      rw [q] at e
      cases e
      obtain ⟨p, us, rfl, hp, ra⟩ := r.list
      rw [intsOf_ok ra q] at hp
      exact ⟨p, ns, rfl, .of hp, k _ H (fun _ _ h => h) (.int _)⟩
  · cases e
end
end DL

set_option Elab.async false
set_option linter.all false
set_option maxRecDepth 100000
set_option maxHeartbeats 1000000
namespace DL
open PySem PySem.Spec PyProof.Rows L2
section
variable {X : Cx} {e a b c : Expr} {fa fb fc : MV} {pos : Pos}
/-! ### comparisons as tests -/
theorem Kt.bind2 {γ γ' : Type} {δ'' : Type} {K : PySem.W.Frag} {ζ ι : List Addr} {H : Hp} {rel : List Addr → Hp → δ'' → γ → Prop} {γ2 : Type} {r : R γ'} {k : γ' → Hs → R γ2} {k2 : γ2 → Hs → R γ} {Q : δ'' → Hp → Prop} {E : XK} (w : Kt K ζ rel ι H ((r.bind k).bind k2) Q E) : Kt K ζ rel ι H (r.bind fun a h => (k a h).bind k2) Q E := by
  cases r with
  | ok a h => exact w
  | ex c v h => exact w
  | no => exact w
theorem et_cmp {op : CmpOp} {r : R2} {g : D → D → Option D} (ho : OpR X (compareOp op) r) (hd : OpD X r g) (ha : EE X a fa) (hb : EE X b fb) (hm : behindInMarks op b = false := by first | exact nomark _ | rfl) : ET X (.Compare a [op] [b] pos) (tVal (eOp g fa fb)) := ⟨fun W tk => by
  obtain ⟨ta, pa, qa⟩ := ha.run W tk
  obtain ⟨tb, pb, qb⟩ := hb.run W tk
  refine ⟨_, pt_cmpR ho pa pb hm, fun ζ ι ρ hs σ H Q er s k => ?_⟩
  refine qa ζ ι ρ hs σ H _ er s (Kt.bind (Kt.bind2 k) fun u h1 x H1 ι1 e1 s1 r1 k1 => ?_)
  refine qb ζ ι1 ρ h1 σ H1 _ (er.mv s e1) s1 (Kt.bind (Kt.bind2 k1) fun v h2 y H2 ι2 e2 s2 r2 k2 => ?_)
  cases ea : vD u h2 with
  | none => simp only [ea] at k2; exact k2.elim
  | some da =>
    cases eb : vD v h2 with
    | none => simp only [ea, eb] at k2; exact k2.elim
    | some db =>
      simp only [ea, eb] at k2
      cases hg : g da db with
      | none => rw [hg] at k2; exact k2.elim
      | some c' =>
        rw [hg] at k2
        obtain ⟨bb, ebb, k3⟩ := Kt.opt (show Kt X.K ζ (fun _ _ b b' => b = b') ι2 H2 (R.opt (asB (.d c')) h2) Q _ from k2)
        cases c' with
        | bool b0 =>
          obtain rfl : b0 = bb := by cases ebb; rfl
          exact hd _ H2 x y da db (.bool b0) _ s2.apA (vD_ok s2 (r1.mv s1 e2) ea) (vD_ok s2 r2 eb) hg fun z H' sm rp => by
            cases rp
            exact ⟨b0, rfl, k3.here s2 sm rfl⟩
        | _ => cases ebb⟩
theorem et_isN {j : Nat} {p' : Pos} (ha : EE X a fa) : ET X (.Compare a [.Is] [.Constant .none j p'] pos) (tVal (eIsN fa)) := ⟨fun W tk => by
  obtain ⟨ta, pa, qa⟩ := ha.run W tk
  refine ⟨_, pt_cmp (pc_isN pa) rfl, fun ζ ι ρ hs σ H Q er s k => ?_⟩
  refine qa ζ ι ρ hs σ H _ er s (Kt.bind (Kt.bind2 k) fun u h1 x H1 ι1 e1 s1 r1 k1 => ?_)
  have e := isN_ok r1
  exact ⟨_, rfl, k1.here s1 (fun _ _ h => h) e⟩⟩
theorem et_notN {j : Nat} {p' : Pos} (ha : EE X a fa) : ET X (.Compare a [.IsNot] [.Constant .none j p'] pos) (tVal (eNotN fa)) := ⟨fun W tk => by
  obtain ⟨ta, pa, qa⟩ := ha.run W tk
  refine ⟨_, pt_cmp (pc_notN pa) rfl, fun ζ ι ρ hs σ H Q er s k => ?_⟩
  refine qa ζ ι ρ hs σ H _ er s (Kt.bind (Kt.bind2 k) fun u h1 x H1 ι1 e1 s1 r1 k1 => ?_)
  have e := isN_ok r1
  exact ⟨_, rfl, k1.here s1 (fun _ _ h => h) (by rw [e])⟩⟩
/-! ### chains -/
def dB : D → Option Bool
  | .bool b => some b
  | _ => none
def eChain (g g' : D → D → Option D) (fa fb fc : MV) : MV := fun ρ h => (fa ρ h).bind fun u h1 => (fb ρ h1).bind fun v h2 => match vD u h2, vD v h2 with
  | some a, some b => (match (g a b).bind dB with
    | some true => (fc ρ h2).bind fun w h3 => (match vD v h3, vD w h3 with
      | some b', some c => R.opt ((g' b' c).map .d) h3
      | _, _ => .no)
    | some false => .ok (.d (.bool false)) h2
    | none => .no)
  | _, _ => .no
theorem chain_reads {r r' : R2} {g g' : D → D → Option D} {ta tb tc : TE} {W : WX} {ζ ι : List Addr} {ρ : Env} {hs : Hs} {σ : L2.St} {H : Hp} {Q : VK} (hd : OpD X r g) (hd' : OpD X r' g')
    (qa : ∀ (ζ ι : List Addr) (ρ : Env) (hs : Hs) (σ : L2.St) (H : Hp) (Q : VK), ERep X.K ζ ι H σ ρ → Sim X.K ζ ι H hs → Kt X.K ζ (VRep X.K ζ) ι H (fa ρ hs) Q (WE W σ) → ta σ H Q)
    (qb : ∀ (ζ ι : List Addr) (ρ : Env) (hs : Hs) (σ : L2.St) (H : Hp) (Q : VK), ERep X.K ζ ι H σ ρ → Sim X.K ζ ι H hs → Kt X.K ζ (VRep X.K ζ) ι H (fb ρ hs) Q (WE W σ) → tb σ H Q)
    (qc : ∀ (ζ ι : List Addr) (ρ : Env) (hs : Hs) (σ : L2.St) (H : Hp) (Q : VK), ERep X.K ζ ι H σ ρ → Sim X.K ζ ι H hs → Kt X.K ζ (VRep X.K ζ) ι H (fc ρ hs) Q (WE W σ) → tc σ H Q)
    (er : ERep X.K ζ ι H σ ρ) (s : Sim X.K ζ ι H hs) (k : Kt X.K ζ (VRep X.K ζ) ι H (eChain g g' fa fb fc ρ hs) Q (WE W σ)) : tChain r r' ta tb tc σ H Q := by
  refine qa ζ ι ρ hs σ H _ er s (Kt.bind k fun u h1 x H1 ι1 e1 s1 r1 k1 => ?_)
  have er1 := er.mv s e1
  refine qb ζ ι1 ρ h1 σ H1 _ er1 s1 (Kt.bind k1 fun v h2 y H2 ι2 e2 s2 r2 k2 => ?_)
  have er2 := er1.mv s1 e2
  cases ea : vD u h2 with
  | none => simp only [ea] at k2; exact k2.elim
  | some da =>
    cases eb : vD v h2 with
    | none => simp only [ea, eb] at k2; exact k2.elim
    | some db =>
      simp only [ea, eb] at k2
      cases hg : g da db with
      | none => simp only [hg, Option.bind_none] at k2; exact k2.elim
      | some c' =>
        simp only [hg, Option.bind_some] at k2
        cases c' with
        | bool b0 =>
          simp only [dB] at k2
          refine hd _ H2 x y da db (.bool b0) _ s2.apA (vD_ok s2 (r1.mv s1 e2) ea) (vD_ok s2 r2 eb) hg fun z H' sm rp => ?_
          cases rp
          refine ⟨b0, rfl, ?_⟩
          have e3 := Ext.of_same (ι := ι2) sm
          have s3 := s2.same sm
          cases b0 with
          | false =>
            rw [if_neg Bool.false_ne_true]
            exact (k2.mv e3).here s3 (fun _ _ h => h) (.d (.bl false))
          | true =>
            rw [if_pos rfl]
            refine qc ζ ι2 ρ h2 σ H' _ (er2.mv s2 e3) s3 (Kt.bind (k2.mv e3) fun w h3 zz H3 ι3 e4 s4 r4 k4 => ?_)
            split at k4
            · rename_i db' dc eb' ec'
              obtain ⟨c, ec, k5⟩ := k4.opt
              cases hg' : g' db' dc with
              | none => rw [hg'] at ec; cases ec
              | some c' =>
                rw [hg'] at ec
                cases ec
                exact hd' _ H3 y zz db' dc c' Q s4.apA (vD_ok s4 ((r2.mv s2 e3).mv s3 e4) eb') (vD_ok s4 r4 ec') hg' fun z H' sm rp => k5.here s4 sm (.d rp)
            · exact k4.elim
        | _ => exact k2.elim
theorem ee_chain {op op' : CmpOp} {r r' : R2} {g g' : D → D → Option D} (ho : OpR X (compareOp op) r) (hd : OpD X r g) (ho' : OpR X (compareOp op') r') (hd' : OpD X r' g') (ha : EE X a fa) (hb : EE X b fb) (hc : EE X c fc)
    (hm : lastMarks [op, op'] [b, c] = false := by with_unfolding_all rfl) : EE X (.Compare a [op, op'] [b, c] pos) (eChain g g' fa fb fc) := ⟨fun W tk => by
  obtain ⟨ta, pa, qa⟩ := ha.run W tk
  obtain ⟨tb, pb, qb⟩ := hb.run W tk
  obtain ⟨tc, pc, qc⟩ := hc.run W tk
  exact ⟨_, pe_chain ho ho' pa pb pc hm, fun ζ ι ρ hs σ H Q er s k => chain_reads hd hd' qa qb qc er s k⟩⟩
theorem et_chain {op op' : CmpOp} {r r' : R2} {g g' : D → D → Option D} (ho : OpR X (compareOp op) r) (hd : OpD X r g) (ho' : OpR X (compareOp op') r') (hd' : OpD X r' g') (ha : EE X a fa) (hb : EE X b fb) (hc : EE X c fc)
    (hm : lastMarks [op, op'] [b, c] = false := by with_unfolding_all rfl) : ET X (.Compare a [op, op'] [b, c] pos) (tVal (eChain g g' fa fb fc)) := ⟨fun W tk => by
  obtain ⟨ta, pa, qa⟩ := ha.run W tk
  obtain ⟨tb, pb, qb⟩ := hb.run W tk
  obtain ⟨tc, pc, qc⟩ := hc.run W tk
  refine ⟨_, pt_chain ho ho' pa pb pc hm, fun ζ ι ρ hs σ H Q er s k => chain_reads hd hd' qa qb qc er s (Kt.bind k fun u h1 x H1 ι1 e1 s1 r1 k1 => ?_)⟩
  obtain ⟨c, ec, k2⟩ := k1.opt
  exact ⟨c, asB_ok r1 ec, k2.here s1 (fun _ _ h => h) rfl⟩⟩
/-! ### isinstance with built-in classes -/
def dTy : D → String
  | .none => "NoneType"
  | .bool _ => "bool"
  | .int _ => "int"
  | .str _ => "str"
  | .list _ => "list"
  | .tuple _ => "tuple"
  | .dict _ => "dict"
theorem RdV.ty {K : PySem.W.Frag} {α : List Addr} {H : Hp} {v : V} {d : D} (r : RdV K α H v d) : TyX K H v (.type (dTy d)) := by
  cases r with
  | imm r =>
    cases r with
    | non => exact .base .non
    | bl b => exact .base (.bl b)
    | int i => exact .base (.int i)
    | str x => exact .base (.str x)
    | lst h _ _ => exact .base (.lst h)
    | tup h _ => exact .base (.tup h)
    | con h _ _ =>
      rcases h with (h | ⟨o, h⟩) | ⟨o, its, n, h1, h2, _⟩
      · exact .base (.tup h)
      · exact .fTuple h
      · exact .kTuple h1 h2
    | dK h _ _ => exact .base (.dK h)
    | dT h _ _ => exact .base (.dT h)
  | lst h _ => exact .base (.lst h)
  | dK h _ => exact .base (.dK h)
  | dT h _ => exact .base (.dT h)
def eIsi (f : D → Bool) (fa : MV) : MV := fun ρ h => (fa ρ h).bind fun u h1 => match vD u h1 with
  | some d => .ok (.d (.bool (f d))) h1
  | none => .no
theorem ee_isi {t : String} {T : Str} {f : D → Bool} {p p2 : Pos} (hk : ∀ (K : PySem.W.Frag) (d : D), PySem.W.kitOne K (.type (dTy d)) (.type t) = some (f d)) (hm : X.mg "isinstance" = none) (hm2 : X.mg T = none) (hv : bootBuiltins T = some (.type t)) (ha : EE X a fa)
    (hg : Gl X "isinstance" := by rfl) (hg2 : Gl X T := by rfl) (hn2 : T ≠ "__name__" := by decide) (hdb : (T == ("__debug__" : Str)) = false := by decide)
    (he : starEach (a :: [.Name T p2]) X.env = (false, eval a X.env) :: starEach [.Name T p2] X.env := by rfl) (he2 : starEach ([.Name T p2]) X.env = (false, eval (.Name T p2) X.env) :: starEach [] X.env := by rfl) (hpl : (backTo pos (starEach [.Name T p2] X.env)).any (·.1) = false := by rfl) :
    EE X (.Call (.Name "isinstance" p) [a, .Name T p2] [] pos) (eIsi f fa) := ⟨fun W tk => by
  obtain ⟨ta, pa, qa⟩ := ha.run W tk
  refine ⟨_, pe_callB call_isi hg hm (by rfl) (pa_cons pa (pa_cons (pe_bltn (v := .ty t) hg2 hm2 hv rfl hn2 hdb) pa_nil he2) he) (by decide) (by decide) he hpl, fun ζ ι ρ hs σ H Q er s k => ?_⟩
  refine qa ζ ι ρ hs σ H _ er s (Kt.bind k fun u h1 x H1 ι1 e1 s1 r1 k1 => ?_)
  split at k1
  · rename_i d ed
    exact ⟨x, .ty t, _, _, _, rfl, .ty t, (vD_ok s1 r1 ed).ty, hk _ d, k1.here s1 (fun _ _ h => h) (.d (.bl _))⟩
  · exact k1.elim⟩
theorem ee_isi2 {t1 t2 : String} {T1 T2 : Str} {f : D → Bool} {p p1 p2 p3 : Pos} {kk : Nat} (hk : ∀ (K : PySem.W.Frag) (d : D), PySem.W.kitAny K (.type (dTy d)) [.type t1, .type t2] = some (f d)) (hm : X.mg "isinstance" = none) (hm1 : X.mg T1 = none) (hv1 : bootBuiltins T1 = some (.type t1)) (hm2 : X.mg T2 = none) (hv2 : bootBuiltins T2 = some (.type t2)) (ha : EE X a fa)
    (hg : Gl X "isinstance" := by rfl) (hg1 : Gl X T1 := by rfl) (hn1 : T1 ≠ "__name__" := by decide) (hdb1 : (T1 == ("__debug__" : Str)) = false := by decide) (hg2 : Gl X T2 := by rfl) (hn2 : T2 ≠ "__name__" := by decide) (hdb : (T2 == ("__debug__" : Str)) = false := by decide)
    (he : starEach (a :: [.Tuple [.Name T1 p1, .Name T2 p2] kk p3]) X.env = (false, eval a X.env) :: starEach [.Tuple [.Name T1 p1, .Name T2 p2] kk p3] X.env := by rfl) (he2 : starEach ([.Tuple [.Name T1 p1, .Name T2 p2] kk p3]) X.env = (false, eval (.Tuple [.Name T1 p1, .Name T2 p2] kk p3) X.env) :: starEach [] X.env := by rfl)
    (he3 : starEach ([.Name T1 p1, .Name T2 p2]) X.env = (false, eval (.Name T1 p1) X.env) :: starEach [.Name T2 p2] X.env := by rfl) (he4 : starEach ([.Name T2 p2]) X.env = (false, eval (.Name T2 p2) X.env) :: starEach [] X.env := by rfl) (hpl : (backTo pos (starEach [.Tuple [.Name T1 p1, .Name T2 p2] kk p3] X.env)).any (·.1) = false := by rfl) :
    EE X (.Call (.Name "isinstance" p) [a, .Tuple [.Name T1 p1, .Name T2 p2] kk p3] [] pos) (eIsi f fa) := ⟨fun W tk => by
  obtain ⟨ta, pa, qa⟩ := ha.run W tk
  refine ⟨_, pe_callB call_isiT hg hm (by rfl) (pa_cons pa (pa_cons (pe_tup (pa_cons (pe_bltn (v := .ty t1) hg1 hm1 hv1 rfl hn1 hdb1) (pa_cons (pe_bltn (v := .ty t2) hg2 hm2 hv2 rfl hn2 hdb) pa_nil he4) he3)) pa_nil he2) he) (by decide) (by decide) he hpl, fun ζ ι ρ hs σ H Q er s k => ?_⟩
  refine qa ζ ι ρ hs σ H _ er s (Kt.bind k fun u h1 x H1 ι1 e1 s1 r1 k1 => ?_)
  split at k1
  · rename_i d ed
    refine ⟨by show 2 ≤ sizeLine; decide, fun tp htp => ⟨x, tp, _, _, _, _, rfl, upd_same, .cons (.ty t1) (.cons (.ty t2) .nil), ?_, hk _ d, k1.here s1 (same_new htp) (.d (.bl _))⟩⟩
    have r := vD_ok s1 r1 ed
    have e := same_new (o := .tup [V.ty t1, V.ty t2]) htp
    have mvr : RdV X.K (ζ ++ ι1) (upd H1 tp (.tup [V.ty t1, V.ty t2])) x d := by
      cases r with
      | imm r => exact .imm (r.same s1.apA e)
      | lst h r => exact .lst (e _ _ h) (r.same s1.apA e)
      | dK h r => exact .dK (e _ _ h) (r.same s1.apA e)
      | dT h r => exact .dT (e _ _ h) (r.same s1.apA e)
    exact mvr.ty
  · exact k1.elim⟩
def isInt : D → Bool
  | .int _ => true
  | .bool _ => true
  | _ => false
def isBool : D → Bool
  | .bool _ => true
  | _ => false
def isTuple : D → Bool
  | .tuple _ => true
  | _ => false
def isList : D → Bool
  | .list _ => true
  | _ => false
def isStr : D → Bool
  | .str _ => true
  | _ => false
def isTL : D → Bool
  | .tuple _ => true
  | .list _ => true
  | _ => false
theorem hk_int (K : PySem.W.Frag) (d : D) : PySem.W.kitOne K (.type (dTy d)) (.type "int") = some (isInt d) := by cases d <;> rfl
theorem hk_bool (K : PySem.W.Frag) (d : D) : PySem.W.kitOne K (.type (dTy d)) (.type "bool") = some (isBool d) := by cases d <;> rfl
theorem hk_tuple (K : PySem.W.Frag) (d : D) : PySem.W.kitOne K (.type (dTy d)) (.type "tuple") = some (isTuple d) := by cases d <;> rfl
theorem hk_list (K : PySem.W.Frag) (d : D) : PySem.W.kitOne K (.type (dTy d)) (.type "list") = some (isList d) := by cases d <;> rfl
theorem hk_str (K : PySem.W.Frag) (d : D) : PySem.W.kitOne K (.type (dTy d)) (.type "str") = some (isStr d) := by cases d <;> rfl
theorem hk_tl (K : PySem.W.Frag) (d : D) : PySem.W.kitAny K (.type (dTy d)) [.type "tuple", .type "list"] = some (isTL d) := by cases d <;> rfl
theorem hk_lt (K : PySem.W.Frag) (d : D) : PySem.W.kitAny K (.type (dTy d)) [.type "list", .type "tuple"] = some (isTL d) := by cases d <;> rfl
/-! ### constants of the module -/
theorem ee_con {x : Str} {v : V} {u : Value} {d : D} (hm : X.mg x = some u) (r : RelV v u) (rp : ∀ (α : List Addr) (H : Hp), Rep X.K α H v d) (hg : Gl X x := by rfl) (hd : (x == ("__debug__" : Str)) = false := by decide) : EE X (.Name x pos) (eC d) :=
  ⟨fun W tk => ⟨_, pe_glob hg hm r hd, fun ζ ι ρ hs σ H Q er s k => k.here s (fun _ _ h => h) (.d (rp _ H))⟩⟩
/-- a tuple of integers that is only looked into -/
def eK (ns : List Int) : MV := fun _ h => .ok (.c ns) h
theorem ee_conK {x : Str} {a : Addr} {u : Value} {ns : List Int} (hm : X.mg x = some u) (r : RelV (.ref a) u) (rp : ∀ H : Hp, SqT X.K H a (ns.map V.int)) (hg : Gl X x := by rfl) (hd : (x == ("__debug__" : Str)) = false := by decide) : EE X (.Name x pos) (eK ns) :=
  ⟨fun W tk => ⟨_, pe_glob hg hm r hd, fun ζ ι ρ hs σ H Q er s k => k.here s (fun _ _ h => h) (.c rp)⟩⟩
/-! ### len -/
def eLen (fa : MV) : MV := fun ρ h => (fa ρ h).bind fun u h1 => match vS u h1 with
  | some (.list xs) => .ok (.d (.int xs.length)) h1
  | some (.tuple xs) => .ok (.d (.int xs.length)) h1
  | some (.str z) => if z.length ≤ sizeLine then .ok (.d (.int z.length)) h1 else .no
  | some (.dict kvs) => .ok (.d (.int kvs.length)) h1
  | _ => .no
theorem call_lenX : CallR X (.builtin "len") (fun xs H Q => (∃ p ys, xs = [.ref p] ∧ (SqL X.K H p ys ∨ SqT X.K H p ys) ∧ Q (.int ys.length) H) ∨ (∃ z, xs = [.str z] ∧ z.length ≤ sizeLine ∧ Q (.int z.length) H) ∨ rLenT xs H Q ∨ (∃ p kvs, xs = [.ref p] ∧ H p = some (.dK kvs) ∧ Q (.int kvs.length) H)) :=
  call_len_seq.or (call_len_str.or (call_len_dT.or call_lenD))
theorem ee_len {p : Pos} (hm : X.mg "len" = none) (ha : EE X a fa) (hg : Gl X "len" := by rfl) (he : starEach (a :: []) X.env = (false, eval a X.env) :: starEach [] X.env := by rfl) (hpl : (backTo pos (starEach [] X.env)).any (·.1) = false := by rfl) :
    EE X (.Call (.Name "len" p) [a] [] pos) (eLen fa) := ⟨fun W tk => by
  obtain ⟨ta, pa, qa⟩ := ha.run W tk
  refine ⟨_, pe_callB call_lenX hg hm PySem.boot_len (pa_cons pa pa_nil he) (by decide) (by decide) he hpl, fun ζ ι ρ hs σ H Q er s k => ?_⟩
  refine qa ζ ι ρ hs σ H _ er s (Kt.bind k fun u h1 x H1 ι1 e1 s1 r1 k1 => ?_)
  cases e : vS u h1 with
  | none => rw [e] at k1; exact k1.elim
  | some d =>
    rw [e] at k1
    rcases vS_ok s1 r1 e with ⟨p, xs, ds, rfl, rfl, hq, ra⟩ | ⟨n, r | ⟨p, xs, ds, rfl, rfl, hq, ra⟩⟩
    rotate_left 2
    · refine .inl ⟨p, xs, rfl, .inr hq, ?_⟩
      rw [ra.length]
      exact k1.here s1 (fun _ _ h => h) (.d (.int _))
    · refine .inl ⟨p, xs, rfl, .inl hq, ?_⟩
      rw [ra.length]
      exact k1.here s1 (fun _ _ h => h) (.d (.int _))
    · cases d with
      | list xs => exact absurd rfl (n _)
      | tuple xs =>
        obtain ⟨p, us, rfl, hp, ra, rt⟩ := r.tup
        refine .inl ⟨p, us, rfl, .inr hp, ?_⟩
        rw [ra.length]
        exact k1.here s1 (fun _ _ h => h) (.d (.int _))
      | str z =>
        simp only at k1
        split at k1
        · cases r.str
          exact .inr (.inl ⟨z, rfl, by assumption, k1.here s1 (fun _ _ h => h) (.d (.int _))⟩)
        · exact k1.elim
      | dict kvs =>
        have fin : ∀ {κ : Type} (ks : List (κ × V)) (f : κ × V → D) (ds : List D), kvs = (ks.map f).zip ds → ks.length = ds.length → (kvs.length : Int) = ks.length := fun ks f ds e hl => by
          rw [e, List.length_zip, List.length_map, hl, Nat.min_self]
        cases r with
        | imm r =>
          generalize hd : PyData.dict kvs = d at r
          cases r with
          | dK h _ ra =>
            injection hd with hd
            have := fin _ _ _ hd (by simpa using ra.length)
            refine .inr (.inr (.inr ⟨_, _, rfl, h, ?_⟩))
            rw [← this]
            exact k1.here s1 (fun _ _ h => h) (.d (.int _))
          | dT h _ ra =>
            injection hd with hd
            have := fin _ _ _ hd (by simpa using ra.length)
            refine .inr (.inr (.inl ⟨_, _, rfl, h, ?_⟩))
            rw [← this]
            exact k1.here s1 (fun _ _ h => h) (.d (.int _))
          | _ => cases hd
        | dK h ra =>
          have := fin _ _ _ rfl (by simpa using ra.length)
          refine .inr (.inr (.inr ⟨_, _, rfl, h, ?_⟩))
          rw [← this]
          exact k1.here s1 (fun _ _ h => h) (.d (.int _))
        | dT h ra =>
          have := fin _ _ _ rfl (by simpa using ra.length)
          refine .inr (.inr (.inl ⟨_, _, rfl, h, ?_⟩))
          rw [← this]
          exact k1.here s1 (fun _ _ h => h) (.d (.int _))
      | none => exact k1.elim
      | bool _ => exact k1.elim
      | int _ => exact k1.elim⟩
/-! ### comprehensions, by their two kinds; stored on one line -/
variable {elt tg iter : Expr} {ifs : List Expr} {scope : Scope} {own : List (Str × Nat)} {ws : List Nat} {fi : MI} {gt : MG} {ft : Env → Hs → R Bool} {fe : MV}
theorem ee_lc {k : Nat} (own : List (Str × Nat)) (C : Cn X k) (hi : EI X tg iter fi) (ok : blkC X.N X.env.scope scope own = true)
    (hg : ∀ (s : Shared) (H : Hp) (C : Addr) (cl : List (Str × Addr)) (fp : List Addr), EG (X.blk s H scope (compEnvC scope cl C X.env) fp) tg ws gt)
    (ht : ∀ (s : Shared) (H : Hp) (Ca : Addr) (cl : List (Str × Addr)) (fp : List Addr), Cn (X.blk s H scope (compEnvC scope cl Ca X.env) fp) k → ETs (X.blk s H scope (compEnvC scope cl Ca X.env) fp) ifs ft)
    (he : ∀ (s : Shared) (H : Hp) (Ca : Addr) (cl : List (Str × Addr)) (fp : List Addr), Cn (X.blk s H scope (compEnvC scope cl Ca X.env) fp) k → EE (X.blk s H scope (compEnvC scope cl Ca X.env) fp) elt fe) (hv : ∀ i ∈ ws, i ∈ own.map (·.2) := by decide) (hs : ∀ x, foldedSetIterable iter X.env x = pure x := by intro _; rfl) :
    EE X (.ListComp elt [⟨tg, iter, ifs, 0⟩] scope pos) (eLc (own.map (·.2)) fi gt ft fe) :=
  ee_lc0 false C hi (blkOk_by ok) hv hg (fun s H Ca cl fp => ht s H Ca cl fp ⟨C.calm, C.nd, C.room, PassesOwn.never⟩) (fun s H Ca cl fp => he s H Ca cl fp ⟨C.calm, C.nd, C.room, PassesOwn.never⟩) hs
theorem ee_lcM {k : Nat} (own : List (Str × Nat)) (C : Cn X k) (hi : EI X tg iter fi) (ok : blkC X.N X.env.scope scope own = true)
    (hg : ∀ (s : Shared) (H : Hp) (C : Addr) (cl : List (Str × Addr)) (fp : List Addr), EG (X.blk s H scope (compEnvC scope cl C X.env) fp) tg ws gt)
    (ht : ∀ (s : Shared) (H : Hp) (Ca : Addr) (cl : List (Str × Addr)) (fp : List Addr), Cn (X.blk s H scope (compEnvC scope cl Ca X.env) fp) k → ETs (X.blk s H scope (compEnvC scope cl Ca X.env) fp) ifs ft)
    (he : ∀ (s : Shared) (H : Hp) (Ca : Addr) (cl : List (Str × Addr)) (fp : List Addr), Cn (X.blk s H scope (compEnvC scope cl Ca X.env) fp) k → EE (X.blk s H scope (compEnvC scope cl Ca X.env) fp) elt fe) (hv : ∀ i ∈ ws, i ∈ own.map (·.2) := by decide) (hs : ∀ x, foldedSetIterable iter X.env x = pure x := by intro _; rfl) :
    EE X (.ListComp elt [⟨tg, iter, ifs, 0⟩] scope pos) (eLcM (own.map (·.2)) fi gt ft fe) :=
  ee_lc0 true C hi (blkOk_by ok) hv hg (fun s H Ca cl fp => ht s H Ca cl fp ⟨C.calm, C.nd, C.room, PassesOwn.never⟩) (fun s H Ca cl fp => he s H Ca cl fp ⟨C.calm, C.nd, C.room, PassesOwn.never⟩) hs
theorem ss_lc0 {k i : Nat} {y : Str} {py spos : Pos} (m : Bool) (C : Cn X k) (hi : EI X tg iter fi) (ok : BlkOk X.N X.env.scope scope own) (hv : ∀ i ∈ ws, i ∈ own.map (·.2)) (hy : X.N[i]? = some y) (hyl : X.env.scope.names.lookup y = some .local)
    (hsw : swapsWith (.ListComp elt [⟨tg, iter, ifs, 0⟩] scope pos) (some (.Name y py)) spos.line X.env = pure true)
    (hg : ∀ (s : Shared) (H : Hp) (C : Addr) (cl : List (Str × Addr)) (fp : List Addr), EG (X.blk s H scope (compEnvC scope cl C X.env) fp) tg ws gt)
    (ht : ∀ (s : Shared) (H : Hp) (C : Addr) (cl : List (Str × Addr)) (fp : List Addr), ETs (X.blk s H scope (compEnvC scope cl C X.env) fp) ifs ft)
    (he : ∀ (s : Shared) (H : Hp) (C : Addr) (cl : List (Str × Addr)) (fp : List Addr), EE (X.blk s H scope (compEnvC scope cl C X.env) fp) elt fe) (hs : ∀ x, foldedSetIterable iter X.env x = pure x) :
    SS X (.Assign [.Name y py] (.ListComp elt [⟨tg, iter, ifs, 0⟩] scope pos) spos) (sSet i (if m = true then eLcM (own.map (·.2)) fi gt ft fe else eLc (own.map (·.2)) fi gt ft fe)) := ⟨fun W tk =>
  ⟨_, ps_setLc C.calm C.nd hy hyl hsw (hi.can tk) ok (fun s H C cl fp => (hg s H C cl fp).can) (fun s H C cl fp => (ht s H C cl fp).run W0 takes0) (fun s H C cl fp => (he s H C cl fp).can takes0) hs,
    fun ζ ι ρ hs σ H D er s k => lc_reads hv er s (Ks.bind k er s fun u h1 x H1 ι1 e1 s1 r1 k1 => k1.nx s1 ((er.mv s e1).set r1 i))⟩⟩
theorem ss_lc {k : Nat} (i : Nat) (own : List (Str × Nat)) {y : Str} {py spos : Pos} (C : Cn X k) (hi : EI X tg iter fi) (ok : blkC X.N X.env.scope scope own = true)
    (hg : ∀ (s : Shared) (H : Hp) (C : Addr) (cl : List (Str × Addr)) (fp : List Addr), EG (X.blk s H scope (compEnvC scope cl C X.env) fp) tg ws gt)
    (ht : ∀ (s : Shared) (H : Hp) (Ca : Addr) (cl : List (Str × Addr)) (fp : List Addr), Cn (X.blk s H scope (compEnvC scope cl Ca X.env) fp) k → ETs (X.blk s H scope (compEnvC scope cl Ca X.env) fp) ifs ft)
    (he : ∀ (s : Shared) (H : Hp) (Ca : Addr) (cl : List (Str × Addr)) (fp : List Addr), Cn (X.blk s H scope (compEnvC scope cl Ca X.env) fp) k → EE (X.blk s H scope (compEnvC scope cl Ca X.env) fp) elt fe) (hy : X.N[i]? = some y := by rfl) (hyl : X.env.scope.names.lookup y = some .local := by rfl)
    (hsw : swapsWith (.ListComp elt [⟨tg, iter, ifs, 0⟩] scope pos) (some (.Name y py)) spos.line X.env = pure true := by exact sw_true rfl rfl rfl (by decide +kernel)) (hv : ∀ i ∈ ws, i ∈ own.map (·.2) := by decide) (hs : ∀ x, foldedSetIterable iter X.env x = pure x := by intro _; rfl) :
    SS X (.Assign [.Name y py] (.ListComp elt [⟨tg, iter, ifs, 0⟩] scope pos) spos) (sSet i (eLc (own.map (·.2)) fi gt ft fe)) :=
  ss_lc0 false C hi (blkOk_by ok) hv hy hyl hsw hg (fun s H Ca cl fp => ht s H Ca cl fp ⟨C.calm, C.nd, C.room, PassesOwn.never⟩) (fun s H Ca cl fp => he s H Ca cl fp ⟨C.calm, C.nd, C.room, PassesOwn.never⟩) hs
theorem ss_lcM {k : Nat} (i : Nat) (own : List (Str × Nat)) {y : Str} {py spos : Pos} (C : Cn X k) (hi : EI X tg iter fi) (ok : blkC X.N X.env.scope scope own = true)
    (hg : ∀ (s : Shared) (H : Hp) (C : Addr) (cl : List (Str × Addr)) (fp : List Addr), EG (X.blk s H scope (compEnvC scope cl C X.env) fp) tg ws gt)
    (ht : ∀ (s : Shared) (H : Hp) (Ca : Addr) (cl : List (Str × Addr)) (fp : List Addr), Cn (X.blk s H scope (compEnvC scope cl Ca X.env) fp) k → ETs (X.blk s H scope (compEnvC scope cl Ca X.env) fp) ifs ft)
    (he : ∀ (s : Shared) (H : Hp) (Ca : Addr) (cl : List (Str × Addr)) (fp : List Addr), Cn (X.blk s H scope (compEnvC scope cl Ca X.env) fp) k → EE (X.blk s H scope (compEnvC scope cl Ca X.env) fp) elt fe) (hy : X.N[i]? = some y := by rfl) (hyl : X.env.scope.names.lookup y = some .local := by rfl)
    (hsw : swapsWith (.ListComp elt [⟨tg, iter, ifs, 0⟩] scope pos) (some (.Name y py)) spos.line X.env = pure true := by exact sw_true rfl rfl rfl (by decide +kernel)) (hv : ∀ i ∈ ws, i ∈ own.map (·.2) := by decide) (hs : ∀ x, foldedSetIterable iter X.env x = pure x := by intro _; rfl) :
    SS X (.Assign [.Name y py] (.ListComp elt [⟨tg, iter, ifs, 0⟩] scope pos) spos) (sSet i (eLcM (own.map (·.2)) fi gt ft fe)) :=
  ss_lc0 true C hi (blkOk_by ok) hv hy hyl hsw hg (fun s H Ca cl fp => ht s H Ca cl fp ⟨C.calm, C.nd, C.room, PassesOwn.never⟩) (fun s H Ca cl fp => he s H Ca cl fp ⟨C.calm, C.nd, C.room, PassesOwn.never⟩) hs

/-! ### several names at once -/
theorem ss_par3 {x y z : Str} {a b c : Expr} {fs : Env → Hs → R (List Val)} {px py pz pt spos : Pos} {kt k2 : Nat} {pt2 : Pos} (i j l : Nat) (hc : X.calm = true) (hN : X.N.Nodup) (ha : EA X [a, b, c] fs) (hi : X.N[i]? = some x := by rfl) (hj : X.N[j]? = some y := by rfl) (hl : X.N[l]? = some z := by rfl)
    (hij : i ≠ j := by decide) (hil : i ≠ l := by decide) (hjl : j ≠ l := by decide)
    (hx : X.env.scope.names.lookup x = some .local := by rfl) (hy : X.env.scope.names.lookup y = some .local := by rfl) (hz : X.env.scope.names.lookup z = some .local := by rfl)
    (hw : swappedStores [.Tuple [.Name x px, .Name y py, .Name z pz] kt pt] (.Tuple [a, b, c] k2 pt2) X.env = pure (some [x, y, z]) := by rfl)
    (hs : swapsWithSole [.Tuple [.Name x px, .Name y py, .Name z pz] kt pt] (.Tuple [a, b, c] k2 pt2) spos.line X.env = pure false := by rfl) :
    SS X (.Assign [.Tuple [.Name x px, .Name y py, .Name z pz] kt pt] (.Tuple [a, b, c] k2 pt2) spos) (sParN [i, j, l] fs) := ⟨fun W tk => by
  obtain ⟨t, p, q⟩ := ha.run W tk
  refine ⟨_, ps_par3 hc hN hi hj hl hij hil hjl hx hy hz p hw hs, fun ζ ι ρ hs σ H D er s k => q ζ ι ρ hs σ H _ er s (Ks.bind k er s fun us h1 xs H1 ι1 e1 s1 r1 k1 => ?_)⟩
  cases r1 with
  | nil => exact k1.elim
  | cons r1 rr => cases rr with
    | nil => exact k1.elim
    | cons r2 rr => cases rr with
      | nil => exact k1.elim
      | cons r3 rr => cases rr with
        | cons _ _ => simp only [List.length_cons] at k1; rw [if_neg (by simp)] at k1; exact k1.elim
        | nil => exact ⟨_, _, _, rfl, (show Ks X.K ζ ι1 H1 (.nx (((ρ.set i (some _)).set j (some _)).set l (some _)) h1) D W from k1).nx s1 ((((er.mv s e1).set r1 i).set r2 j).set r3 l)⟩⟩
def setAllV : L2.St → List Nat → List V → L2.St
  | σ, i :: is, u :: us => setAllV (σ.set i (some u)) is us
  | σ, _, _ => σ
/-- names alone as targets -/
structure NG (X : Cx) (ts : List Expr) (is : List Nat) : Prop where
  ex : ∃ t, PGs X ts t ∧ ∀ (vs : List V) (σ : L2.St) (H : Hp) (Q : L2.St → Hp → Prop), vs.length = is.length → Q (setAllV σ is vs) H → t vs σ H Q
theorem ng_nil : NG X [] [] := ⟨⟨_, pgs_nil, fun vs σ H Q hl q => by
  cases vs with
  | nil => exact ⟨rfl, q⟩
  | cons _ _ => cases hl⟩⟩
theorem ng_cons {x : Str} {p : Pos} {ts : List Expr} {is : List Nat} (i : Nat) (hN : X.N.Nodup) (h : NG X ts is) (hi : X.N[i]? = some x := by rfl) (hx : Loc X.env.scope x := by first | exact Or.inl rfl | exact Or.inr rfl) (hf : X.fn x = true ∨ X.env.scope.names.lookup x = some .local := by first | exact .inl rfl | exact .inr rfl | assumption)
    (hs : (assignEach (.Name x p :: ts) X.env).map (·.2) = assign (.Name x p) X.env :: (assignEach ts X.env).map (·.2) := by rfl) : NG X (.Name x p :: ts) (i :: is) := ⟨by
  obtain ⟨t, pg, q⟩ := h.ex
  refine ⟨_, pgs_cons (pg_name hN hi hx hf) pg hs, fun vs σ H Q hl qq => ?_⟩
  cases vs with
  | nil => cases hl
  | cons v vs => exact ⟨v, vs, rfl, q vs _ H Q (by simpa using hl) qq⟩⟩
theorem ERep.setAll {K : PySem.W.Frag} {ζ ι : List Addr} {H : Hp} : ∀ {is : List Nat} {vs : List V} {us : List Val} {σ : L2.St} {ρ : Env}, ERep K ζ ι H σ ρ → VRepAll K ζ ι H vs us → ERep K ζ ι H (setAllV σ is vs) (setAll ρ is us)
  | [], _, _, _, _, er, r => by cases r <;> exact er
  | i :: is, _, _, _, _, er, .nil => er
  | i :: is, _, _, _, _, er, .cons r t => ERep.setAll (is := is) (er.set r i) t
theorem ss_parT {es ts : List Expr} {is : List Nat} {fs : Env → Hs → R (List Val)} {kt k2 : Nat} {pt pt2 spos : Pos} (hc : X.calm = true) (ha : EA X es fs) (hn : NG X ts is) (hsm : is.length ≤ sizeLine := by decide)
    (hlen : (assignEach ts X.env).length = is.length := by rfl) (hst : (assignEach ts X.env).findIdx? (·.1) = none := by rfl)
    (hs : swapsWithSole [.Tuple ts kt pt] (.Tuple es k2 pt2) spos.line X.env = pure false := by rfl) (hw : swappedStores [.Tuple ts kt pt] (.Tuple es k2 pt2) X.env = pure none := by rfl) (hh : (assignEach [.Tuple ts kt pt] X.env).map (·.2) = [assign (.Tuple ts kt pt) X.env] := by rfl) :
    SS X (.Assign [.Tuple ts kt pt] (.Tuple es k2 pt2) spos) (sParN is fs) := ⟨fun W tk => by
  obtain ⟨t, p, q⟩ := ha.run W tk
  obtain ⟨tg, pg, qg⟩ := hn.ex
  refine ⟨_, ps_asg (pe_tup p) (pg_tup hc pg hlen hst) hs hw hh, fun ζ ι ρ hs σ H D er s k => q ζ ι ρ hs σ H _ er s (Ks.bind k er s fun us h1 xs H1 ι1 e1 s1 r1 k1 => ?_)⟩
  split at k1
  · rename_i hl
    have hl2 : xs.length = is.length := r1.length.trans hl
    refine ⟨by rw [hl2]; exact hsm, fun pp hp => ⟨pp, xs, rfl, SqT.of upd_same, hl2, qg xs _ _ _ hl2 ?_⟩⟩
    have sm := same_new (o := .tup xs) hp
    have ex := Ext.of_same (ι := ι1) sm
    exact (k1.mv ex).nx (s1.same sm) (((er.mv s e1).mv s1 ex).setAll (r1.mv s1 ex))
  · exact k1.elim⟩
theorem gT_ok (gs : List D → Env → Hs → R Env) (h : ∀ ds ρ hs, ∃ ρ' h', gs ds ρ hs = .ok ρ' h' ∨ gs ds ρ hs = .no) (u : Val) (ρ : Env) (hs : Hs) : ∃ ρ' h', gT gs u ρ hs = .ok ρ' h' ∨ gT gs u ρ hs = .no := by
  have no : ∃ (ρ' : Env) (h' : Hs), (R.no : R Env) = .ok ρ' h' ∨ (R.no : R Env) = .no := ⟨[], [], .inr rfl⟩
  cases u with
  | d x => cases x with
    | tuple ds => exact h _ _ _
    | list ds => exact h _ _ _
    | _ => exact no
  | r i =>
    show ∃ ρ' h', (match hs[i]? with
      | some (.lst ds) => gs ds ρ hs
      | _ => R.no) = .ok ρ' h' ∨ (match hs[i]? with
      | some (.lst ds) => gs ds ρ hs
      | _ => R.no) = .no
    cases hs[i]? with
    | none => exact no
    | some m => cases m with
      | lst ds => exact h _ _ _
      | dic _ _ => exact no
  | _ => exact no
theorem gsNil_ok (ds : List D) (ρ : Env) (hs : Hs) : ∃ ρ' h', gsNil ds ρ hs = .ok ρ' h' ∨ gsNil ds ρ hs = .no := by
  cases ds with
  | nil => exact ⟨ρ, hs, .inl rfl⟩
  | cons _ _ => exact ⟨ρ, hs, .inr rfl⟩
theorem gsCons_ok {g : MG} {gs : List D → Env → Hs → R Env} (h1 : ∀ u ρ hs, ∃ ρ' h', g u ρ hs = .ok ρ' h' ∨ g u ρ hs = .no) (h2 : ∀ ds ρ hs, ∃ ρ' h', gs ds ρ hs = .ok ρ' h' ∨ gs ds ρ hs = .no) (ds : List D) (ρ : Env) (hs : Hs) : ∃ ρ' h', gsCons g gs ds ρ hs = .ok ρ' h' ∨ gsCons g gs ds ρ hs = .no := by
  cases ds with
  | nil => exact ⟨ρ, hs, .inr rfl⟩
  | cons d ds =>
    show ∃ ρ' h', (g (.d d) ρ hs).bind _ = _ ∨ (g (.d d) ρ hs).bind _ = _
    obtain ⟨ρ1, h1', e | e⟩ := h1 (.d d) ρ hs
    · rw [e]; exact h2 ds ρ1 h1'
    · rw [e]; exact ⟨ρ, hs, .inr rfl⟩
/-! ### a list of the store made by a built-in -/
def eCallM (g : D → Option (List D)) (fas : Env → Hs → R (List Val)) : MV := fun ρ h => (fas ρ h).bind fun us h1 => match vDs us h1 with
  | some [d] => (match g d with
    | some ds => .ok (.r h1.length) (h1 ++ [.lst ds])
    | none => .no)
  | _ => .no
def dListM : D → Option (List D)
  | .list xs => some xs
  | .tuple xs => some xs
  | _ => none
theorem ee_listM {p : Pos} {fas : Env → Hs → R (List Val)} (hm : X.mg "list" = none) (ha : EA X [a] fas) (hg : Gl X "list" := by rfl) (he : starEach (a :: []) X.env = (false, eval a X.env) :: starEach [] X.env := by rfl) (hpl : (backTo pos (starEach [] X.env)).any (·.1) = false := by rfl) :
    EE X (.Call (.Name "list" p) [a] [] pos) (eCallM dListM fas) := ⟨fun W tk => by
  obtain ⟨ta, pa, qa⟩ := ha.run W tk
  refine ⟨_, pe_callTy call_list_of hg hm (by decide +kernel) pa (by decide) (by decide) he hpl, fun ζ ι ρ hs σ H Q er s k => ?_⟩
  refine qa ζ ι ρ hs σ H _ er s (Kt.bind k fun us h1 xs H1 ι1 e1 s1 r1 k1 => ?_)
  split at k1
  · rename_i d ed
    obtain ⟨v, rfl, r⟩ := (vDs_ok s1 r1 ed).one
    have fin : ∀ (ds : List D) (ys : List V) (l : Addr), H1 l = none → RepAll X.K (ζ ++ ι1) H1 ys ds → Kt X.K ζ (VRep X.K ζ) ι1 H1 (.ok (.r h1.length) (h1 ++ [.lst ds])) Q (WE W σ) → Q (.ref l) (upd H1 l (.lst ys)) := fun ds ys l hl ra kk => by
      have ex0 : Ext ι1 H1 (ι1 ++ [l]) (upd H1 l (.lst ys)) := ⟨List.prefix_append _ _, fun a m n => by
        rcases List.mem_append.mp m with m | m
        · exact absurd m n
        · have e : a = l := by simpa using m
          rw [e]; exact hl, fun a u h _ => same_new hl a u h⟩
      obtain ⟨s2, ex⟩ := s1.push hl (m := .lst ds) (.lst upd_same (ra.mv (s1.mv ex0)))
      refine kk _ _ _ ex s2 (.r ?_)
      rw [← s1.len, List.getElem?_append_right (Nat.le_refl _), Nat.sub_self]
      rfl
    cases d with
    | list xs =>
      obtain ⟨p, us, rfl, hp, ra⟩ := r.list
      exact ⟨p, us, rfl, .inl (.of hp), fun l hl => fin xs us l hl ra k1⟩
    | tuple xs =>
      obtain ⟨p, us, rfl, hp, ra, _⟩ := r.tup
      exact ⟨p, us, rfl, .inr hp, fun l hl => fin xs us l hl ra k1⟩
    | _ => exact k1.elim
  · exact k1.elim⟩
end
/-! ### an operator's new list that will be changed: a new place of the store -/
def OpMD (X : Cx) (r : R2) (g : D → D → Option (List D)) : Prop := ∀ (α : List Addr) (H : Hp) (x y : V) (a b : D) (ds : List D) (Q : VK), Ap α H → RdV X.K α H x a → RdV X.K α H y b → g a b = some ds → (∀ p xs, H p = none → RepAll X.K α H xs ds → Q (.ref p) (upd H p (.lst xs))) → r x y H Q
def eOpM (g : D → D → Option (List D)) (fa fb : MV) : MV := fun ρ h => (fa ρ h).bind fun u h1 => (fb ρ h1).bind fun v h2 => match vD u h2, vD v h2 with
  | some a, some b => (match g a b with
    | some ds => .ok (.r h2.length) (h2 ++ [.lst ds])
    | none => .no)
  | _, _ => .no
def dMulM : D → D → Option (List D)
  | .list xs, .int k => if k.natAbs.log2 < 63 ∧ xs.length * k.toNat ≤ sizeLine then some (List.replicate k.toNat xs).flatten else none
  | _, _ => none
def dAddM : D → D → Option (List D)
  | .list xs, .list ys => if xs.length + ys.length ≤ sizeLine then some (xs ++ ys) else none
  | _, _ => none
section
variable {X : Cx} {pos : Pos}
theorem odm_mul : OpMD X rRep dMulM := by
  intro α H x y a b ds Q ap rx ry e k
  unfold dMulM at e
  split at e
  · split at e
    · rename_i hl
      cases e
      obtain ⟨p, us, rfl, hp, ra⟩ := rx.list
      cases ry.int
      have hb := log2_lt hl.1
      exact ⟨p, _, us, rfl, rfl, hp, by omega, by omega, by rw [ra.length]; exact hl.2, fun r hr => k _ _ hr (ra.rep _)⟩
    · cases e
  · cases e
theorem odm_add : OpMD X rCat dAddM := by
  intro α H x y a b ds Q ap rx ry e k
  unfold dAddM at e
  split at e
  · split at e
    · rename_i hl
      cases e
      obtain ⟨p, us, rfl, hp, ra⟩ := rx.list
      obtain ⟨q, vs, rfl, hq, rb⟩ := ry.list
      exact ⟨p, q, us, vs, rfl, rfl, hp, hq, by rw [ra.length, rb.length]; exact hl, fun r hr => k _ _ hr (ra.app rb)⟩
    · cases e
  · cases e
theorem ee_opM {a b : Expr} {fa fb : MV} {op : Operator} {r : R2} {g : D → D → Option (List D)} (ho : OpR X (binaryOp op) r) (hd : OpMD X r g) (ha : EE X a fa) (hb : EE X b fb) : EE X (.BinOp a op b pos) (eOpM g fa fb) := ⟨fun W tk => by
  obtain ⟨ta, pa, qa⟩ := ha.run W tk
  obtain ⟨tb, pb, qb⟩ := hb.run W tk
  refine ⟨_, pe_op ho pa pb, fun ζ ι ρ hs σ H Q er s k => ?_⟩
  refine qa ζ ι ρ hs σ H _ er s (Kt.bind k fun u h1 x H1 ι1 e1 s1 r1 k1 => ?_)
  refine qb ζ ι1 ρ h1 σ H1 _ (er.mv s e1) s1 (Kt.bind k1 fun v h2 y H2 ι2 e2 s2 r2 k2 => ?_)
  split at k2
  · rename_i da db ea eb
    split at k2
    · rename_i ds eg
      refine hd _ H2 x y da db ds Q s2.apA (vD_ok s2 (r1.mv s1 e2) ea) (vD_ok s2 r2 eb) eg fun q xs hq rp => ?_
      have ex0 : Ext ι2 H2 (ι2 ++ [q]) (upd H2 q (.lst xs)) := ⟨List.prefix_append _ _, fun a m n => by
        rcases List.mem_append.mp m with m | m
        · exact absurd m n
        · have e : a = q := by simpa using m
          rw [e]; exact hq, fun a u h _ => same_new hq a u h⟩
      obtain ⟨s3, ex⟩ := s2.push hq (m := .lst ds) (.lst upd_same (rp.mv (s2.mv ex0)))
      refine k2 _ _ _ ex s3 (.r ?_)
      rw [← s2.len, List.getElem?_append_right (Nat.le_refl _), Nat.sub_self]
      rfl
    · exact k2.elim
  · exact k2.elim⟩
end
end DL

set_option Elab.async false
set_option linter.all false
set_option maxRecDepth 100000
set_option maxHeartbeats 1000000
namespace DL
open PySem PySem.Spec PyProof.Rows L2

theorem units65 {k : Nat} {A : Around} (r : Room k A) : A.units + 65 < cLine := by have := r.un; omega
theorem units1 {k : Nat} {A : Around} (r : Room k A) : A.units + 1 < cLine := by have := r.un; omega
abbrev gGcd : List D → Option D := d2 (dInt2 fun i j => some (.int ((Nat.gcd i.natAbs j.natAbs : Nat) : Int)))
abbrev gMax2 : D → D → Option D := dInt2 fun i j => some (.int (if j > i then j else i))
abbrev gMin2 : D → D → Option D := dInt2 fun i j => some (.int (if j < i then j else i))
/-! ### exceptions: the classes -/
/-- what the written part says of an exception's class (its base's chain ends in ValueError's) -/
def excB (K : PySem.W.Frag) (C : Addr) : Bool := match K.lookup C with
  | some ⟨.type "type", _, .cls cd, sl⟩ => (match cd.mro, sl.toList with
    | .ref C' :: bm, [_, _, _, _, some (.builtin n), _] => C' == C && n == "ValueError.__new__" && !cd.hasDel && cd.hasDict && PySem.HandSPX.refsVE bm
    | _, _ => false)
  | _ => false
theorem excB_ok {K : PySem.W.Frag} {C : Addr} (q : excB K C = true) : ∃ nm q N bs bm sn sub ab col dd k0 k1 k2 k3 k5, K.lookup C = some (excClassObj nm q C N bs bm true sn sub ab col dd k0 k1 k2 k3 k5 "ValueError.__new__") ∧ PySem.HandSPX.refsVE bm = true := by
  unfold excB at q
  split at q
  · rename_i dd cd sl ho
    split at q
    · rename_i C' bm k0 k1 k2 k3 n k5 hm hs
      simp only [Bool.and_eq_true, beq_iff_eq, Bool.not_eq_true'] at q
      obtain ⟨⟨⟨⟨rfl, rfl⟩, hdel⟩, hd⟩, ht⟩ := q
      obtain ⟨nm, bs, mro, ns, qn, hdd, sn, sub, ab, col, del⟩ := cd
      dsimp only at hm hdel hd
      subst hm hdel hd
      have hsl : sl = #[k0, k1, k2, k3, some (.builtin "ValueError.__new__"), k5] := by
        obtain ⟨l⟩ := sl
        simp only at hs
        rw [hs]
      subst hsl
      exact ⟨nm, qn, ns, bs, bm, sn, sub, ab, col, dd, k0, k1, k2, k3, k5, ho, ht⟩
    · cases q
  · cases q
/-- one class: it is as excB says, its __init__ is that of the class b -/
structure XC (K : PySem.W.Frag) (mg : Str → Option Value) (c : Str) (fI : Addr) : Prop where
  T : OexC K (He.ga K c)
  iC : PySem.W.findIn K (.ref (He.ga K c)) "__init__" = some (some (.ref fI))
  tI : PySem.W.typeIn K (.ref fI) = some (.type "function")
  noV : PySem.W.findIn K (.ref (He.ga K c)) "value" = some none
  gC : mg c = some (.ref (He.ga K c))
def xcB (K : PySem.W.Frag) (b c : Str) : Bool := excB K (He.ga K c) && (decide (PySem.W.findIn K (.ref (He.ga K c)) "__setattr__" = some (some (.builtin "object.__setattr__"))) && (decide (PySem.W.subIn K (.ref (He.ga K c)) (.type "BaseException") = some true) &&
  (decide (PySem.W.typeIn K (.ref (He.ga K c)) = some (.type "type")) && (PySem.W.keepIn K (.ref (He.ga K c)) && (decide (PySem.W.findIn K (.ref (He.ga K c)) "__init__" = some (some (.ref (He.ma K (He.ga K b) "__init__")))) &&
  (decide (PySem.W.typeIn K (.ref (He.ma K (He.ga K b) "__init__")) = some (.type "function")) && (decide (PySem.W.findIn K (.ref (He.ga K c)) "value" = some none) && decide (PySem.W.nsIn K mainGlobals c = some (some (.ref (He.ga K c)))))))))))
theorem xcB_ok {K : PySem.W.Frag} {h : Heap} {mg : Str → Option Value} (X : K.In h) (G : h.Ns mainGlobals mg) {b c : Str} (q : xcB K b c = true) : XC K mg c (He.ma K (He.ga K b) "__init__") := by
  unfold xcB at q
  simp only [Bool.and_eq_true, decide_eq_true_eq] at q
  obtain ⟨q1, q2, q3, q4, q5, q6, q7, q8, q9⟩ := q
  exact ⟨⟨excB_ok q1, q2, q3, q4, q5⟩, q6, q7, q8, PySem.W.mg_of X G q9⟩
/-- __init__(self, value) of such a class: ValueError's, then self.value = value -/
def spInit (K : PySem.W.Frag) : Sp := fun vs H Q _ => ∃ (a C : Addr) (v : V), vs = [.ref a, v] ∧ OexC K C ∧ PySem.W.findIn K (.ref C) "value" = some none ∧ H a = some (exo a C none) ∧
  ∀ dx, H dx = none → dx ≠ a → Q .non (upd (upd H dx (exd dx [(("value" : Str), v)])) a (exo a C (some dx)))
structure InitF (P : Program) (w : World) (K : PySem.W.Frag) (mg : Str → Option Value) (base : Heap) (fI : Addr) (k : Nat) : Prop where
  ex : ∃ fd, Binds K fd ["self", "value"] [] ∧ FnOk P w K mg base (L2.CX P w) k fI fd ["self", "value"] (spInit K)
theorem init_mk {P : Program} {w : World} {K : PySem.W.Frag} {mg : Str → Option Value} {base : Heap} {pa : Arguments} {sc : Scope} {fI : Addr} {fd : FuncData} {qn : Str} {bd : List Stmt}
    (F : FunD K "__init__" qn pa bd sc [] [] fI fd) (S : FnScope ["self", "value"] ["self", "value"] sc) (hb : Binds K fd ["self", "value"] [])
    (body : ∀ (cdv : Value) (A : Around) (outer : List PySem.Env) (s : Shared) (H : Hp) (E : XK), PSs (cxOf (L2.CX P w) P w K mg base ["self", "value"] qn sc fI cdv A outer s H E) bd
      (tSeq (tDrop (tVeI K (tCons (tVar 0) (tCons (tVar 1) tNil)))) (tOst K "value" (tVar 0) (tVar 1)))) : InitF P w K mg base fI 1 := by
  refine ⟨fd, hb, F.ok S (fun vs H Q E h => ?_) (fun cdv A outer s H vs Q E hr h => ⟨_, body cdv A outer s H E, ?_⟩)⟩
  · obtain ⟨a, C, v, rfl, _⟩ := h
    rfl
  · obtain ⟨a, C, v, rfl, T, hno, ha, q⟩ := h
    refine ⟨_, rfl, _, rfl, a, C, [v], rfl, by simp, T, ha, ?_⟩
    refine ⟨_, rfl, _, rfl, a, C, rfl, T, hno, .inl ⟨ha, fun dx n ne => q dx n ne⟩⟩
/-! ### raise C(e) -/
def sRaise (c : Str) (f : MV) : MS := fun ρ h => (f ρ h).bindS ρ fun u h1 => match u with
  | .d x => .ex c x ρ h1
  | _ => .no
section
variable {X : Cx} {e : Expr} {f : MV} {c : Str} {fI : Addr} {k j : Nat} {p pos pos2 : Pos}
theorem ss_raise (XCc : XC X.K X.mg c fI) (FI : InitF X.prog X.w X.K X.mg X.base fI k) (C : Cn X j) (he : EE X e f) (hk : k + 1 ≤ j := by decide) (hg : Gl X c := by rfl) (hdb : (c == ("__debug__" : Str)) = false := by decide)
    (hs : starEach (e :: []) X.env = (false, eval e X.env) :: starEach [] X.env := by rfl) (hpl : (backTo pos (starEach [] X.env)).any (·.1) = false := by rfl) :
    SS X (.Raise (some (.Call (.Name c p) [e] [] pos)) none pos2) (sRaise c f) := ⟨fun W tk => by
  obtain ⟨te, pe, qe⟩ := he.run W tk
  obtain ⟨fd, hb, F1⟩ := FI.ex
  have hx : Passes (L2.CX X.prog X.w) X (fun _ _ _ => False) := passL
  refine ⟨_, ps_raise C.calm tk (pmk_oex XCc.T XCc.iC XCc.tI F1 (C.room.mono hk) hb .nil hx hg XCc.gC (pa_cons pe pa_nil hs) hdb hs hpl), fun ζ ι ρ hs σ H D er s k => ?_⟩
  refine qe ζ ι ρ hs σ H _ er s (Ks.bind k er s fun u h1 x H1 ι1 e1 s1 r1 k1 => ?_)
  cases r1 with
  | d r =>
    refine ⟨by simp, fun a ha => ⟨a, _, x, rfl, XCc.T, XCc.noV, upd_same, fun dx hd ne => ⟨rfl, dx, [(("value" : Str), x)], upd_same, ?_, ?_, ?_⟩⟩⟩
    · rw [upd_ne ne]; exact upd_same
    · rw [upd_ne ne] at hd; exact hd
    · have hd1 : H1 dx = none := by rw [upd_ne ne] at hd; exact hd
      have sm : Same H1 (upd (del (upd (upd (upd H1 a (exo a (He.ga X.K c) none)) dx (exd dx [(("value" : Str), x)])) a (exo a (He.ga X.K c) (some dx))) a) dx (.xd [(("value" : Str), x)])) := fun b o hb => by
        have n1 : b ≠ a := ne_of_none hb ha
        have n2 : b ≠ dx := ne_of_none hb hd1
        rw [upd_ne n2, del_ne n1, upd_ne n1, upd_ne n2, upd_ne n1]
        exact hb
      exact k1 _ _ σ _ ι1 (Ext.of_same sm) (s1.same sm) ((er.mv s e1).mv s1 (Ext.of_same sm)) ⟨rfl, dx, x, rfl, upd_same, r.same s1.apA sm⟩
  | r h => exact k1.elim
  | x _ _ _ => exact k1.elim
  | s _ => exact k1.elim
  | c _ => exact k1.elim
  | t _ _ => exact k1.elim⟩
end
/-! ### the head's facts -/
inductive Fc where
  | he (f : He.Fa)
  /-- a tuple of ints -/
  | con (x : Str) (ns : List Int)
  | bfun (x : Str) (id : String)
  | exc (b c : Str)
  | vei
def Fc.ok (K : PySem.W.Frag) : Fc → Bool
  | .he f => f.ok K
  | .con x ns => decide (PySem.W.nsIn K mainGlobals x = some (some (.ref (He.ga K x)))) && He.tupB K x (ns.map .int)
  | .bfun x id => decide (PySem.W.nsIn K mainGlobals x = some (some (.builtin id)))
  | .exc b c => xcB K b c
  | .vei => true
abbrev AlF : Type := Bool × List He.FnW
def obsF (fa : List Fc) (fn : List He.DefD) (K : PySem.W.Frag) : AlF := ((fa.all fun f => f.ok K) && fn.all fun d => d.ok K, fn.map fun d => He.fnW K d.at_)
def valF (fn : List He.DefD) : AlF := (true, fn.map He.DefD.val)
def SaysF (fa : List Fc) (fn : List He.DefD) (K : PySem.W.Frag) : Prop := obsF fa fn K = valF fn
def obsFG (n : Nat) (fa : List Fc) (fn : List He.DefD) (g : Addr → Option Obj) : AlF := obsF fa fn (He.frG g (He.asD g n))
def hookF (n : Nat) (fa : List Fc) (fn : List He.DefD) : PySem.W.Hook where
  α := AlF
  obs := fun s => obsFG n fa fn s.heap.get?
  val := fun _ => valF fn
  says := fun _ h => ∃ K : PySem.W.Frag, K.In h ∧ SaysF fa fn K
  of := fun _ _ e => ⟨_, He.frG_in, e⟩
  keeps := fun _ _ _ ⟨K, hK, c⟩ k => ⟨K, PySem.W.Frag.In.keeps hK k, c⟩
theorem obsFG_eq {n : Nat} {fa : List Fc} {fn : List He.DefD} {g : Addr → Option Obj} {s : Shared} (h : ∀ a, g a = s.heap.get? a) : obsFG n fa fn g = (hookF n fa fn).obs s := by
  have e : g = s.heap.get? := funext h
  rw [e] <;> rfl
section
variable {fa : List Fc} {fn : List He.DefD} {K : PySem.W.Frag}
theorem SaysF.fact (c : SaysF fa fn K) (i : Nat) {f : Fc} (h : fa[i]? = some f := by rfl) : f.ok K = true := by
  have c1 := (He.ba (show ((fa.all fun f => f.ok K) && fn.all fun d => d.ok K) = true from congrArg (fun z : AlF => z.1) c)).1
  exact List.all_eq_true.mp c1 f (List.mem_of_getElem? h)
theorem SaysF.def_ (c : SaysF fa fn K) (i : Nat) {d : He.DefD} (h : fn[i]? = some d := by rfl) : ∃ fd, FunD K d.name d.qual d.params d.body d.scope (d.dvs K) (d.kws K) (He.fAd K d.at_) fd := by
  have c2 := (He.ba (show ((fa.all fun f => f.ok K) && fn.all fun d => d.ok K) = true from congrArg (fun z : AlF => z.1) c)).2
  have e : fn.map (fun d => He.fnW K d.at_) = fn.map He.DefD.val := congrArg (fun z : AlF => z.2) c
  have e2 : (fn.map fun d => He.fnW K d.at_)[i]? = (fn.map He.DefD.val)[i]? := by rw [e]
  rw [List.getElem?_map, List.getElem?_map, h] at e2
  exact He.DefD.funD (Option.some.inj e2) (List.all_eq_true.mp c2 d (List.mem_of_getElem? h))
/-- a constant tuple of ints, ready to be read -/
structure ConF (K : PySem.W.Frag) (mg : Str → Option Value) (x : Str) (d : D) : Prop where
  ex : ∃ u v, mg x = some u ∧ RelV v u ∧ ∀ (α : List Addr) (H : Hp), Rep K α H v d
theorem con_ok {h : Heap} {mg : Str → Option Value} (X : K.In h) (G : h.Ns mainGlobals mg) {x : Str} {ns : List Int} (c : (Fc.con x ns).ok K = true) (hc : isCon (ns.map .int) = true) : ConF K mg x (.tuple (ns.map .int)) := by
  obtain ⟨c1, c2⟩ := He.ba c
  refine ⟨_, .ref (He.ga K x), PySem.W.mg_of X G (of_decide_eq_true c1), rfl, fun α H => .con (He.tupB_ok c2 H) hc ?_⟩
  have e : (List.map He.Dv.int ns).map (He.Dv.v K) = ns.map V.int := by
    rw [List.map_map]; rfl
  rw [e]
  exact RepAll.ints ns
structure ConK (K : PySem.W.Frag) (mg : Str → Option Value) (x : Str) (ns : List Int) : Prop where
  ex : ∃ u a, mg x = some u ∧ RelV (.ref a) u ∧ ∀ H : Hp, SqT K H a (ns.map V.int)
theorem conK_ok {h : Heap} {mg : Str → Option Value} (X : K.In h) (G : h.Ns mainGlobals mg) {x : Str} {ns : List Int} (c : (Fc.con x ns).ok K = true) : ConK K mg x ns := by
  obtain ⟨c1, c2⟩ := He.ba c
  refine ⟨_, He.ga K x, PySem.W.mg_of X G (of_decide_eq_true c1), rfl, fun H => ?_⟩
  have e : (List.map He.Dv.int ns).map (He.Dv.v K) = ns.map V.int := by
    rw [List.map_map]; rfl
  rw [← e]
  exact He.tupB_ok c2 H
theorem ee_conKF {X : Cx} {x : Str} {ns : List Int} {pos : Pos} (T : ConK X.K X.mg x ns) (hg : Gl X x := by rfl) (hd : (x == ("__debug__" : Str)) = false := by decide) : EE X (.Name x pos) (eK ns) := by
  obtain ⟨u, a, h1, h2, h3⟩ := T.ex
  exact ee_conK h1 h2 h3 hg hd
theorem free_okF {h : Heap} {mg : Str → Option Value} (X : K.In h) (G : h.Ns mainGlobals mg) {x : Str} (c : (Fc.he (.free x)).ok K = true) : mg x = none := He.free_ok X G c
theorem bfun_okF {h : Heap} {mg : Str → Option Value} (X : K.In h) (G : h.Ns mainGlobals mg) {x : Str} {id : String} (c : (Fc.bfun x id).ok K = true) : mg x = some (.builtin id) := PySem.W.mg_of X G (of_decide_eq_true c)
theorem exc_okF {h : Heap} {mg : Str → Option Value} (X : K.In h) (G : h.Ns mainGlobals mg) {b x : Str} (c : (Fc.exc b x).ok K = true) : XC K mg x (He.ma K (He.ga K b) "__init__") := xcB_ok X G c
theorem str_okF {h : Heap} {mg : Str → Option Value} (X : K.In h) (G : h.Ns mainGlobals mg) {x z : Str} (c : (Fc.he (.str x z)).ok K = true) : ConF K mg x (.str z) := by
  obtain ⟨t, e⟩ := He.str_ok X G c
  exact ⟨_, .str z, e, ⟨t, rfl⟩, fun _ _ => .str z⟩
theorem int_okF {h : Heap} {mg : Str → Option Value} (X : K.In h) (G : h.Ns mainGlobals mg) {x : Str} {i : Int} (c : (Fc.he (.int x i)).ok K = true) : ConF K mg x (.int i) := by
  obtain ⟨t, e⟩ := He.int_ok X G c
  exact ⟨_, .int i, e, ⟨t, rfl⟩, fun _ _ => .int i⟩
theorem ee_conF {X : Cx} {x : Str} {d : D} {pos : Pos} (T : ConF X.K X.mg x d) (hg : Gl X x := by rfl) (hd : (x == ("__debug__" : Str)) = false := by decide) : EE X (.Name x pos) (eC d) := by
  obtain ⟨u, v, h1, h2, h3⟩ := T.ex
  exact ee_con h1 h2 h3 hg hd
/-- a def as the head tells it -/
structure DefF (K : PySem.W.Frag) (mg : Str → Option Value) (x : Str) (pa : Arguments) (bd : List Stmt) (sc : Scope) : Prop where
  ex : ∃ fd, mg x = some (.ref (He.ga K x)) ∧ FunD K x x pa bd sc [] [] (He.ga K x) fd
theorem def_okF {h : Heap} {mg : Str → Option Value} (X : K.In h) (G : h.Ns mainGlobals mg) (c : SaysF fa fn K) (i j : Nat) {x : Str} {pa : Arguments} {bd : List Stmt} {sc : Scope} (h1 : fa[i]? = some (.he (.glo x)) := by rfl) (h2 : fn[j]? = some ⟨(x, none), x, x, pa, bd, sc, [], []⟩ := by rfl) : DefF K mg x pa bd sc := by
  obtain ⟨fd, F⟩ := c.def_ j h2
  exact ⟨fd, He.glo_ok X G (c.fact i h1), F⟩
end
end DL

set_option Elab.async false
set_option linter.all false
set_option maxRecDepth 100000
set_option maxHeartbeats 1000000
namespace DL
open PySem PySem.Spec PyProof.Rows L2

/-! ### dicts: keys, looking up, putting -/
def keyE : D → Option Key
  | .int i => some (.inl i)
  | .str x => some (.inr x)
  | _ => none
def keysOf : List D → Option (List Key)
  | [] => some []
  | d :: ds => match keyE d, keysOf ds with
    | some k, some ks => some (k :: ks)
    | _, _ => none
def keysE : D → Option (List Key)
  | .tuple ds => keysOf ds
  | _ => none
/-- a tuple that may be a key: none of the module's own constants -/
def keysI : D → Option (List Key)
  | .tuple ds => if isCon ds = true then none else keysOf ds
  | _ => none
theorem keyE_keyD (k : Key) : keyE (keyD k) = some k := by cases k <;> rfl
theorem keysOf_map : ∀ ks : List Key, keysOf (ks.map keyD) = some ks
  | [] => rfl
  | k :: ks => by
    rw [List.map_cons]
    unfold keysOf
    rw [keyE_keyD, keysOf_map ks]
theorem keyE_eq {d : D} {k : Key} (e : keyE d = some k) : d = keyD k := by
  cases d <;> cases e <;> rfl
theorem keysOf_eq : ∀ {ds : List D} {ks : List Key}, keysOf ds = some ks → ds = ks.map keyD
  | [], ks, e => by cases e; rfl
  | d :: ds, ks, e => by
    unfold keysOf at e
    split at e
    · rename_i k ks' h1 h2
      cases e
      rw [keyE_eq h1, keysOf_eq h2]; rfl
    · cases e
section
variable {κ : Type} [DecidableEq κ]
def lookBy (f : D → Option κ) (kvs : List (D × D)) (k : κ) : Option D := (kvs.find? fun p => decide (f p.1 = some k)).map (·.2)
def putBy (f : D → Option κ) (kvs : List (D × D)) (k : κ) (kd x : D) : List (D × D) :=
  if (kvs.any fun p => decide (f p.1 = some k)) = true then kvs.map (fun p => if f p.1 = some k then (p.1, x) else p) else kvs ++ [(kd, x)]
variable {K : PySem.W.Frag} {α : List Addr} {H : Hp} {f : D → Option κ} {g : κ → D}
theorem lookBy_ok (hf : ∀ k, f (g k) = some k) (k : κ) : ∀ {kvs : List (κ × V)} {ds : List D}, RepAll K α H (kvs.map (·.2)) ds →
    (valV kvs k = none ∧ lookBy f ((kvs.map fun p => g p.1).zip ds) k = none) ∨ ∃ v d, valV kvs k = some v ∧ lookBy f ((kvs.map fun p => g p.1).zip ds) k = some d ∧ Rep K α H v d
  | [], _, _ => .inl ⟨rfl, rfl⟩
  | p :: r, _, .cons (d := d) (ds := ds) rv t => by
    have ih := lookBy_ok hf k t
    rw [List.map_cons, List.zip_cons_cons]
    by_cases e : p.1 = k
    · refine .inr ⟨p.2, d, valV_pos e, ?_, rv⟩
      unfold lookBy
      rw [List.find?_cons, hf, e, decide_eq_true rfl]; rfl
    · rw [valV_neg e]
      have z : lookBy f ((g p.1, d) :: (r.map fun p => g p.1).zip ds) k = lookBy f ((r.map fun p => g p.1).zip ds) k := by
        unfold lookBy
        rw [List.find?_cons, hf, decide_eq_false (fun q => e (Option.some.inj q))]
      rw [z]; exact ih
theorem anyBy_ok (hf : ∀ k, f (g k) = some k) (k : κ) : ∀ {kvs : List (κ × V)} {ds : List D}, kvs.length = ds.length → (((kvs.map fun p => g p.1).zip ds).any fun p => decide (f p.1 = some k)) = (kvs.any fun p => decide (p.1 = k))
  | [], _, _ => rfl
  | p :: r, [], e => by cases e
  | p :: r, d :: ds, e => by
    rw [List.map_cons, List.zip_cons_cons, List.any_cons, List.any_cons, anyBy_ok hf k (by simpa using e), hf]
    congr 1
    by_cases e : p.1 = k <;> simp [e]
theorem mapBy_ok (hf : ∀ k, f (g k) = some k) (k : κ) {v : V} {x : D} (rx : Rep K α H v x) : ∀ {kvs : List (κ × V)} {ds : List D}, RepAll K α H (kvs.map (·.2)) ds →
    ∃ ds', (((kvs.map fun p => g p.1).zip ds).map fun p => if f p.1 = some k then (p.1, x) else p) = (((kvs.map fun kv => if kv.1 = k then (kv.1, v) else kv).map fun p => g p.1).zip ds') ∧ RepAll K α H ((kvs.map fun kv => if kv.1 = k then (kv.1, v) else kv).map (·.2)) ds'
  | [], _, _ => ⟨[], rfl, .nil⟩
  | p :: r, _, .cons (d := d) (ds := ds) rv t => by
    obtain ⟨ds', h1, h2⟩ := mapBy_ok hf k rx t
    simp only [List.map_cons, List.zip_cons_cons, hf]
    by_cases e : p.1 = k
    · refine ⟨x :: ds', ?_, ?_⟩
      · simp only [e, if_true, List.zip_cons_cons]; rw [h1]
      · simp only [e, if_true]; exact .cons rx h2
    · refine ⟨d :: ds', ?_, ?_⟩
      · rw [if_neg (fun q => e (Option.some.inj q)), if_neg e, List.zip_cons_cons, h1]
      · rw [if_neg e]; exact .cons rv h2
theorem putBy_ok (hf : ∀ k, f (g k) = some k) (k : κ) {v : V} {x : D} (rx : Rep K α H v x) {kvs : List (κ × V)} {ds : List D} (ra : RepAll K α H (kvs.map (·.2)) ds) :
    ∃ ds', putBy f ((kvs.map fun p => g p.1).zip ds) k (g k) x = ((putK kvs k v).map fun p => g p.1).zip ds' ∧ RepAll K α H ((putK kvs k v).map (·.2)) ds' := by
  have hl : kvs.length = ds.length := by rw [← ra.length, List.length_map]
  unfold putBy putK
  rw [anyBy_ok hf k hl]
  split
  · exact mapBy_ok hf k rx ra
  · refine ⟨ds ++ [x], ?_, ?_⟩
    · rw [List.map_append, List.zip_append (by rw [List.length_map, hl])]; rfl
    · rw [List.map_append]; exact ra.app (.cons rx .nil)
end
/-- a dict and its kind: true, its keys tuples -/
def dicV : Val → Hs → Option (Bool × List (D × D))
  | .r i, h => match h[i]? with
    | some (.dic t kvs) => some (t, kvs)
    | _ => none
  | .d (.dict ((.tuple ds, v) :: r)), _ => some (true, (.tuple ds, v) :: r)
  | .d (.dict ((.int i, v) :: r)), _ => some (false, (.int i, v) :: r)
  | .d (.dict ((.str i, v) :: r)), _ => some (false, (.str i, v) :: r)
  | _, _ => none
/-- what the dict holds at a key; outer none: no key -/
def dGetD (t : Bool) (kvs : List (D × D)) (k : D) : Option (Option D) := if t = true then (keysI k).map (lookBy keysE kvs) else (keyE k).map (lookBy keyE kvs)
def dPutD (t : Bool) (kvs : List (D × D)) (k x : D) : Option (List (D × D)) :=
  if kvs.length < sizeLine then (if t = true then (keysI k).map fun ks => putBy keysE kvs ks k x else (keyE k).map fun ks => putBy keyE kvs ks k x) else none
section
variable {K : PySem.W.Frag} {α ζ ι : List Addr} {H : Hp}
/-- the dict's object -/
inductive DicAt (K : PySem.W.Frag) (α : List Addr) (H : Hp) (a : Addr) : Bool → List (D × D) → Prop
  | dK {kvs : List (Key × V)} {ds : List D} : H a = some (.dK kvs) → RepAll K α H (kvs.map (·.2)) ds → DicAt K α H a false ((kvs.map fun p => keyD p.1).zip ds)
  | dT {kvs : List (List Key × V)} {ds : List D} : H a = some (.dT kvs) → RepAll K α H (kvs.map (·.2)) ds → DicAt K α H a true ((kvs.map fun p => PyData.tuple (p.1.map keyD)).zip ds)
theorem dicV_ok {hs : Hs} {v : V} {u : Val} {t : Bool} {kvs : List (D × D)} (s : Sim K ζ ι H hs) (r : VRep K ζ ι H v u) (e : dicV u hs = some (t, kvs)) : ∃ a, v = .ref a ∧ DicAt K (ζ ++ ι) H a t kvs := by
  unfold dicV at e
  split at e
  · rename_i _ i
    cases r with
    | @r a _ q =>
      split at e
      · rename_i t' kvs' em
        cases e
        have z := s.at_ i a _ q em
        refine ⟨a, rfl, ?_⟩
        cases z with
        | dK z1 z2 => exact .dK z1 z2
        | dT z1 z2 => exact .dT z1 z2
      · cases e
  all_goals first
    | cases e; done
    | cases e
      cases r with
      | d r =>
        generalize hx : PyData.dict _ = x at r
        cases r with
        | @dK a kvs ds q n ra =>
          injection hx with hx
          rw [hx]
          refine ⟨a, rfl, ?_⟩
          first
            | exact .dK q ra
            | (exfalso
               cases kvs with
               | nil => cases ra; cases hx
               | cons p r => cases ra; obtain ⟨k, w⟩ := p; cases k <;> cases hx)
        | @dT a kvs ds q n ra =>
          injection hx with hx
          rw [hx]
          refine ⟨a, rfl, ?_⟩
          first
            | exact .dT q ra
            | (exfalso
               cases kvs with
               | nil => cases ra; cases hx
               | cons p r => cases ra; cases hx)
        | _ => cases hx
theorem RepAll.keys : ∀ {ks : List Key} {vs : List V}, RepAll K α H vs (ks.map keyD) → vs = ks.map kV
  | [], _, .nil => rfl
  | k :: ks, _, .cons r t => by
    rw [List.map_cons, RepAll.keys t]
    congr 1
    cases k <;> (cases r; rfl)
theorem Rep.key {y : V} {k : Key} (r : Rep K α H y (keyD k)) : y = kV k := by
  cases k <;> (cases r; rfl)
theorem Rep.keyT {y : V} {kd : D} {ks : List Key} (r : Rep K α H y kd) (e : keysI kd = some ks) : kd = .tuple (ks.map keyD) ∧ ∃ b, y = .ref b ∧ H b = some (.tup (ks.map kV)) := by
  unfold keysI at e
  split at e
  · rename_i ds
    split at e
    · cases e
    · rename_i hc
      have e2 := keysOf_eq e
      subst e2
      refine ⟨rfl, ?_⟩
      cases r with
      | tup q ra => exact ⟨_, rfl, by rw [q, ra.keys]⟩
      | con q c ra => exact absurd c hc
  · cases e
theorem dGet_ok {a : Addr} {t : Bool} {kvs : List (D × D)} {y : V} {kd : D} {o : Option D} (da : DicAt K α H a t kvs) (ry : Rep K α H y kd) (e : dGetD t kvs kd = some o) :
    ∃ o', DGet H a y o' ∧ o'.isSome = o.isSome ∧ ∀ d, o = some d → ∃ v, o' = some v ∧ Rep K α H v d := by
  unfold dGetD at e
  cases da with
  | @dK ks ds q ra =>
    simp only [Bool.false_eq_true, if_false] at e
    cases hk : keyE kd with
    | none => rw [hk] at e; cases e
    | some k =>
      rw [hk] at e
      cases e
      have ek := keyE_eq hk
      subst ek
      rw [ry.key]
      refine ⟨_, DGet.k q, ?_⟩
      rcases lookBy_ok keyE_keyD k ra with ⟨h1, h2⟩ | ⟨v, d, h1, h2, h3⟩
      · rw [h1, h2]; exact ⟨rfl, fun d z => by cases z⟩
      · rw [h1, h2]; exact ⟨rfl, fun d z => by cases z; exact ⟨v, rfl, h3⟩⟩
  | @dT ks ds q ra =>
    simp only [if_true] at e
    cases hk : keysI kd with
    | none => rw [hk] at e; cases e
    | some k =>
      rw [hk] at e
      cases e
      obtain ⟨ek, b, rfl, eb⟩ := ry.keyT hk
      refine ⟨_, DGet.t q eb, ?_⟩
      rcases lookBy_ok (f := keysE) (g := fun k => PyData.tuple (k.map keyD)) (fun k => keysOf_map k) k ra with ⟨h1, h2⟩ | ⟨v, d, h1, h2, h3⟩
      · rw [h1, h2]; exact ⟨rfl, fun d z => by cases z⟩
      · rw [h1, h2]; exact ⟨rfl, fun d z => by cases z; exact ⟨v, rfl, h3⟩⟩
/-- what stands behind a put, over any later avoided places and heaps -/
theorem dPut_ok {a : Addr} {t : Bool} {kvs kvs' : List (D × D)} {y v : V} {kd x : D} (da : DicAt K α H a t kvs) (ry : Rep K α H y kd) (rx : Rep K α H v x) (e : dPutD t kvs kd x = some kvs') :
    ∃ o, DPut H a y v (upd H a o) ∧ ((∃ k, o = .dK k) ∨ ∃ k, o = .dT k) ∧ ∀ {β : List Addr}, Mv α H β (upd H a o) → DicAt K β (upd H a o) a t kvs' ∧ MRep K β (upd H a o) a (.dic t kvs') := by
  unfold dPutD at e
  split at e
  · rename_i hl
    cases da with
    | @dK ks ds q ra =>
      simp only [Bool.false_eq_true, if_false] at e
      have hlen : ks.length < sizeLine := by
        rw [List.length_zip, List.length_map, ← ra.length, List.length_map, Nat.min_self] at hl; exact hl
      cases hk : keyE kd with
      | none => rw [hk] at e; cases e
      | some k =>
        rw [hk] at e
        cases e
        have ek := keyE_eq hk
        subst ek
        rw [ry.key]
        obtain ⟨ds', h1, h2⟩ := putBy_ok (g := keyD) keyE_keyD k rx ra
        show ∃ o, DPut H a (kV k) v (upd H a o) ∧ _ ∧ ∀ {β : List Addr}, _ → DicAt K β (upd H a o) a false (putBy keyE _ k (keyD k) x) ∧ MRep K β (upd H a o) a (.dic false (putBy keyE _ k (keyD k) x))
        rw [h1]
        exact ⟨_, DPut.k q hlen, .inl ⟨_, rfl⟩, fun m => ⟨.dK upd_same (h2.mv m), .dK upd_same (h2.mv m)⟩⟩
    | @dT ks ds q ra =>
      simp only [if_true] at e
      have hlen : ks.length < sizeLine := by
        rw [List.length_zip, List.length_map, ← ra.length, List.length_map, Nat.min_self] at hl; exact hl
      cases hk : keysI kd with
      | none => rw [hk] at e; cases e
      | some k =>
        rw [hk] at e
        cases e
        obtain ⟨ek, b, rfl, eb⟩ := ry.keyT hk
        subst ek
        obtain ⟨ds', h1, h2⟩ := putBy_ok (f := keysE) (g := fun k => PyData.tuple (k.map keyD)) (fun k => keysOf_map k) k rx ra
        show ∃ o, DPut H a (.ref b) v (upd H a o) ∧ _ ∧ ∀ {β : List Addr}, _ → DicAt K β (upd H a o) a true (putBy keysE _ k (PyData.tuple (k.map keyD)) x) ∧ MRep K β (upd H a o) a (.dic true (putBy keysE _ k (PyData.tuple (k.map keyD)) x))
        rw [h1]
        exact ⟨_, DPut.t q eb hlen, .inr ⟨_, rfl⟩, fun m => ⟨.dT upd_same (h2.mv m), .dT upd_same (h2.mv m)⟩⟩
  · cases e
theorem DicAt.mv {β : List Addr} {H' : Hp} {a : Addr} {t : Bool} {kvs : List (D × D)} (m : Mv α H β H') (e : ∀ o, H a = some o → H' a = some o) (d : DicAt K α H a t kvs) : DicAt K β H' a t kvs := by
  cases d with
  | dK q r => exact .dK (e _ q) (r.mv m)
  | dT q r => exact .dT (e _ q) (r.mv m)
end
/-! ### rules -/
def eDIn (neg : Bool) (fk fd : MV) : MV := fun ρ h => (fk ρ h).bind fun k h1 => (fd ρ h1).bind fun u h2 => match k, dicV u h2 with
  | .d k, some (t, kvs) => (match dGetD t kvs k with
    | some o => .ok (.d (.bool (neg != o.isSome))) h2
    | none => .no)
  | _, _ => .no
def eDGet (fd fk : MV) : MV := fun ρ h => (fd ρ h).bind fun u h1 => (fk ρ h1).bind fun k h2 => match k, dicV u h2 with
  | .d k, some (t, kvs) => (match dGetD t kvs k with
    | some (some d) => .ok (.d d) h2
    | _ => .no)
  | _, _ => .no
/-- the dict is u's: the store with the pair put -/
def putS (u : Val) (k x : D) (h : Hs) : Option Hs := match u with
  | .r i => (match h[i]? with
    | some (.dic t kvs) => (dPutD t kvs k x).map fun kvs' => h.set i (.dic t kvs')
    | _ => none)
  | _ => none
def sDPut (fe fd fk : MV) : MS := fun ρ h => (fe ρ h).bindS ρ fun v h1 => (fd ρ h1).bindS ρ fun u h2 => (fk ρ h2).bindS ρ fun k h3 => match v, k with
  | .d x, .d k => (match putS u k x h3 with
    | some h4 => .nx ρ h4
    | none => .no)
  | _, _ => .no
def eDicM (t : Bool) : MV := fun _ h => .ok (.r h.length) (h ++ [.dic t []])
section
variable {X : Cx} {pos : Pos}
theorem ee_dnewT : EE X (.Dict [] [] pos) (eDicM true) := ⟨fun W tk => ⟨_, pe_dnewT, fun ζ ι ρ hs σ H Q er s k => fun q hq => by
  obtain ⟨s2, ex⟩ := s.push (o := .dT []) hq (m := .dic true []) (.dT (kvs := []) (ds := []) upd_same .nil)
  exact k _ _ _ ex s2 (.r (by rw [← s.len, List.getElem?_append_right (Nat.le_refl _), Nat.sub_self]; rfl))⟩⟩
theorem ee_dnewK : EE X (.Dict [] [] pos) (eDicM false) := ⟨fun W tk => ⟨_, pe_dnewK, fun ζ ι ρ hs σ H Q er s k => fun q hq => by
  obtain ⟨s2, ex⟩ := s.push (o := .dK []) hq (m := .dic false []) (.dK (kvs := []) (ds := []) upd_same .nil)
  exact k _ _ _ ex s2 (.r (by rw [← s.len, List.getElem?_append_right (Nat.le_refl _), Nat.sub_self]; rfl))⟩⟩
theorem ee_dget {o i : Expr} {fo fi : MV} (hu : X.A.units + 1 < cLine) (ho : EE X o fo) (hi : EE X i fi) (hs : NoSl i := by exact fun _ _ => rfl) : EE X (.Subscript o i pos) (eDGet fo fi) := ⟨fun W tk => by
  obtain ⟨to, po, qo⟩ := ho.run W tk
  obtain ⟨ti, pi, qi⟩ := hi.run W tk
  refine ⟨_, pe_dget hu po pi hs, fun ζ ι ρ hs σ H Q er s k => ?_⟩
  refine qo ζ ι ρ hs σ H _ er s (Kt.bind k fun u h1 x H1 ι1 e1 s1 r1 k1 => ?_)
  refine qi ζ ι1 ρ h1 σ H1 _ (er.mv s e1) s1 (Kt.bind k1 fun w h2 y H2 ι2 e2 s2 r2 k2 => ?_)
  split at k2
  · rename_i kd t kvs ed
    split at k2
    · rename_i d eg
      obtain ⟨a, rfl, da⟩ := dicV_ok s2 (r1.mv s1 e2) ed
      cases r2 with
      | d r2 =>
        obtain ⟨o', g, _, hv⟩ := dGet_ok da r2 eg
        obtain ⟨v, rfl, rv⟩ := hv d rfl
        exact ⟨a, v, rfl, g, k2.here s2 (fun _ _ h => h) (.d rv)⟩
    · exact k2.elim
  · exact k2.elim⟩
theorem din_reads {ζ ι : List Addr} {ρ : Env} {hs : Hs} {σ : L2.St} {H : Hp} {W : WX} {fk fd : MV} {neg : Bool} {tk td : TE} {Q : VK} (er : ERep X.K ζ ι H σ ρ) (s : Sim X.K ζ ι H hs)
    (qk : ∀ (ζ ι : List Addr) (ρ : Env) (hs : Hs) (σ : L2.St) (H : Hp) (Q : VK), ERep X.K ζ ι H σ ρ → Sim X.K ζ ι H hs → Kt X.K ζ (VRep X.K ζ) ι H (fk ρ hs) Q (WE W σ) → tk σ H Q)
    (qd : ∀ (ζ ι : List Addr) (ρ : Env) (hs : Hs) (σ : L2.St) (H : Hp) (Q : VK), ERep X.K ζ ι H σ ρ → Sim X.K ζ ι H hs → Kt X.K ζ (VRep X.K ζ) ι H (fd ρ hs) Q (WE W σ) → td σ H Q)
    (k : Kt X.K ζ (VRep X.K ζ) ι H (eDIn neg fk fd ρ hs) Q (WE W σ)) : tk σ H fun y H1 => td σ H1 fun x H2 => ∃ a o, x = .ref a ∧ DGet H2 a y o ∧ Q (.bl (neg != o.isSome)) H2 := by
  refine qk ζ ι ρ hs σ H _ er s (Kt.bind k fun u h1 x H1 ι1 e1 s1 r1 k1 => ?_)
  refine qd ζ ι1 ρ h1 σ H1 _ (er.mv s e1) s1 (Kt.bind k1 fun w h2 y H2 ι2 e2 s2 r2 k2 => ?_)
  split at k2
  · rename_i kd t kvs ed
    split at k2
    · rename_i o eg
      obtain ⟨a, rfl, da⟩ := dicV_ok s2 r2 ed
      have r1' := r1.mv s1 e2
      cases r1' with
      | d r1' =>
        obtain ⟨o', g, ho, _⟩ := dGet_ok da r1' eg
        exact ⟨a, o', rfl, g, k2.here s2 (fun _ _ h => h) (by rw [ho]; exact .d (.bl _))⟩
    · exact k2.elim
  · exact k2.elim
theorem bne_false (b : Bool) : (false != b) = b := by cases b <;> rfl
theorem bne_true (b : Bool) : (true != b) = !b := by cases b <;> rfl
theorem ee_din {i o : Expr} {fo fi : MV} (hu : X.A.units + 1 < cLine) (hi : EE X i fi) (ho : EE X o fo) (hm : behindInMarks .In o = false := by rfl) : EE X (.Compare i [.In] [o] pos) (eDIn false fi fo) := ⟨fun W tk => by
  obtain ⟨to, po, qo⟩ := ho.run W tk
  obtain ⟨ti, pi, qi⟩ := hi.run W tk
  refine ⟨_, pe_cmp (pc_din hu pi po) hm, fun ζ ι ρ hs σ H Q er s k => ?_⟩
  have z := din_reads er s qi qo k
  simp only [bne_false] at z
  exact z⟩
theorem ee_dnotin {i o : Expr} {fo fi : MV} (hu : X.A.units + 1 < cLine) (hi : EE X i fi) (ho : EE X o fo) (hm : behindInMarks .NotIn o = false := by rfl) : EE X (.Compare i [.NotIn] [o] pos) (eDIn true fi fo) := ⟨fun W tk => by
  obtain ⟨to, po, qo⟩ := ho.run W tk
  obtain ⟨ti, pi, qi⟩ := hi.run W tk
  refine ⟨_, pe_cmp (pc_dnotin hu pi po) hm, fun ζ ι ρ hs σ H Q er s k => ?_⟩
  have z := din_reads er s qi qo k
  simp only [bne_true] at z
  exact z⟩
/-- a test by a value's own rule -/
theorem Kt.tval {ζ ι : List Addr} {H : Hp} {r : R Val} {Q : Bool → Hp → Prop} {E : XK} {K : PySem.W.Frag} (k : Kt K ζ (fun _ _ b b' => b = b') ι H (r.bind fun u h1 => R.opt (asB u) h1) Q E) : Kt K ζ (VRep K ζ) ι H r (fun v H' => ∃ b, v = .bl b ∧ Q b H') E := by
  cases r with
  | ok u h =>
    intro v H' ι' e s vr
    obtain ⟨b, eb, k⟩ := Kt.opt k
    exact ⟨b, asB_ok vr eb, k b H' ι' e s rfl⟩
  | ex c v h => exact k
  | no => exact k
theorem et_din {i o : Expr} {fo fi : MV} (hu : X.A.units + 1 < cLine) (hi : EE X i fi) (ho : EE X o fo) (hm : behindInMarks .In o = false := by rfl) : ET X (.Compare i [.In] [o] pos) (tVal (eDIn false fi fo)) := ⟨fun W tk => by
  obtain ⟨to, po, qo⟩ := ho.run W tk
  obtain ⟨ti, pi, qi⟩ := hi.run W tk
  refine ⟨_, pt_cmp (pc_din hu pi po) hm, fun ζ ι ρ hs σ H Q er s k => ?_⟩
  have z := din_reads er s qi qo (Kt.tval k)
  simp only [bne_false] at z
  exact z⟩
theorem et_dnotin {i o : Expr} {fo fi : MV} (hu : X.A.units + 1 < cLine) (hi : EE X i fi) (ho : EE X o fo) (hm : behindInMarks .NotIn o = false := by rfl) : ET X (.Compare i [.NotIn] [o] pos) (tVal (eDIn true fi fo)) := ⟨fun W tk => by
  obtain ⟨to, po, qo⟩ := ho.run W tk
  obtain ⟨ti, pi, qi⟩ := hi.run W tk
  refine ⟨_, pt_cmp (pc_dnotin hu pi po) hm, fun ζ ι ρ hs σ H Q er s k => ?_⟩
  have z := din_reads er s qi qo (Kt.tval k)
  simp only [bne_true] at z
  exact z⟩
theorem putS_ok {K : PySem.W.Frag} {ζ ι : List Addr} {H : Hp} {hs hs' : Hs} {v y w : V} {u : Val} {kd x : D} (s : Sim K ζ ι H hs) (ru : VRep K ζ ι H w u) (ry : Rep K (ζ ++ ι) H y kd) (rx : Rep K (ζ ++ ι) H v x) (e : putS u kd x hs = some hs') :
    ∃ a H', w = .ref a ∧ DPut H a y v H' ∧ Ext ι H ι H' ∧ Sim K ζ ι H' hs' := by
  unfold putS at e
  split at e
  · rename_i i
    split at e
    · rename_i t kvs em
      cases ep : dPutD t kvs kd x with
      | none => rw [ep] at e; cases e
      | some kvs' =>
        rw [ep] at e
        cases e
        cases ru with
        | @r a _ q =>
          have z := s.at_ i a _ q em
          have da : DicAt K (ζ ++ ι) H a t kvs := by
            cases z with
            | dK z1 z2 => exact .dK z1 z2
            | dT z1 z2 => exact .dT z1 z2
          obtain ⟨o, dp, _, hm⟩ := dPut_ok da ry rx ep
          obtain ⟨s2, e2⟩ := s.store (m := .dic t kvs') q (hm (s.storeMv o q)).2
          exact ⟨a, _, rfl, dp, e2, s2⟩
    · cases e
  · cases e
theorem ss_dput {o i e : Expr} {fe fo fi : MV} {tpos : Pos} (hu : X.A.units + 1 < cLine) (he : EE X e fe) (ho : EE X o fo) (hi : EE X i fi) (hs : swapsWith e (some (.Subscript o i tpos)) pos.line X.env = pure false := by rfl) :
    SS X (.Assign [.Subscript o i tpos] e pos) (sDPut fe fo fi) := ⟨fun W tk => by
  obtain ⟨te, pe, qe⟩ := he.run W tk
  obtain ⟨to, po, qo⟩ := ho.run W tk
  obtain ⟨ti, pi, qi⟩ := hi.run W tk
  refine ⟨_, ps_dput hu po pi pe hs, fun ζ ι ρ hs σ H D er s k => ?_⟩
  refine qe ζ ι ρ hs σ H _ er s (Ks.bind k er s fun v h1 x H1 ι1 e1 s1 r1 k1 => ?_)
  have er1 := er.mv s e1
  refine qo ζ ι1 ρ h1 σ H1 _ er1 s1 (Ks.bind k1 er1 s1 fun u h2 y H2 ι2 e2 s2 r2 k2 => ?_)
  have er2 := er1.mv s1 e2
  refine qi ζ ι2 ρ h2 σ H2 _ er2 s2 (Ks.bind k2 er2 s2 fun w h3 z H3 ι3 e3 s3 r3 k3 => ?_)
  have er3 := er2.mv s2 e3
  have r1' := (r1.mv s1 e2).mv s2 e3
  have r2' := r2.mv s2 e3
  split at k3
  · rename_i dx dk
    split at k3
    · rename_i h4 ep
      cases r1' with
      | d r1' =>
        cases r3 with
        | d r3 =>
          obtain ⟨a, H4, rfl, dp, ex, s4⟩ := putS_ok s3 r2' r3 r1' ep
          exact ⟨a, H4, rfl, dp, (k3.mv ex).nx s4 (er3.mv s3 ex)⟩
    · exact k3.elim
  · exact k3.elim⟩
end
end DL

set_option Elab.async false
set_option linter.all false
set_option maxRecDepth 100000
set_option maxHeartbeats 1000000
namespace DL
open PySem PySem.Spec PyProof.Rows L2

/-! ### dict comprehensions, the keys of either kind -/
theorem dict_store {X : Cx} {pins : List (Addr × Obj)} {σ : L2.St} {H H' : Hp} {s : Shared} {a : Addr} {y v : V} {u r : Value} {E : Value → Shared → Prop} {Q : Unit → Shared → Prop} (hu : X.A.units + 1 < cLine) (I : Inv X pins σ H s) (g : DPut H a y v H') (ry : RelV y u) (rv : RelV v r)
    (h : ∀ s', Inv X pins σ H' s' → Q () s') : wpAny (model X.prog X.w) X.A (dictSet a u r) Q E s := by
  rcases g with ⟨kvs, k, e, ey, l, rfl⟩ | ⟨kvs, k, b, e, ey, eb, l, rfl⟩
  · subst ey
    exact d_dictSet I e l ry rv h
  · subst ey
    cases (show u = Value.ref b from ry)
    obtain ⟨le, ns, ts, tr, td⟩ := dt_of I.hok e
    have short : ts.length ≤ sizeLine := Paired.length tr ▸ le
    have still : (putK kvs k v).length ≤ sizeLine := Nat.le_trans (length_putK kvs k v) l
    refine wpAny_dictSet_heap (hsz := short) (show (tupleKind (mixKind X.prog X.w)).room X.A from Nat.lt_of_succ_lt hu) (key_of I.hok eb) td fun heap2 made same => h _ ?_
    obtain ⟨ob, arr, ep, at2, m2, m3, m4, _, m5⟩ := made
    have kept : KT (upd H a (.dT (putK kvs k v))) (putK kvs k v) (storedH ts k b r) := (tr.put k eb rv).keeps fun c ys hc => (upd_ne (ne_of hc e (fun z => nomatch z))).trans hc
    exact d_write I (by rw [e]; exact True.intro) same ⟨ob, at2⟩ ⟨still, ns, _, kept, ob, arr, ep, at2, m2, m3, m4, m5⟩
/-- o0: the new dict as it is first -/
def tDcB (o0 : HO) (wi : TI) (g : TG) (tt : TT) (tk tv : TE) (vs : List Nat) : TE := fun σ H Q => wi σ H fun J H1 => ∀ D, H1 D = none →
  ∃ W : Nat → Nat → Hp → Prop, (∃ m, W 0 m (upd H1 D o0)) ∧ ∀ i m H, W i m H → (J.stop i H ∧ Q (.ref D) H) ∨ (J.go i H ∧ ∃ Nx : Hp → Prop, (∀ H', Nx H' → ∃ m', m' < m ∧ W (i + 1) m' H') ∧
    ∀ x H', J.yld i H x H' → g x (wipe σ vs) H' fun σ2 H2 => wipe σ2 vs = wipe σ vs ∧ tt σ2 H2 fun b H3 => if b = true then tk σ2 H3 fun y H4 => tv σ2 H4 fun z H5 => ∃ H6, DPut H5 D y z H6 ∧ Nx H6 else Nx H3)
abbrev nObj : Obj := { cls := .type "dict", data := .dict #[] }
section
variable {X : Cx}
abbrev InBlk (X : Cx) (scope : Scope) (P : Cx → Prop) : Prop := ∀ (s : Shared) (H : Hp) (C : Addr) (cl : List (Str × Addr)) (fp : List Addr), P (X.blk s H scope (compEnvC scope cl C X.env) fp)
theorem dcB_core {pins : List (Addr × Obj)} {s : Shared} {σ : L2.St} {H : Hp} {Q : VK} {kx vx tg iter : Expr} {ifs : List Expr} {scope : Scope} {own : List (Str × Nat)} {pos pos' : Pos} {wi : TI} {g : TG} {tt : TT} {tk tv : TE} {use : Option (Value → Sem Unit)} {Qf : Value → Shared → Prop}
    {o0 : HO} (ho : o0 = .dK [] ∨ o0 = .dT []) (hu : X.A.units + 1 < cLine) (hc : X.calm = true) (hN : X.N.Nodup) (I : Inv X pins σ H s) (hi : PI X tg iter wi) (ok : BlkOk X.N X.env.scope scope own)
    (hg : InBlk X scope fun Y => PG Y tg g) (ht : InBlk X scope fun Y => PTs Y ifs tt) (hk : InBlk X scope fun Y => PE Y kx tk) (he : InBlk X scope fun Y => PE Y vx tv) (hs : ∀ x, foldedSetIterable iter X.env x = pure x)
    (h : tDcB o0 wi g tt tk tv (own.map (·.2)) σ H Q)
    (hR : ∀ D C s' m H', Inv X pins σ H' s' → Q (.ref D) H' → s'.heap.Ns C m → FpOk X pins H' C → compPost (model X.prog X.w) X.A X.xe use Qf (.ref D) C (.ok .next) s') :
    wpAny (model X.prog X.w) X.A (comprehension (.DictComp kx vx [⟨tg, iter, ifs, 0⟩] scope pos) scope X.env pos' newDict false (eval iter X.env) use) Qf X.xe s := by
  have cells : ∀ y ∈ scope.names, y.2 = .free → ∃ c, X.env.cells.lookup y.1 = some c := fun y hy e =>
    (ok.free y hy e).elim (fun k => I.ok.has _ (.inl k)) (fun k => I.ok.has _ (.inr k))
  have once := fun y hy (e : y.2 = .local) => (ok.uniq y hy).trans (congrArg _ e)
  refine wpAny_comprehension_free (use := use) rfl hs (closure_ok cells) ok.kind once (thn (hi.run pins s σ H _ I h) fun _ sa ia => thn ia fun _ sb ib => ?_)
  obtain ⟨it, fp, tn, J, Hb, rfl, Ib, T, stb, fpb, q⟩ := ib
  refine wpAny_newObj_type (newEnv_comp ?_)
  obtain ⟨D, hD⟩ : ∃ D, sb.heap.objs.size = D := ⟨_, rfl⟩
  rw [hD]
  have noD : Hb D = none := Ib.hok.fresh (Nat.le_of_eq hD)
  obtain ⟨W, ⟨m0, wStart⟩, turn⟩ := q D noD
  -- the dict is made
  obtain ⟨sc, hsc⟩ : ∃ sc : Shared, ({ sb with heap := sb.heap.push nObj } : Shared) = sc := ⟨_, rfl⟩
  rw [hsc]
  have hpc : sc.heap = sb.heap.push nObj := congrArg Shared.heap hsc.symm
  have Ic : Inv X pins σ (upd Hb D o0) sc := by
    subst hsc
    refine Ib.laid (t' := sb.toks) (fun b o e => Heap.get?_push_of_some _ e) (Nat.le_of_eq hD) ?_
    subst hD
    rcases ho with rfl | rfl
    · exact dk_empty sb.heap Ib.big
    · exact dt_empty sb.heap Ib.big
  have fpc : ∀ b ∈ fp, FpOk X pins (upd Hb D o0) b ∧ b < sc.heap.objs.size := fun b hb => by
    obtain ⟨o, eo, _⟩ := T.obj _ _ stb b hb
    have below : b < sb.heap.objs.size := Heap.lt_size eo
    have away : b ≠ D := by subst hD; exact Nat.ne_of_lt below
    exact ⟨⟨(upd_ne away).trans (fpb b hb).1, (fpb b hb).2⟩, by rw [hpc, Heap.size_push]; exact Nat.lt_succ_of_lt below⟩
  have stc : tn 0 sc.heap := T.keep _ _ _ stb fun b _ o e => hpc ▸ Heap.get?_push_of_some _ e
  have Id := block_start Ic ok hN fpc
  obtain ⟨cl, hcl⟩ : ∃ cl, cellsFrom (sc.heap.objs.size + 1) scope.names (cloFrom X.env.cells scope.names []) = cl := ⟨_, rfl⟩
  rw [hcl] at Id
  show codeAny _ _ (.compStart (.DictComp kx vx [⟨tg, iter, ifs, 0⟩] scope pos) 0 (.ref it) (.ref D) (compEnvC scope (cellsFrom (sc.heap.objs.size + 1) scope.names (cloFrom X.env.cells scope.names [])) sc.heap.objs.size X.env)) (compPost (model X.prog X.w) X.A X.xe use Qf (.ref D) sc.heap.objs.size) { sc with heap := pushCells (sc.heap.push nObj) scope.names }
  rw [hcl]
  have rg := hg sc (upd Hb D o0) sc.heap.objs.size cl fp
  have rt := ht sc (upd Hb D o0) sc.heap.objs.size cl fp
  have rk := hk sc (upd Hb D o0) sc.heap.objs.size cl fp
  have rv := he sc (upd Hb D o0) sc.heap.objs.size cl fp
  have away : ∀ b ∈ fp, (upd Hb D o0) b = none := fun b hb => (fpc b hb).1.1
  obtain ⟨ce, hce⟩ : ∃ ce, compEnvC scope cl sc.heap.objs.size X.env = ce := ⟨_, rfl⟩
  have locs : ce.locals = sc.heap.objs.size := hce ▸ rfl
  rw [hce] at Id rg rt rk rv ⊢
  obtain ⟨Hc, hHc⟩ : ∃ Hc, upd Hb D o0 = Hc := ⟨_, rfl⟩
  rw [hHc] at Ic Id rg rt rk rv wStart away fpc
  obtain ⟨sd, hsd⟩ : ∃ sd : Shared, ({ sc with heap := pushCells (sc.heap.push nObj) scope.names } : Shared) = sd := ⟨_, rfl⟩
  rw [hsd] at Id ⊢
  have std : tn 0 sd.heap := T.keep _ _ _ stc fun b _ o e => hsd ▸ pushCells_keeps _ _ _ _ (Heap.get?_push_of_some _ e)
  have free : ∀ {σ' : L2.St} {H' : Hp} {s' : Shared}, Inv (X.blk sc Hc scope ce fp) [] σ' H' s' → (∀ b ∈ fp, H' b = none) → ∀ b ∈ fp, FpOk (X.blk sc Hc scope ce fp) [] H' b := fun J' hn b hb =>
    ⟨hn b hb, (J'.ok.exf b hb).1, J'.ok.exfs b hb, .inl hb, fun x c e => (J'.ok.exf b hb).2 x c e, fun p hp => nomatch (show p ∈ ([] : List (Addr × Obj)) from hp)⟩
  let At : Nat → Shared → Prop := fun n s' => ∃ i H', Inv (X.blk sc Hc scope ce fp) [] (wipe σ (own.map (·.2))) H' s' ∧ tn i s'.heap ∧ (∀ b ∈ fp, H' b = none) ∧ W i n H'
  have loop : codeAny (model X.prog X.w) X.A (.compLoop (.DictComp kx vx [⟨tg, iter, ifs, 0⟩] scope pos) 0 (.ref it) (.ref D) ce) (compPost (model X.prog X.w) X.A X.xe use Qf (.ref D) sc.heap.objs.size) sd := by
    refine compLoop_anyD At ?_ m0 ⟨0, Hc, Id, std, away, wStart⟩
    rintro n se ⟨i, He, Ie, ste, ne, we⟩
    rcases turn i n He we with ⟨stop, qEnd⟩ | ⟨go, Nx, later, step⟩
    · refine thnF (T.done (X.blk sc Hc scope ce fp) rfl rfl rfl hc i [] se _ He (fun _ _ => False) Ie (free Ie ne) ste stop) fun _ sf ⟨hr, If⟩ => ?_
      subst hr
      have back : Inv X pins σ He sf := Ic.call' (ch := fp) If.os If.base If.hok If.bare fun b hb => by
        obtain ⟨_, z2, z3, z4, z5⟩ := (fpc b hb).1
        exact ⟨z4, z2, z5.1, z5.2⟩
      have noC : He sc.heap.objs.size = none := by
        rw [← locs]
        exact If.free
      obtain ⟨m, hn, _⟩ := If.loc
      refine hR D sc.heap.objs.size sf m He back qEnd ?_ (Ic.fpOk (Nat.le_refl _) noC)
      rw [← locs]
      exact hn
    · refine thnF (T.item (X.blk sc Hc scope ce fp) rfl rfl rfl hc i [] se _ He (fun _ _ => False) Ie (free Ie ne) ste go) fun _ sf ⟨u, hr, hf⟩ => ?_
      subst hr
      refine thnF hf fun _ sg ⟨x, Hg, Ig, rx, yx, stg, ng⟩ => ?_
      have Ig' := Ig.pinned (free Ig ng) (T.obj _ _ stg)
      refine thnF (rg.run _ sg _ Hg x u _ Ig' rx (step x Hg yx)) fun _ sh ⟨σh, Hh, Ih, same, qh⟩ => ?_
      have fin : ∀ {s' : Shared} {H' : Hp}, Inv (X.blk sc Hc scope ce fp) ([] ++ pinsAt fp sg.heap) σh H' s' → Nx H' → ∃ m, m < n ∧ At m s' := fun {s' H'} Iz nx => by
        obtain ⟨m', lt, w'⟩ := later H' nx
        have stay : ∀ b ∈ fp, ∀ o, sg.heap.get? b = some o → s'.heap.get? b = some o ∧ H' b = none := fun b hb o eo =>
          have z := Iz.pin (b, o) (List.mem_append_right _ (List.mem_append_right _ (mem_pinsAt hb eo)))
          ⟨z.1, z.2.1⟩
        refine ⟨m', lt, i + 1, H', (Iz.unpinned (pins := [])).weak (by rw [← same, wipe_length]) (fun j v e => (wipe_some (same ▸ e)).1), T.keep _ _ _ stg fun b hb o eo => (stay b hb o eo).1, fun b hb => ?_, w'⟩
        obtain ⟨o, eo, _⟩ := T.obj _ _ stg b hb
        exact (stay b hb o eo).2
      refine thnF (rt.run _ sh σh Hh _ Ih qh) fun b si ⟨Hi, Ii, qi⟩ => ?_
      cases b with
      | false => exact fin Ii qi
      | true =>
        refine thnF (rk.run _ si σh Hi _ Ii qi) fun _ sj ⟨yk, Hj, Ij, rj, qj⟩ => ?_
        refine thnF (rv.run _ sj σh Hj _ Ij qj) fun _ sl ⟨yv, Hl, Il, rl, Hm, put, nx⟩ => ?_
        exact dict_store (X := X.blk sc Hc scope ce fp) hu Il put rj rl fun _ Im => fin Im nx
  exact codeAny_compStart_dict loop (T.self X.A 0 _ _ _ std loop)
theorem pe_dcB {kx vx tg iter : Expr} {ifs : List Expr} {scope : Scope} {own : List (Str × Nat)} {pos : Pos} {wi : TI} {g : TG} {tt : TT} {tk tv : TE} {o0 : HO} (ho : o0 = .dK [] ∨ o0 = .dT []) (hu : X.A.units + 1 < cLine) (hc : X.calm = true) (hN : X.N.Nodup) (hi : PI X tg iter wi) (ok : BlkOk X.N X.env.scope scope own)
    (hg : InBlk X scope fun Y => PG Y tg g) (ht : InBlk X scope fun Y => PTs Y ifs tt) (hk : InBlk X scope fun Y => PE Y kx tk) (he : InBlk X scope fun Y => PE Y vx tv) (hs : ∀ x, foldedSetIterable iter X.env x = pure x) :
    PE X (.DictComp kx vx [⟨tg, iter, ifs, 0⟩] scope pos) (tDcB o0 wi g tt tk tv (own.map (·.2))) := ⟨fun pins s σ H Q I h => by
  rw [arm_eval_DictComp]
  refine dcB_core ho hu hc hN I hi ok hg ht hk he hs h fun D C s' m H' I' q hn f => ⟨m, hn, fun _ sb => ?_⟩
  obtain ⟨f0, f1, f2, f3, f4, f5⟩ := f
  exact ⟨.ref D, H', I'.turned (t' := s'.toks) (fun b o hb e => (sb.2 b hb).trans e) f0 f1 f3 f4 f5, rfl, q⟩⟩
end
/-! ### what it means -/
open Classical in
noncomputable def compDR (t : Bool) (g : List (Nat × List D)) (gt : MG) (ft : Env → Hs → R Bool) (fk fe : MV) (ρ : Env) : List D → Hs → List (D × D) → Option (List (D × D) × Hs)
  | [], h, acc => if Chk g h then some (acc, h) else none
  | d :: ds, h, acc => if Chk g h then (match gt (.d d) ρ h with
    | .ok ρ1 h1 => (match ft ρ1 h1 with
      | .ok true h2 => (match fk ρ1 h2 with
        | .ok (.d k) h3 => (match fe ρ1 h3 with
          | .ok (.d x) h4 => (match dPutD t acc k x with
            | some acc' => compDR t g gt ft fk fe ρ ds h4 acc'
            | none => none)
          | _ => none)
        | _ => none)
      | .ok false h2 => compDR t g gt ft fk fe ρ ds h2 acc
      | _ => none)
    | _ => none) else none
def mkDM (t : Bool) (o : Option (List (D × D) × Hs)) : R Val := match o with
  | some (kvs, h) => .ok (.r h.length) (h ++ [.dic t kvs])
  | none => .no
noncomputable def eDcM (t : Bool) (vs : List Nat) (fi : MI) (gt : MG) (ft : Env → Hs → R Bool) (fk fe : MV) : MV := fun ρ h => (fi ρ h).bind fun p h1 => mkDM t (compDR t p.2 gt ft fk fe (wipeD ρ vs) p.1 h1 [])
def dNew (t : Bool) : HO := if t = true then .dT [] else .dK []
section
variable {K : PySem.W.Frag} {ζ ι : List Addr} {H : Hp} {hs : Hs}
def MutO (o : HO) : Prop := (∃ xs, o = .lst xs) ∨ (∃ k, o = .dK k) ∨ (∃ k, o = .dT k)
theorem Sim.making' (s : Sim K ζ ι H hs) {q : Addr} (hq : H q = none) {o : HO} (mo : MutO o) : Sim K (q :: ζ) ι (upd H q o) hs ∧ ∀ {v : V} {d : D}, Rep K (ζ ++ ι) H v d → Rep K (q :: ζ ++ ι) (upd H q o) v d := by
  have fr := s.fresh hq
  have mv : Mv (ζ ++ ι) H (q :: ζ ++ ι) (upd H q o) := ⟨fun a u h n => ⟨same_new hq a u h, fun m => by
    rcases List.mem_cons.mp m with e | m
    · rw [e, hq] at h; cases h
    · exact n m⟩, s.mvA⟩
  refine ⟨⟨List.nodup_cons.mpr ⟨fr, s.nd⟩, s.len, fun i a m h1 h2 => ?_, fun a m => ?_⟩, fun r => r.mv mv⟩
  · have z := s.at_ i a m h1 h2
    cases z with
    | lst z r => exact .lst (same_new hq _ _ z) (r.mv mv)
    | dK z r => exact .dK (same_new hq _ _ z) (r.mv mv)
    | dT z r => exact .dT (same_new hq _ _ z) (r.mv mv)
  · rcases List.mem_cons.mp m with e | m
    · rw [e, upd_same]
      rcases mo with ⟨x, rfl⟩ | ⟨x, rfl⟩ | ⟨x, rfl⟩
      · exact .inl ⟨x, rfl⟩
      · exact .inr (.inl ⟨x, rfl⟩)
      · exact .inr (.inr ⟨x, rfl⟩)
    · rcases s.ap a m with ⟨x, z⟩ | ⟨x, z⟩ | ⟨x, z⟩
      · exact .inl ⟨x, same_new hq _ _ z⟩
      · exact .inr (.inl ⟨x, same_new hq _ _ z⟩)
      · exact .inr (.inr ⟨x, same_new hq _ _ z⟩)
theorem Sim.grow' {q : Addr} (s : Sim K (q :: ζ) ι H hs) {o : HO} (mo : MutO o) : Sim K (q :: ζ) ι (upd H q o) hs ∧ Mv (q :: ζ ++ ι) H (q :: ζ ++ ι) (upd H q o) := by
  have mv : Mv (q :: ζ ++ ι) H (q :: ζ ++ ι) (upd H q o) := ⟨fun a u h n => ⟨by
    rw [upd_ne (fun e => n (by rw [e]; exact List.mem_cons_self))]; exact h, n⟩, s.mvA⟩
  have nq : ∀ {a : Addr}, a ∈ ζ ++ ι → a ≠ q := fun {a} m e => (List.nodup_cons.mp s.nd).1 (e ▸ m)
  refine ⟨⟨s.nd, s.len, fun i a m h1 h2 => ?_, fun a m => ?_⟩, mv⟩
  · have z := s.at_ i a m h1 h2
    have ne : a ≠ q := nq (List.mem_append_right _ (List.mem_of_getElem? h1))
    cases z with
    | lst z r => exact .lst (by rw [upd_ne ne]; exact z) (r.mv mv)
    | dK z r => exact .dK (by rw [upd_ne ne]; exact z) (r.mv mv)
    | dT z r => exact .dT (by rw [upd_ne ne]; exact z) (r.mv mv)
  · by_cases e : a = q
    · rw [e, upd_same]
      rcases mo with ⟨x, rfl⟩ | ⟨x, rfl⟩ | ⟨x, rfl⟩
      · exact .inl ⟨x, rfl⟩
      · exact .inr (.inl ⟨x, rfl⟩)
      · exact .inr (.inr ⟨x, rfl⟩)
    · rcases s.ap a m with ⟨x, z⟩ | ⟨x, z⟩ | ⟨x, z⟩
      · exact .inl ⟨x, by rw [upd_ne e]; exact z⟩
      · exact .inr (.inl ⟨x, by rw [upd_ne e]; exact z⟩)
      · exact .inr (.inr ⟨x, by rw [upd_ne e]; exact z⟩)
theorem Sim.made' {q : Addr} {m : MO} (s : Sim K (q :: ζ) ι H hs) (r : MRep K (ζ ++ (ι ++ [q])) H q m) : Sim K ζ (ι ++ [q]) H (hs ++ [m]) := by
  have sub : ∀ a ∈ ζ ++ (ι ++ [q]), a ∈ q :: ζ ++ ι := fun a m => by
    simp only [List.mem_append, List.mem_cons, List.mem_nil_iff, or_false, List.cons_append] at m ⊢
    rcases m with m | m | m
    · exact .inr (.inl m)
    · exact .inr (.inr m)
    · exact .inl m
  have nd := List.nodup_cons.mp s.nd
  refine ⟨?_, by simp [s.len], fun i a m h1 h2 => ?_, fun a m => s.ap a (List.mem_cons_of_mem _ m)⟩
  · rw [← List.append_assoc]
    refine List.nodup_append.mpr ⟨nd.2, by simp, fun a ha b hb => ?_⟩
    have e : b = q := by simpa using hb
    rw [e]
    rintro rfl
    exact nd.1 ha
  · by_cases hi : i < ι.length
    · rw [List.getElem?_append_left hi] at h1
      rw [List.getElem?_append_left (by rw [← s.len]; exact hi)] at h2
      have z := s.at_ i a m h1 h2
      cases z with
      | lst z r => exact .lst z (r.sub sub)
      | dK z r => exact .dK z (r.sub sub)
      | dT z r => exact .dT z (r.sub sub)
    · have e : i = ι.length := by
        have := (List.getElem?_eq_some_iff.mp h1).1
        rw [List.length_append, List.length_singleton] at this
        omega
      rw [e, List.getElem?_append_right (Nat.le_refl _), Nat.sub_self] at h1
      rw [e, s.len, List.getElem?_append_right (Nat.le_refl _), Nat.sub_self] at h2
      cases h1
      cases h2
      exact r
theorem DicAt.sub {α β : List Addr} {a : Addr} {t : Bool} {kvs : List (D × D)} (p : ∀ a ∈ β, a ∈ α) (d : DicAt K α H a t kvs) : DicAt K β H a t kvs := by
  cases d with
  | dK q r => exact .dK q (r.sub p)
  | dT q r => exact .dT q (r.sub p)
theorem DicAt.m {α : List Addr} {a : Addr} {t : Bool} {kvs : List (D × D)} (d : DicAt K α H a t kvs) : MRep K α H a (.dic t kvs) := by
  cases d with
  | dK q r => exact .dK q r
  | dT q r => exact .dT q r
theorem DicAt.new {α : List Addr} {a : Addr} {t : Bool} (e : H a = some (dNew t)) : DicAt K α H a t [] := by
  cases t with
  | false => exact .dK (kvs := []) (ds := []) e .nil
  | true => exact .dT (kvs := []) (ds := []) e .nil
theorem dNew_mut (t : Bool) : MutO (dNew t) := by
  cases t
  · exact .inr (.inl ⟨_, rfl⟩)
  · exact .inr (.inr ⟨_, rfl⟩)
theorem dc_loop {ι1 : List Addr} {H1 : Hp} {h1 : Hs} {J : It} {t : Bool} {its : List D} {g : List (Nat × List D)} {gt : MG} {ft : Env → Hs → R Bool} {fk fe : MV} {vs ws : List Nat} {σ : L2.St} {ρ : Env} {Q : VK} {ds : List (D × D)} {hE : Hs}
    (hv : ∀ i ∈ ws, i ∈ vs) (s1 : Sim K ζ ι1 H1 h1) (er : ERep K ζ ι1 H1 σ ρ) (io : IterOk K ζ ι1 H1 J its g) (hc : compDR t g gt ft fk fe (wipeD ρ vs) its h1 [] = some (ds, hE))
    (fin : ∀ q ι H, H1 q = none → Ext ι1 H1 ι H → Sim K (q :: ζ) ι H hE → DicAt K (q :: ζ ++ ι) H q t ds → Q (.ref q) H) :
    ∀ D, H1 D = none → ∃ W : Nat → Nat → Hp → Prop, (∃ m, W 0 m (upd H1 D (dNew t))) ∧ ∀ i m H, W i m H →
      (J.stop i H ∧ Q (.ref D) H) ∨ (J.go i H ∧ ∃ Nx : Hp → Prop, (∀ H', Nx H' → ∃ m', m' < m ∧ W (i + 1) m' H') ∧ ∀ x H', J.yld i H x H' → tG K ws gt x (wipe σ vs) H' fun σ2 H2 => wipe σ2 vs = wipe σ vs ∧ tT K ft W0 σ2 H2 fun b H3 =>
        if b = true then tE K fk W0 σ2 H3 fun y H4 => tE K fe W0 σ2 H4 fun z H5 => ∃ H6, DPut H5 D y z H6 ∧ Nx H6 else Nx H3) := by
  intro D hD
  have mk := s1.making' hD (dNew_mut t)
  have hz : ∀ a ∈ D :: ζ, a ∈ ζ ∨ H1 a = none := fun a m => by
    rcases List.mem_cons.mp m with e | m
    · rw [e]; exact .inr hD
    · exact .inl m
  refine ⟨fun i m H => m = its.length - i ∧ i ≤ its.length ∧ ∃ ι h acc, Ext ι1 H1 ι H ∧ Sim K (D :: ζ) ι H h ∧ DicAt K (D :: ζ ++ ι) H D t acc ∧ compDR t g gt ft fk fe (wipeD ρ vs) (its.drop i) h acc = some (ds, hE),
    ⟨its.length, by simp, Nat.zero_le _, ι1, h1, [], Ext.of_same (same_new hD), mk.1, .new upd_same, hc⟩, ?_⟩
  rintro i m H ⟨rfl, hi, ι2, h2, acc, e2, s2, da, c2⟩
  have er2 : ERep K (D :: ζ) ι2 H (wipe σ vs) (wipeD ρ vs) := (er.wipe vs).mvW (mv_wide s1 e2 hz) e2.pre
  have nD : D ∉ ι2 := fun m => (List.nodup_cons.mp s2.nd).1 (List.mem_append_right _ m)
  by_cases hlt : i < its.length
  · rw [List.drop_eq_getElem_cons hlt] at c2
    unfold compDR at c2
    split at c2
    · rename_i hck
      obtain ⟨go, yl⟩ := (io.step i (D :: ζ) ι2 H h2 e2 s2 hz hck).1 hlt
      refine .inr ⟨go, fun H' => its.length - (i + 1) < its.length - i ∧ i + 1 ≤ its.length ∧ ∃ ι h acc, Ext ι1 H1 ι H' ∧ Sim K (D :: ζ) ι H' h ∧ DicAt K (D :: ζ ++ ι) H' D t acc ∧ compDR t g gt ft fk fe (wipeD ρ vs) (its.drop (i + 1)) h acc = some (ds, hE),
        fun H' ⟨q1, q2, q3⟩ => ⟨_, q1, rfl, q2, q3⟩, fun x H' y => ?_⟩
      obtain ⟨sm, rp⟩ := yl x H' y
      have rx := rp _ (List.getElem?_eq_getElem hlt)
      have ex := Ext.of_same (ι := ι2) sm
      split at c2
      · rename_i ρ3 h3 eg
        refine ⟨D :: ζ, ι2, wipeD ρ vs, h2, .d its[i], er2.mv s2 ex, s2.same sm, .d rx, ?_⟩
        rw [eg]
        intro σ3 H3 ι3 e3 s3 er3 w3
        refine ⟨(w3 vs hv).trans ?_, D :: ζ, ι3, ρ3, h3, er3, s3, ?_⟩
        · apply List.ext_getElem?
          intro j
          rw [wipe_get, wipe_get, wipe_length]
          by_cases hj : j ∈ vs ∧ j < σ.length
          · rw [if_pos hj, if_pos hj]
          · rw [if_neg hj, if_neg hj]
        have eA : Ext ι2 H ι3 H3 := ex.trans e3
        split at c2
        · rename_i h4 et
          rw [et]
          intro b H4 ι4 e4 s4 eb
          subst eb
          rw [if_pos rfl]
          split at c2
          · rename_i k5 h5 ek
            refine ⟨D :: ζ, ι4, ρ3, h4, er3.mv s3 e4, s4, ?_⟩
            rw [ek]
            intro y5 H5 ι5 e5 s5 r5
            split at c2
            · rename_i x6 h6 ee
              refine ⟨D :: ζ, ι5, ρ3, h5, (er3.mv s3 e4).mv s4 e5, s5, ?_⟩
              rw [ee]
              intro y6 H6 ι6 e6 s6 r6
              split at c2
              · rename_i acc' ep
                have eB : Ext ι2 H ι6 H6 := ((eA.trans e4).trans e5).trans e6
                have da6 := da.mv (s2.mv eB) (fun o h => eB.keep _ _ h nD)
                have r5' := r5.mv s5 e6
                cases r5' with
                | d r5' =>
                  cases r6 with
                  | d r6 =>
                    obtain ⟨o, dp, mo, hm⟩ := dPut_ok da6 r5' r6 ep
                    obtain ⟨s7, m7⟩ := s6.grow' (o := o) (.inr mo)
                    refine ⟨_, dp, by omega, hlt, ι6, h6, acc', ?_, s7, (hm m7).1, c2⟩
                    have eC := e2.trans eB
                    exact ⟨eC.pre, eC.new, fun a o h n => by
                      rw [upd_ne (fun e => by rw [e, hD] at h; cases h)]
                      exact eC.keep a o h n⟩
              · cases c2
            · cases c2
          · cases c2
        · rename_i h4 et
          rw [et]
          intro b H4 ι4 e4 s4 eb
          subst eb
          rw [if_neg Bool.false_ne_true]
          have eB : Ext ι2 H ι4 H4 := eA.trans e4
          exact ⟨by omega, hlt, ι4, h4, acc, e2.trans eB, s4, da.mv (s2.mv eB) (fun o h => eB.keep _ _ h nD), c2⟩
        · cases c2
      · cases c2
    · cases c2
  · have e : i = its.length := by omega
    subst e
    rw [List.drop_length] at c2
    unfold compDR at c2
    split at c2
    · rename_i hck
      cases c2
      exact .inl ⟨(io.step _ (D :: ζ) ι2 H _ e2 s2 hz hck).2 (Nat.le_refl _), fin D ι2 H hD e2 s2 da⟩
    · cases c2
end
section
variable {X : Cx} {pos : Pos} {kx vx tg iter : Expr} {ifs : List Expr} {scope : Scope} {ws : List Nat} {fi : MI} {gt : MG} {ft : Env → Hs → R Bool} {fk fe : MV}
theorem ee_dcM {k : Nat} (t : Bool) (own : List (Str × Nat)) (C : Cn X k) (hi : EI X tg iter fi) (ok : blkC X.N X.env.scope scope own = true)
    (hg : ∀ (s : Shared) (H : Hp) (C : Addr) (cl : List (Str × Addr)) (fp : List Addr), EG (X.blk s H scope (compEnvC scope cl C X.env) fp) tg ws gt)
    (ht : ∀ (s : Shared) (H : Hp) (Ca : Addr) (cl : List (Str × Addr)) (fp : List Addr), Cn (X.blk s H scope (compEnvC scope cl Ca X.env) fp) k → ETs (X.blk s H scope (compEnvC scope cl Ca X.env) fp) ifs ft)
    (hk : ∀ (s : Shared) (H : Hp) (Ca : Addr) (cl : List (Str × Addr)) (fp : List Addr), Cn (X.blk s H scope (compEnvC scope cl Ca X.env) fp) k → EE (X.blk s H scope (compEnvC scope cl Ca X.env) fp) kx fk)
    (he : ∀ (s : Shared) (H : Hp) (Ca : Addr) (cl : List (Str × Addr)) (fp : List Addr), Cn (X.blk s H scope (compEnvC scope cl Ca X.env) fp) k → EE (X.blk s H scope (compEnvC scope cl Ca X.env) fp) vx fe) (hv : ∀ i ∈ ws, i ∈ own.map (·.2) := by decide) (hs : ∀ x, foldedSetIterable iter X.env x = pure x := by intro _; rfl) :
    EE X (.DictComp kx vx [⟨tg, iter, ifs, 0⟩] scope pos) (eDcM t (own.map (·.2)) fi gt ft fk fe) := ⟨fun W tk => by
  have cn : ∀ (s : Shared) (H : Hp) (Ca : Addr) (cl : List (Str × Addr)) (fp : List Addr), Cn (X.blk s H scope (compEnvC scope cl Ca X.env) fp) k := fun s H Ca cl fp => ⟨C.calm, C.nd, C.room, PassesOwn.never⟩
  refine ⟨_, pe_dcB (o0 := dNew t) (g := tG X.K ws gt) (tt := tT X.K ft W0) (tk := tE X.K fk W0) (tv := tE X.K fe W0) (by cases t; exact .inl rfl; exact .inr rfl) (units1 C.room) C.calm C.nd (hi.can tk) (blkOk_by ok) (fun s H C cl fp => (hg s H C cl fp).can) (fun s H C cl fp => (ht s H C cl fp (cn s H C cl fp)).run W0 takes0) (fun s H C cl fp => (hk s H C cl fp (cn s H C cl fp)).can takes0) (fun s H C cl fp => (he s H C cl fp (cn s H C cl fp)).can takes0) hs, fun ζ ι ρ hs σ H Q er s k => ?_⟩
  refine ⟨ζ, ι, ρ, hs, er, s, Ki.of_lc k fun p h1 J H1 ι1 e1 s1 io k1 => ?_⟩
  cases hc : compDR t p.2 gt ft fk fe (wipeD ρ (own.map (·.2))) p.1 h1 [] with
  | none => rw [hc] at k1; exact k1.elim
  | some y =>
    obtain ⟨ds, hE⟩ := y
    rw [hc] at k1
    refine dc_loop hv s1 (er.mv s e1) io hc fun q ι2 H2 hq e2 s2 da => ?_
    have sub : ∀ a ∈ ζ ++ (ι2 ++ [q]), a ∈ q :: ζ ++ ι2 := fun a m => by
      simp only [List.mem_append, List.mem_cons, List.mem_nil_iff, or_false, List.cons_append] at m ⊢
      rcases m with m | m | m
      · exact .inr (.inl m)
      · exact .inr (.inr m)
      · exact .inl m
    refine k1 _ H2 (ι2 ++ [q]) ⟨e2.pre.trans (List.prefix_append _ _), fun a m n => ?_, e2.keep⟩ (s2.made' (da.sub sub).m) (.r ?_)
    · rcases List.mem_append.mp m with m | m
      · exact e2.new a m n
      · have e : a = q := by simpa using m
        rw [e]; exact hq
    · rw [← s2.len, List.getElem?_append_right (Nat.le_refl _), Nat.sub_self]
      rfl⟩
end
end DL

set_option Elab.async false
set_option linter.all false
set_option maxRecDepth 100000
set_option maxHeartbeats 1000000
namespace DL
open PySem PySem.Spec PyProof.Rows L2

/-! ### a law's end -/
theorem FunD.same {K : PySem.W.Frag} {x q : Str} {pa : Arguments} {bd : List Stmt} {sc : Scope} {f : Addr} {fd fd2 : FuncData} (h1 : FunD K x q pa bd sc [] [] f fd) (h2 : FunD K x q pa bd sc [] [] f fd2) : fd = fd2 := by
  obtain ⟨oc, od, dV, kV, doc, pm, an, cdv, ct, osl, _, e1, _⟩ := h1.ex
  obtain ⟨oc2, od2, dV2, kV2, doc2, pm2, an2, cdv2, ct2, osl2, _, e2, _⟩ := h2.ex
  rw [e1] at e2
  injection e2 with e2
  injection e2 with _ _ e2 _
  injection e2
theorem vrep_script {K : PySem.W.Frag} {H : Hp} {a : Addr} {ns : List Int} (ho : Only H) (hS : SqL K H a (ns.map V.int)) : VRep K [] [] H (.ref a) (.s ns) := by
  rcases hS with h | h
  · rcases h with h | ⟨o, h⟩
    · rcases ho a with q | ⟨o, xs, q⟩
      · rw [h] at q; cases q
      · rw [h] at q; cases q
    · exact .s (.inl ⟨o, h⟩)
  · exact .s (.inr fun _ => .inr h)
theorem sp_law {K : PySem.W.Frag} {H : Hp} {a : Addr} {ns : List Int} {F : FnD} (hF : ∃ hs, F [.s ns] [] = .ok (.d (.bool true)) hs) (ho : Only H) (hS : SqL K H a (ns.map V.int)) : spOf K 1 F [.ref a] H (fun v _ => v = .bl true) fun _ _ _ => False := by
  obtain ⟨hs, e⟩ := hF
  refine ⟨[], [], [], [.s ns], rfl, ⟨List.nodup_nil, rfl, fun i a m h1 => by simp at h1, fun a m => by cases m⟩, .cons (vrep_script ho hS) .nil, ?_⟩
  rw [e]
  intro v H' ι' _ _ r
  cases r with
  | d r => cases r; rfl
/-- the given statement's walk, from the meaning of the law's def -/
theorem walk_dl {l : PySem.W.OpenLaw} {k : Nat} {q : Program} {loose : List Str} {XP : (Str → Option Value) → Heap → Prop} {YP : World → Heap → Prop} {d : DefRec} {x : Str} {pa : Arguments} {bd : List Stmt} {sc : Scope} {F : FnD}
    (hn : l.most = some 63) (hdf : d.params.defaults = []) (hr : Room k callerA)
    (hB : ∀ (K : PySem.W.Frag) (f : Addr) (fd : FuncData), FunD K d.name d.name pa bd sc [] [] f fd → ∀ (s : Shared) (v : Value), BindsTo s fd ⟨[v], []⟩ [(x, v)])
    (hK : ∀ (w : World) (mg : Str → Option Value) (h : Heap), YP w h → h.Ns mainGlobals mg → ∃ K : PySem.W.Frag, K.In h ∧ ∀ base : Heap, FnF l.prog w K mg base d.name pa bd sc [x] k F)
    (hF : ∀ ns : List Int, ns.length ≤ 63 → (∀ z ∈ ns, Builtin.Int.intBits z ≤ 1048576) → ∃ hs, F [.s ns] [] = .ok (.d (.bool true)) hs) :
    PySem.W.WalkO q loose XP YP l.row.toRowW d [] (fun f vs => PySem.call f vs) := by
  refine Att.attach_callB hn hdf fun w s₀ s₁ mg mb fa o pm cd doc a vs ns G Y ho hd hcd hmg hobj hints hlen hbits hg => ?_
  obtain ⟨K, KX, hf⟩ := hK w mg _ Y G.T.g
  obtain ⟨f', fd, hm, FD, hb, _⟩ := (hf s₁.heap).ex
  have e : f' = fa := by
    have z := hm.symm.trans hmg
    injection z with z
    injection z
  subst e
  have le : (63 : Nat) ≤ sizeLine := by rw [sizeLine_eq]; omega
  refine law_call (CX := L2.CX l.prog w) (sp := spOf K 1 F) KX G.T.g G.T.b G.T.builtins G.T.nolimit hg hobj hints (Nat.le_trans hlen le) hr (fun base _ _ => ?_) (hB K f' fd FD) (fun H hO hS => sp_law (hF ns hlen hbits) hO hS) ?_
  · obtain ⟨f2, fd2, hm2, FD2, hb2, ok⟩ := (hf base).ex
    have e2 : f2 = f' := by
      have z := hm2.symm.trans hm
      injection z with z
      injection z
    subst e2
    obtain rfl := FunD.same FD FD2
    exact ok
  · rintro H e s' ⟨_, _, _, _, _, _, _, _, _, _, _, _, z⟩
    exact z
end DL

set_option Elab.async false
set_option linter.all false
set_option maxRecDepth 100000
set_option maxHeartbeats 1000000
namespace DL
open PySem PySem.Spec PyProof.Rows L2

/-! ### reasoning about meanings: what must hold behind them -/
abbrev EP := Str → D → Hs → Prop
def wpR0 {α : Type} (r : R α) (Q : α → Hs → Prop) (E : EP) : Prop := match r with
  | .ok a h => Q a h
  | .ex c v h => E c v h
  | .no => False
/-- nothing: its type names what simp is not to change -/
structure MkR {α : Type} (Q : α → Hs → Prop) (E : EP) : Type where
structure wpR {α : Type} (r : R α) (Q : α → Hs → Prop) (E : EP) (u : MkR Q E := ⟨⟩) : Prop where
  out : wpR0 r Q E
theorem wpR_iff {α : Type} {r : R α} {Q : α → Hs → Prop} {E : EP} : wpR r Q E = wpR0 r Q E := propext ⟨fun w => w.out, fun w => ⟨w⟩⟩
structure Po where
  nx : Env → Hs → Prop
  rt : Val → Hs → Prop
  ex : Str → D → Env → Hs → Prop
  bk : Env → Hs → Prop
  ct : Env → Hs → Prop
/-- another end of a statement that goes on -/
def Po.withNx (P : Po) (f : Env → Hs → Prop) : Po := ⟨f, P.rt, P.ex, P.bk, P.ct⟩
def wpS0 (s : S) (P : Po) : Prop := match s with
  | .nx ρ h => P.nx ρ h
  | .rt v h => P.rt v h
  | .ex c v ρ h => P.ex c v ρ h
  | .bk ρ h => P.bk ρ h
  | .ct ρ h => P.ct ρ h
  | .no => False
structure MkS (P : Po) : Type where
structure wpS (s : S) (P : Po) (u : MkS P := ⟨⟩) : Prop where
  out : wpS0 s P
theorem wpS_iff {s : S} {P : Po} : wpS s P = wpS0 s P := propext ⟨fun w => w.out, fun w => ⟨w⟩⟩
abbrev noE : EP := fun _ _ _ => False
theorem wpR_congr {α : Type} {r r' : R α} {Q : α → Hs → Prop} {E : EP} (h : r = r') : wpR r Q E = wpR r' Q E := by rw [h]
theorem wpS_congr {s s' : S} {P : Po} (h : s = s') : wpS s P = wpS s' P := by rw [h]
section
variable {α β : Type} {Q : α → Hs → Prop} {E : EP} {P : Po} {ρ : Env} {h : Hs}
@[simp] theorem wpR_ok (a : α) (h : Hs) : wpR (.ok a h) Q E = Q a h := wpR_iff
@[simp] theorem wpR_ex (c : Str) (v : D) (h : Hs) : wpR (.ex c v h : R α) Q E = E c v h := wpR_iff
@[simp] theorem wpR_no : wpR (.no : R α) Q E = False := wpR_iff
@[simp] theorem wpR_bind (r : R β) (k : β → Hs → R α) : wpR (r.bind k) Q E = wpR r (fun a h => wpR (k a h) Q E) E := by
  cases r <;> simp only [wpR_iff] <;> rfl
@[simp] theorem wpS_nx : wpS (.nx ρ h) P = P.nx ρ h := wpS_iff
@[simp] theorem wpS_rt (v : Val) : wpS (.rt v h) P = P.rt v h := wpS_iff
@[simp] theorem wpS_ex (c : Str) (v : D) : wpS (.ex c v ρ h) P = P.ex c v ρ h := wpS_iff
@[simp] theorem wpS_bk : wpS (.bk ρ h) P = P.bk ρ h := wpS_iff
@[simp] theorem wpS_ct : wpS (.ct ρ h) P = P.ct ρ h := wpS_iff
@[simp] theorem wpS_no : wpS .no P = False := wpS_iff
@[simp] theorem wpS_bind (r : R β) (k : β → Hs → S) : wpS (r.bindS ρ k) P = wpR r (fun a h => wpS (k a h) P) (fun c v h => P.ex c v ρ h) := by
  cases r <;> simp only [wpR_iff, wpS_iff] <;> rfl
@[simp] theorem wpS_sSeq (g1 g2 : MS) : wpS (sSeq g1 g2 ρ h) P = wpS (g1 ρ h) (P.withNx fun ρ' h' => wpS (g2 ρ' h') P) := by
  unfold sSeq
  cases g1 ρ h <;> simp only [wpS_iff] <;> rfl
@[simp] theorem withNx_nx (P : Po) (f : Env → Hs → Prop) : (P.withNx f).nx = f := rfl
@[simp] theorem withNx_rt (P : Po) (f : Env → Hs → Prop) : (P.withNx f).rt = P.rt := rfl
@[simp] theorem withNx_ex (P : Po) (f : Env → Hs → Prop) : (P.withNx f).ex = P.ex := rfl
@[simp] theorem withNx_bk (P : Po) (f : Env → Hs → Prop) : (P.withNx f).bk = P.bk := rfl
@[simp] theorem withNx_ct (P : Po) (f : Env → Hs → Prop) : (P.withNx f).ct = P.ct := rfl
@[simp] theorem sNext_at : sNext ρ h = .nx ρ h := rfl
@[simp] theorem sSet_at (i : Nat) (f : MV) : sSet i f ρ h = (f ρ h).bindS ρ fun v h1 => .nx (ρ.set i (some v)) h1 := rfl
@[simp] theorem sExpr_at (f : MV) : sExpr f ρ h = (f ρ h).bindS ρ fun _ h1 => .nx ρ h1 := rfl
@[simp] theorem sRet_at (f : MV) : sRet f ρ h = (f ρ h).bindS ρ fun v h1 => .rt v h1 := rfl
@[simp] theorem sRetN_at : sRetN ρ h = .rt (.d .none) h := rfl
@[simp] theorem sBreak_at : sBreak ρ h = .bk ρ h := rfl
@[simp] theorem sCont_at : sCont ρ h = .ct ρ h := rfl
@[simp] theorem sIf_at (c : Env → Hs → R Bool) (g1 g2 : MS) : sIf c g1 g2 ρ h = (c ρ h).bindS ρ fun b h1 => if b = true then g1 ρ h1 else g2 ρ h1 := rfl
@[simp] theorem sParN_at (is : List Nat) (fs : Env → Hs → R (List Val)) : sParN is fs ρ h = (fs ρ h).bindS ρ fun us h1 => if us.length = is.length then .nx (setAll ρ is us) h1 else .no := rfl
@[simp] theorem setAll_cons (i : Nat) (is : List Nat) (u : Val) (us : List Val) : setAll ρ (i :: is) (u :: us) = setAll (ρ.set i (some u)) is us := rfl
@[simp] theorem setAll_nil (us : List Val) : setAll ρ [] us = ρ := by cases us <;> rfl
@[simp] theorem wpS_sAsg (f : MV) (g : MG) : wpS (sAsg f g ρ h) P = wpR (f ρ h) (fun v h1 => wpR (g v ρ h1) (fun ρ' h2 => P.nx ρ' h2) noE) (fun c v h => P.ex c v ρ h) := by
  unfold sAsg
  rw [wpS_bind]
  refine congrArg (fun q => wpR (f ρ h) q (fun c v h => P.ex c v ρ h)) ?_
  funext v h1
  cases g v ρ h1 <;> simp only [wpR_iff, wpS_iff] <;> rfl
@[simp] theorem sRaise_at (c : Str) (f : MV) : sRaise c f ρ h = (f ρ h).bindS ρ fun u h1 => match u with
  | .d x => .ex c x ρ h1
  | _ => .no := rfl
@[simp] theorem sFor_at (fi : MI) (gt : MG) (body : MS) : sFor fi gt body ρ h = (fi ρ h).bindS ρ fun p h1 => forR p.2 gt body p.1 ρ h1 := rfl
@[simp] theorem gN_at (i : Nat) (u : Val) : gN i u ρ h = .ok (ρ.set i (some u)) h := rfl
@[simp] theorem gT_at (gs : List D → Env → Hs → R Env) (ds : List D) : gT gs (.d (.tuple ds)) ρ h = gs ds ρ h := rfl
@[simp] theorem gT_l (gs : List D → Env → Hs → R Env) (ds : List D) : gT gs (.d (.list ds)) ρ h = gs ds ρ h := rfl
@[simp] theorem gsNil_at : gsNil [] ρ h = .ok ρ h := rfl
@[simp] theorem gsCons_at (g : MG) (gs : List D → Env → Hs → R Env) (d : D) (ds : List D) : gsCons g gs (d :: ds) ρ h = (g (.d d) ρ h).bind fun ρ' h' => gs ds ρ' h' := rfl
@[simp] theorem eVar_at (i : Nat) : eVar i ρ h = match ρ[i]? with
  | some (some v) => .ok v h
  | _ => .no := rfl
@[simp] theorem eC_at (d : D) : eC d ρ h = .ok (.d d) h := rfl
@[simp] theorem eK_at (ns : List Int) : eK ns ρ h = .ok (.c ns) h := rfl
@[simp] theorem vS_c (ns : List Int) : vS (.c ns) h = some (.tuple (ns.map .int)) := rfl
@[simp] theorem eOp_at (g : D → D → Option D) (fa fb : MV) : eOp g fa fb ρ h = (fa ρ h).bind fun u h1 => (fb ρ h1).bind fun v h2 => match vD u h2, vD v h2 with
  | some a, some b => R.opt ((g a b).map .d) h2
  | _, _ => .no := rfl
@[simp] theorem eOpM_at (g : D → D → Option (List D)) (fa fb : MV) : eOpM g fa fb ρ h = (fa ρ h).bind fun u h1 => (fb ρ h1).bind fun v h2 => match vD u h2, vD v h2 with
  | some a, some b => (match g a b with
    | some ds => .ok (.r h2.length) (h2 ++ [.lst ds])
    | none => .no)
  | _, _ => .no := rfl
@[simp] theorem eUn_at (g : D → Option D) (fa : MV) : eUn g fa ρ h = (fa ρ h).bind fun u h1 => match vD u h1 with
  | some a => R.opt ((g a).map .d) h1
  | _ => .no := rfl
@[simp] theorem aNil_at : aNil ρ h = .ok [] h := rfl
@[simp] theorem aCons_at (fa : MV) (fr : Env → Hs → R (List Val)) : aCons fa fr ρ h = (fa ρ h).bind fun u h1 => (fr ρ h1).bind fun us h2 => .ok (u :: us) h2 := rfl
@[simp] theorem eCallB_at (g : List D → Option D) (fas : Env → Hs → R (List Val)) : eCallB g fas ρ h = (fas ρ h).bind fun us h1 => match vDs us h1 with
  | some ds => R.opt ((g ds).map .d) h1
  | none => .no := rfl
@[simp] theorem pD_d (x : D) : pD (.d x) = some x := rfl
@[simp] theorem pDs_nil : pDs [] = some [] := rfl
@[simp] theorem pDs_cons (x : D) (us : List Val) : pDs (.d x :: us) = (pDs us).map (x :: ·) := rfl
@[simp] theorem eTup_at (fas : Env → Hs → R (List Val)) : eTup fas ρ h = (fas ρ h).bind fun us h1 => match pDs us with
  | some ds => if ds.length ≤ sizeLine then .ok (.d (.tuple ds)) h1 else .no
  | none => .no := rfl
@[simp] theorem tOf_nil : tOf [] = some [] := rfl
@[simp] theorem tOf_d (x : D) (us : List Val) : tOf (.d x :: us) = (tOf us).map (.inl x :: ·) := rfl
@[simp] theorem tOf_r (i : Nat) (us : List Val) : tOf (.r i :: us) = (tOf us).map (.inr i :: ·) := rfl
@[simp] theorem eTupM_at (fas : Env → Hs → R (List Val)) : eTupM fas ρ h = (fas ρ h).bind fun us h1 => match tOf us with
  | some ms => if ms.length ≤ sizeLine then .ok (.t ms) h1 else .no
  | none => .no := rfl
@[simp] theorem eLst_at (fas : Env → Hs → R (List Val)) : eLst fas ρ h = (fas ρ h).bind fun us h1 => match pDs us with
  | some ds => if ds.length ≤ sizeLine then .ok (.d (.list ds)) h1 else .no
  | none => .no := rfl
@[simp] theorem eLstM_at (fas : Env → Hs → R (List Val)) : eLstM fas ρ h = (fas ρ h).bind fun us h1 => match pDs us with
  | some ds => if ds.length ≤ sizeLine then .ok (.r h1.length) (h1 ++ [.lst ds]) else .no
  | none => .no := rfl
@[simp] theorem asB_b (b : Bool) : asB (.d (.bool b)) = some b := rfl
@[simp] theorem tVal_at (fa : MV) : tVal fa ρ h = (fa ρ h).bind fun u h1 => R.opt (asB u) h1 := rfl
@[simp] theorem tAndD_at (fa fb : Env → Hs → R Bool) : tAndD fa fb ρ h = (fa ρ h).bind fun b h1 => if b = true then fb ρ h1 else .ok false h1 := rfl
@[simp] theorem tOrD_at (fa fb : Env → Hs → R Bool) : tOrD fa fb ρ h = (fa ρ h).bind fun b h1 => if b = true then .ok true h1 else fb ρ h1 := rfl
@[simp] theorem tNotD_at (fa : Env → Hs → R Bool) : tNotD fa ρ h = (fa ρ h).bind fun b h1 => .ok (!b) h1 := rfl
@[simp] theorem tYesD_at : tYesD ρ h = .ok true h := rfl
@[simp] theorem eAnd_at (fa fb : MV) : eAnd fa fb ρ h = (fa ρ h).bind fun u h1 => match asB u with
  | some true => fb ρ h1
  | some false => .ok (.d (.bool false)) h1
  | none => .no := rfl
@[simp] theorem eOr_at (fa fb : MV) : eOr fa fb ρ h = (fa ρ h).bind fun u h1 => match asB u with
  | some true => .ok (.d (.bool true)) h1
  | some false => fb ρ h1
  | none => .no := rfl
@[simp] theorem eNot_at (fa : MV) : eNot fa ρ h = (fa ρ h).bind fun u h1 => match asB u with
  | some b => .ok (.d (.bool (!b))) h1
  | none => .no := rfl
@[simp] theorem eIf_at (ft : Env → Hs → R Bool) (fa fb : MV) : eIf ft fa fb ρ h = (ft ρ h).bind fun b h1 => if b = true then fa ρ h1 else fb ρ h1 := rfl
@[simp] theorem isNone_none : isNone (.d .none) = true := rfl
@[simp] theorem isNone_int (i : Int) : isNone (.d (.int i)) = false := rfl
@[simp] theorem eIsN_at (fa : MV) : eIsN fa ρ h = (fa ρ h).bind fun u h1 => .ok (.d (.bool (isNone u))) h1 := rfl
@[simp] theorem eNotN_at (fa : MV) : eNotN fa ρ h = (fa ρ h).bind fun u h1 => .ok (.d (.bool (!isNone u))) h1 := rfl
@[simp] theorem eCall_at (F : FnD) (fas : Env → Hs → R (List Val)) : eCall F fas ρ h = (fas ρ h).bind fun us h1 => F us h1 := rfl
@[simp] theorem eCallK_at (F : FnD) (π : List Nat) (fas fks : Env → Hs → R (List Val)) : eCallK F π fas fks ρ h = (fas ρ h).bind fun us h1 => (fks ρ h1).bind fun ws h2 => F (byPi π us ws) h2 := rfl
@[simp] theorem eLen_at (fa : MV) : eLen fa ρ h = (fa ρ h).bind fun u h1 => match vS u h1 with
  | some (.list xs) => .ok (.d (.int xs.length)) h1
  | some (.tuple xs) => .ok (.d (.int xs.length)) h1
  | some (.str z) => if z.length ≤ sizeLine then .ok (.d (.int z.length)) h1 else .no
  | some (.dict kvs) => .ok (.d (.int kvs.length)) h1
  | _ => .no := rfl
@[simp] theorem eIsi_at (f : D → Bool) (fa : MV) : eIsi f fa ρ h = (fa ρ h).bind fun u h1 => match vD u h1 with
  | some d => .ok (.d (.bool (f d))) h1
  | none => .no := rfl
@[simp] theorem eIx_at (fa fb : MV) : eIx fa fb ρ h = (fa ρ h).bind fun u h1 => (fb ρ h1).bind fun v h2 => match vS u h2, vD v h2 with
  | some a, some b => R.opt ((dIx a b).map .d) h2
  | _, _ => .no := rfl
@[simp] theorem oNone_at : oNone ρ h = .ok none h := rfl
@[simp] theorem oSome_at (f : MV) : oSome f ρ h = (f ρ h).bind fun u h1 => match u with
  | .d (.int i) => .ok (some i) h1
  | _ => .no := rfl
@[simp] theorem eSl_at (fa : MV) (fl fh : Env → Hs → R (Option Int)) : eSl fa fl fh ρ h = (fa ρ h).bind fun u h1 => (fl ρ h1).bind fun lo h2 => (fh ρ h2).bind fun hi h3 => match vD u h3 with
  | some a => R.opt ((dSl a lo hi).map .d) h3
  | none => .no := rfl
@[simp] theorem iSeq_at (f : MV) : iSeq f ρ h = (f ρ h).bind fun u h1 => R.opt (seqOf u h1) h1 := rfl
@[simp] theorem seqOf_list (ds : List D) : seqOf (.d (.list ds)) h = some (ds, []) := rfl
@[simp] theorem seqOf_tuple (ds : List D) : seqOf (.d (.tuple ds)) h = some (ds, []) := rfl
@[simp] theorem seqOf_s (ns : List Int) : seqOf (.s ns) h = some (ns.map .int, []) := rfl
@[simp] theorem iRng_at (o : List Val → Option (List D)) (fas : Env → Hs → R (List Val)) : iRng o fas ρ h = (fas ρ h).bind fun us h1 => R.opt ((o us).map fun l => (l, [])) h1 := rfl
@[simp] theorem rangeOf1_at (j : Int) : rangeOf1 [.d (.int j)] = if smallI j = true then some (rng 0 j.toNat) else none := rfl
@[simp] theorem rangeOf2_at (i j : Int) : rangeOf2 [.d (.int i), .d (.int j)] = if smallI i = true ∧ smallI j = true then some (rng i (j - i).toNat) else none := rfl
@[simp] theorem iZip2_at (fas : Env → Hs → R (List Val)) : iZip2 fas ρ h = (fas ρ h).bind fun us h1 => match us with
  | [u, v] => R.opt (zipOf u v h1) h1
  | _ => .no := rfl
theorem zipOf_at (u v : Val) : zipOf u v h = match seqOf u h, seqOf v h with
  | some (xs, g1), some (ys, g2) => some (List.zipWith (fun a b => .tuple [a, b]) xs ys, g1 ++ g2)
  | _, _ => none := rfl
@[simp] theorem zipOf_tup (xs ys : List D) : zipOf (.d (.tuple xs)) (.d (.tuple ys)) h = some (List.zipWith (fun a b => .tuple [a, b]) xs ys, []) := rfl
@[simp] theorem zipOf_lst (xs ys : List D) : zipOf (.d (.list xs)) (.d (.list ys)) h = some (List.zipWith (fun a b => .tuple [a, b]) xs ys, []) := rfl
@[simp] theorem eLc_at (vs : List Nat) (fi : MI) (gt : MG) (ft : Env → Hs → R Bool) (fe : MV) : eLc vs fi gt ft fe ρ h = (fi ρ h).bind fun p h1 => mkL (compR p.2 gt ft fe (wipeD ρ vs) p.1 h1 []) := rfl
@[simp] theorem eLcM_at (vs : List Nat) (fi : MI) (gt : MG) (ft : Env → Hs → R Bool) (fe : MV) : eLcM vs fi gt ft fe ρ h = (fi ρ h).bind fun p h1 => mkLM (compR p.2 gt ft fe (wipeD ρ vs) p.1 h1 []) := rfl
@[simp] theorem eDcM_at (t : Bool) (vs : List Nat) (fi : MI) (gt : MG) (ft : Env → Hs → R Bool) (fk fe : MV) : eDcM t vs fi gt ft fk fe ρ h = (fi ρ h).bind fun p h1 => mkDM t (compDR t p.2 gt ft fk fe (wipeD ρ vs) p.1 h1 []) := rfl
@[simp] theorem eCallM_at (g : D → Option (List D)) (fas : Env → Hs → R (List Val)) : eCallM g fas ρ h = (fas ρ h).bind fun us h1 => match vDs us h1 with
  | some [d] => (match g d with
    | some ds => .ok (.r h1.length) (h1 ++ [.lst ds])
    | none => .no)
  | _ => .no := rfl
@[simp] theorem eLM_at (g : List D → List D → Option (List D × D)) (fo : MV) (fas : Env → Hs → R (List Val)) : eLM g fo fas ρ h = (fo ρ h).bind fun u h1 => match u with
  | .r i => (match h1[i]? with
    | some (.lst _) => (fas ρ h1).bind fun us h2 => (match h2[i]?, pDs us with
      | some (.lst ds), some as => (match g ds as with
        | some (es, d) => .ok (.d d) (h2.set i (.lst es))
        | none => .no)
      | _, _ => .no)
    | _ => .no)
  | _ => .no := rfl
@[simp] theorem sSub_at (fe fo fi : MV) : sSub fe fo fi ρ h = (fe ρ h).bindS ρ fun v h1 => (fo ρ h1).bindS ρ fun u h2 => (fi ρ h2).bindS ρ fun w h3 => match v, u, w with
  | .d x, .r i, .d (.int k) => (match h3[i]? with
    | some (.lst ds) => (match ixN ds.length k with
      | some j => .nx ρ (h3.set i (.lst (ds.set j x)))
      | none => .no)
    | _ => .no)
  | _, _, _ => .no := rfl
@[simp] theorem eChain_at (g g' : D → D → Option D) (fa fb fc : MV) : eChain g g' fa fb fc ρ h = (fa ρ h).bind fun u h1 => (fb ρ h1).bind fun v h2 => match vD u h2, vD v h2 with
  | some a, some b => (match (g a b).bind dB with
    | some true => (fc ρ h2).bind fun w h3 => (match vD v h3, vD w h3 with
      | some b', some c => R.opt ((g' b' c).map .d) h3
      | _, _ => .no)
    | some false => .ok (.d (.bool false)) h2
    | none => .no)
  | _, _ => .no := rfl
@[simp] theorem dB_b (b : Bool) : dB (.bool b) = some b := rfl
@[simp] theorem eDIn_at (neg : Bool) (fk fd : MV) : eDIn neg fk fd ρ h = (fk ρ h).bind fun k h1 => (fd ρ h1).bind fun u h2 => match k, dicV u h2 with
  | .d k, some (t, kvs) => (match dGetD t kvs k with
    | some o => .ok (.d (.bool (neg != o.isSome))) h2
    | none => .no)
  | _, _ => .no := rfl
@[simp] theorem sDPut_at (fe fd fk : MV) : sDPut fe fd fk ρ h = (fe ρ h).bindS ρ fun v h1 => (fd ρ h1).bindS ρ fun u h2 => (fk ρ h2).bindS ρ fun k h3 => match v, k with
  | .d x, .d k => (match putS u k x h3 with
    | some h4 => .nx ρ h4
    | none => .no)
  | _, _ => .no := rfl
@[simp] theorem eDicM_at (t : Bool) : eDicM t ρ h = .ok (.r h.length) (h ++ [.dic t []]) := rfl
/-! data -/
@[simp] theorem dInt2_at (g : Int → Int → Option D) (i j : Int) : dInt2 g (.int i) (.int j) = g i j := rfl
@[simp] theorem gSub_at (i j : Int) : gSub i j = some (.int (i - j)) := rfl
@[simp] theorem gCmp_at (p : Int → Int → Bool) (i j : Int) : gCmp p i j = some (.bool (p i j)) := rfl
@[simp] theorem dAdd_int (i j : Int) : dAdd (.int i) (.int j) = some (.int (i + j)) := rfl
@[simp] theorem dNeg_int (i : Int) : dNeg (.int i) = some (.int (-i)) := rfl
@[simp] theorem d1_at (g : D → Option D) (a : D) : d1 g [a] = g a := rfl
@[simp] theorem d2_at (g : D → D → Option D) (a b : D) : d2 g [a, b] = g a b := rfl
@[simp] theorem dTuple_l (xs : List D) : dTuple (.list xs) = some (.tuple xs) := rfl
@[simp] theorem dTuple_t (xs : List D) : dTuple (.tuple xs) = some (.tuple xs) := rfl
@[simp] theorem dList_l (xs : List D) : dList (.list xs) = some (.list xs) := rfl
@[simp] theorem dList_t (xs : List D) : dList (.tuple xs) = some (.list xs) := rfl
@[simp] theorem dListM_l (xs : List D) : dListM (.list xs) = some xs := rfl
@[simp] theorem dListM_t (xs : List D) : dListM (.tuple xs) = some xs := rfl
@[simp] theorem dInt_i (i : Int) : dInt (.int i) = some (.int i) := rfl
@[simp] theorem dInt_b (b : Bool) : dInt (.bool b) = some (.int (if b then 1 else 0)) := rfl
@[simp] theorem dAbs_i (i : Int) : dAbs (.int i) = some (.int (i.natAbs : Int)) := by
  show some (PyData.int (if i < 0 then -i else i)) = _
  congr 2
  split <;> omega
@[simp] theorem dAll_l (xs : List D) : dAll (.list xs) = (boolsOf xs).map fun bs => .bool (bs.all id) := rfl
@[simp] theorem dAny_l (xs : List D) : dAny (.list xs) = (boolsOf xs).map fun bs => .bool (bs.any id) := rfl
@[simp] theorem dIx_l (xs : List D) (i : Int) : dIx (.list xs) (.int i) = atI xs i := rfl
@[simp] theorem dIx_t (xs : List D) (i : Int) : dIx (.tuple xs) (.int i) = atI xs i := rfl
theorem wpR_mkF (keep : Bool) (N n : Nat) (g : MS) (us : List Val) (h : Hs) {Q : Val → Hs → Prop} : wpR (mkF keep N n g us h) Q E = (us.length = n ∧ wpS (g (startE N us) h) ⟨fun _ h' => Q (.d .none) (h'.take h.length), fun v h' => wpR (exitV keep h.length v h') Q E, fun c v _ h' => E c v (h'.take h.length), fun _ _ => False, fun _ _ => False⟩) := by
  unfold mkF
  by_cases e : us.length = n
  · rw [if_pos e]
    simp only [e, true_and]
    cases g (startE N us) h <;> simp only [wpR_iff, wpS_iff] <;> rfl
  · rw [if_neg e]
    simp only [e, false_and]
    exact wpR_no
@[simp] theorem exitV_d (keep : Bool) (n : Nat) (x : D) : exitV keep n (.d x) h = .ok (.d x) (h.take n) := rfl
@[simp] theorem exitV_t (keep : Bool) (n : Nat) (ms : List (Sum D Nat)) : exitV keep n (.t ms) h = match frz n h ms with
    | some ds => .ok (.d (.tuple ds)) (h.take n)
    | none => .no := rfl
end
theorem wpR_eq {α : Type} {r : R α} {x : α} {h : Hs} (w : wpR r (fun a h' => a = x ∧ h' = h) noE) : r = .ok x h := by
  cases r with
  | ok a h' => obtain ⟨rfl, rfl⟩ := (w.out : a = x ∧ h' = h); rfl
  | ex c v h' => exact False.elim w.out
  | no => exact False.elim w.out
theorem wpR_mono {α : Type} {r : R α} {Q Q' : α → Hs → Prop} {E E' : EP} (w : wpR r Q E) (q : ∀ a h, Q a h → Q' a h) (e : ∀ c v h, E c v h → E' c v h) : wpR r Q' E' := by
  cases r with
  | ok a h' => exact ⟨q _ _ w.out⟩
  | ex c v h' => exact ⟨e _ _ _ w.out⟩
  | no => exact False.elim w.out
theorem wpS_mono {s : S} {P P' : Po} (w : wpS s P) (h1 : ∀ ρ h, P.nx ρ h → P'.nx ρ h) (h2 : ∀ v h, P.rt v h → P'.rt v h) (h3 : ∀ c v ρ h, P.ex c v ρ h → P'.ex c v ρ h) (h4 : ∀ ρ h, P.bk ρ h → P'.bk ρ h) (h5 : ∀ ρ h, P.ct ρ h → P'.ct ρ h) : wpS s P' := by
  cases s with
  | nx ρ h => exact ⟨h1 _ _ w.out⟩
  | rt v h => exact ⟨h2 _ _ w.out⟩
  | ex c v ρ h => exact ⟨h3 _ _ _ _ w.out⟩
  | bk ρ h => exact ⟨h4 _ _ w.out⟩
  | ct ρ h => exact ⟨h5 _ _ w.out⟩
  | no => exact False.elim w.out
/-! ### loops -/
/-- a for loop by an invariant -/
theorem wp_for {P : Po} {g : List (Nat × List D)} {gt : MG} {body : MS} (I : Nat → Env → Hs → Prop) : ∀ {ds : List D} {ρ : Env} {h : Hs} (n : Nat), (∀ i ρ h, I i ρ h → Chk g h) → I n ρ h →
    (∀ i d ρ h, ds[i]? = some d → I (n + i) ρ h → wpR (gt (.d d) ρ h) (fun ρ' h' => wpS (body ρ' h') ⟨I (n + i + 1), P.rt, P.ex, P.nx, I (n + i + 1)⟩) noE) → (∀ ρ h, I (n + ds.length) ρ h → P.nx ρ h) → wpS (forR g gt body ds ρ h) P
  | [], ρ, h, n, hc, h0, st, fin => by
    unfold forR
    rw [if_pos (hc _ _ _ h0)]
    exact ⟨fin _ _ h0⟩
  | d :: ds, ρ, h, n, hc, h0, st, fin => by
    unfold forR
    rw [if_pos (hc _ _ _ h0)]
    have z := st 0 d ρ h rfl h0
    have ih : ∀ ρ2 h2, I (n + 1) ρ2 h2 → wpS (forR g gt body ds ρ2 h2) P := fun ρ2 h2 i2 => wp_for I (n + 1) hc i2
      (fun i d' ρ h e hi => by
        have y := st (i + 1) d' ρ h (by simpa using e) (by rw [show n + (i + 1) = n + 1 + i by omega]; exact hi)
        rw [show n + (i + 1) + 1 = n + 1 + i + 1 by omega] at y
        exact y) (fun ρ h hi => fin ρ h (by rw [List.length_cons, show n + (ds.length + 1) = n + 1 + ds.length by omega]; exact hi))
    cases eg : gt (.d d) ρ h with
    | ok ρ' h' =>
      rw [eg] at z
      have z : wpS (body ρ' h') _ := z.out
      show wpS (match body ρ' h' with
        | .nx ρ2 h2 => forR g gt body ds ρ2 h2
        | .ct ρ2 h2 => forR g gt body ds ρ2 h2
        | .bk ρ2 h2 => .nx ρ2 h2
        | r => r) P
      cases eb : body ρ' h' with
      | nx ρ2 h2 => rw [eb] at z; exact ih ρ2 h2 z.out
      | ct ρ2 h2 => rw [eb] at z; exact ih ρ2 h2 z.out
      | bk ρ2 h2 => rw [eb] at z; exact ⟨z.out⟩
      | rt v h => rw [eb] at z; exact ⟨z.out⟩
      | ex c v ρ h => rw [eb] at z; exact ⟨z.out⟩
      | no => rw [eb] at z; exact False.elim z.out
    | ex c v h => rw [eg] at z; exact False.elim z.out
    | no => rw [eg] at z; exact False.elim z.out
/-- a list comprehension by an invariant: the store and the items so far -/
theorem wp_comp {g : List (Nat × List D)} {gt : MG} {ft : Env → Hs → R Bool} {fe : MV} {ρ : Env} (I : Nat → Hs → List D → Prop) : ∀ {ds : List D} {h : Hs} {acc : List D} (n : Nat), (∀ i h acc, I i h acc → Chk g h) → I n h acc →
    (∀ i d h acc, ds[i]? = some d → I (n + i) h acc → Chk g h → wpR (gt (.d d) ρ h) (fun ρ1 h1 => wpR (ft ρ1 h1) (fun b h2 => if b = true then wpR (fe ρ1 h2) (fun v h3 => ∃ x, v = .d x ∧ acc.length < sizeLine ∧ I (n + i + 1) h3 (acc ++ [x])) noE else I (n + i + 1) h2 acc) noE) noE) →
    ∃ es h', compR g gt ft fe ρ ds h acc = some (es, h') ∧ I (n + ds.length) h' es
  | [], h, acc, n, hc, h0, st => by
    unfold compR
    rw [if_pos (hc _ _ _ h0)]
    exact ⟨acc, h, rfl, h0⟩
  | d :: ds, h, acc, n, hc, h0, st => by
    unfold compR
    rw [if_pos (hc _ _ _ h0)]
    have z := st 0 d h acc rfl h0 (hc _ _ _ h0)
    have ih : ∀ h2 acc2, I (n + 1) h2 acc2 → ∃ es h', compR g gt ft fe ρ ds h2 acc2 = some (es, h') ∧ I (n + (ds.length + 1)) h' es := fun h2 acc2 i2 => by
      have y := wp_comp (ds := ds) I (n + 1) hc i2
        (fun i d' h acc e hi ck => by
          have y := st (i + 1) d' h acc (by simpa using e) (by rw [show n + (i + 1) = n + 1 + i by omega]; exact hi) ck
          rw [show n + (i + 1) + 1 = n + 1 + i + 1 by omega] at y
          exact y)
      rw [show n + 1 + ds.length = n + (ds.length + 1) by omega] at y
      exact y
    cases eg : gt (.d d) ρ h with
    | ok ρ1 h1 =>
      rw [eg] at z
      have z : wpR (ft ρ1 h1) _ noE := z.out
      cases et : ft ρ1 h1 with
      | ok b h2 =>
        rw [et] at z
        cases b with
        | true =>
          have z : wpR (fe ρ1 h2) _ noE := z.out
          simp only [et]
          cases ee : fe ρ1 h2 with
          | ok v h3 =>
            rw [ee] at z
            obtain ⟨x, rfl, hl, hi⟩ := (z.out : ∃ x, v = .d x ∧ acc.length < sizeLine ∧ I (n + 1) h3 (acc ++ [x]))
            simp only
            rw [if_pos hl]
            exact ih _ _ hi
          | ex c v h => rw [ee] at z; exact False.elim z.out
          | no => rw [ee] at z; exact False.elim z.out
        | false =>
          simp only [et]
          exact ih _ _ z.out
      | ex c v h => rw [et] at z; exact False.elim z.out
      | no => rw [et] at z; exact False.elim z.out
    | ex c v h => rw [eg] at z; exact False.elim z.out
    | no => rw [eg] at z; exact False.elim z.out
/-- one that only reads: what each item gives -/
theorem compR_pure {g : List (Nat × List D)} {gt : MG} {ft : Env → Hs → R Bool} {fe : MV} {ρ : Env} {h : Hs} (f : D → Option D) (hc : Chk g h) : ∀ {ds : List D} {acc : List D}, acc.length + ds.length ≤ sizeLine →
    (∀ d ∈ ds, wpR (gt (.d d) ρ h) (fun ρ1 h1 => wpR (ft ρ1 h1) (fun b h2 => if b = true then wpR (fe ρ1 h2) (fun v h3 => ∃ x, v = .d x ∧ f d = some x ∧ h3 = h) noE else (f d = none ∧ h2 = h)) noE) noE) →
    compR g gt ft fe ρ ds h acc = some (acc ++ ds.filterMap f, h)
  | [], acc, _, _ => by
    unfold compR
    rw [if_pos hc, List.filterMap_nil, List.append_nil]
  | d :: ds, acc, hl, st => by
    unfold compR
    rw [if_pos hc]
    have z := st d List.mem_cons_self
    have st' := fun d' m => st d' (List.mem_cons_of_mem _ m)
    rw [List.length_cons] at hl
    cases eg : gt (.d d) ρ h with
    | ok ρ1 h1 =>
      rw [eg] at z
      have z : wpR (ft ρ1 h1) _ noE := z.out
      cases et : ft ρ1 h1 with
      | ok b h2 =>
        rw [et] at z
        cases b with
        | true =>
          have z : wpR (fe ρ1 h2) _ noE := z.out
          simp only [et]
          cases ee : fe ρ1 h2 with
          | ok v h3 =>
            rw [ee] at z
            obtain ⟨x, rfl, hx, rfl⟩ := (z.out : ∃ x, v = .d x ∧ f d = some x ∧ h3 = h)
            simp only
            rw [if_pos (by omega), compR_pure f hc (by rw [List.length_append, List.length_singleton]; omega) st', List.filterMap_cons, hx, List.append_assoc]
            rfl
          | ex c v h => rw [ee] at z; exact False.elim z.out
          | no => rw [ee] at z; exact False.elim z.out
        | false =>
          simp only [et]
          obtain ⟨hn, rfl⟩ := (z.out : f d = none ∧ h2 = h)
          rw [compR_pure f hc (by omega) st', List.filterMap_cons, hn]
      | ex c v h => rw [et] at z; exact False.elim z.out
      | no => rw [et] at z; exact False.elim z.out
    | ex c v h => rw [eg] at z; exact False.elim z.out
    | no => rw [eg] at z; exact False.elim z.out
/-- a comprehension over a list of known things, those that a test takes -/
theorem compR_fm {γ : Type} {g : List (Nat × List D)} {gt : MG} {ft : Env → Hs → R Bool} {fe : MV} {ρ : Env} {h : Hs} (A B : γ → D) (p : γ → Bool) (hc : Chk g h) : ∀ {l : List γ} {acc : List D}, acc.length + l.length ≤ sizeLine →
    (∀ x ∈ l, wpR (gt (.d (A x)) ρ h) (fun ρ1 h1 => wpR (ft ρ1 h1) (fun b h2 => b = p x ∧ h2 = h ∧ (p x = true → wpR (fe ρ1 h) (fun v h3 => v = .d (B x) ∧ h3 = h) noE)) noE) noE) →
    compR g gt ft fe ρ (l.map A) h acc = some (acc ++ (l.filter p).map B, h)
  | [], acc, _, _ => by
    rw [List.map_nil]
    unfold compR
    rw [if_pos hc, List.filter_nil, List.map_nil, List.append_nil]
  | x :: l, acc, hl, st => by
    rw [List.map_cons]
    unfold compR
    rw [if_pos hc]
    have z := st x List.mem_cons_self
    have st' := fun d' m => st d' (List.mem_cons_of_mem _ m)
    rw [List.length_cons] at hl
    cases eg : gt (.d (A x)) ρ h with
    | ok ρ1 h1 =>
      rw [eg] at z
      have z : wpR (ft ρ1 h1) _ noE := z.out
      cases et : ft ρ1 h1 with
      | ok b h2 =>
        rw [et] at z
        obtain ⟨rfl, rfl, z⟩ := (z.out : b = p x ∧ h2 = h ∧ (p x = true → wpR (fe ρ1 h) (fun v h3 => v = .d (B x) ∧ h3 = h) noE))
        simp only [et]
        cases ep : p x with
        | true =>
          have z := z ep
          cases ee : fe ρ1 h2 with
          | ok v h3 =>
            rw [ee] at z
            obtain ⟨rfl, rfl⟩ := (z.out : v = .d (B x) ∧ h3 = h2)
            simp only [ep, ee]
            rw [if_pos (by omega), compR_fm A B p hc (by rw [List.length_append, List.length_singleton]; omega) st', List.filter_cons, if_pos ep, List.map_cons, List.append_assoc]
            rfl
          | ex c v h => rw [ee] at z; exact False.elim z.out
          | no => rw [ee] at z; exact False.elim z.out
        | false =>
          simp only [ep]
          rw [compR_fm A B p hc (by omega) st', List.filter_cons, if_neg (by rw [ep]; exact Bool.false_ne_true)]
      | ex c v h => rw [et] at z; exact False.elim z.out
      | no => rw [et] at z; exact False.elim z.out
    | ex c v h => rw [eg] at z; exact False.elim z.out
    | no => rw [eg] at z; exact False.elim z.out
theorem compR_map {γ : Type} {g : List (Nat × List D)} {gt : MG} {fe : MV} {ρ : Env} {h : Hs} (A B : γ → D) {l : List γ} (hc : Chk g h) (hl : l.length ≤ sizeLine)
    (st : ∀ x ∈ l, wpR (gt (.d (A x)) ρ h) (fun ρ1 h1 => h1 = h ∧ wpR (fe ρ1 h) (fun v h3 => v = .d (B x) ∧ h3 = h) noE) noE) : compR g gt tYesD fe ρ (l.map A) h [] = some (l.map B, h) := by
  have z := compR_fm (ft := tYesD) A B (fun _ => true) (acc := []) hc (by rw [List.length_nil, Nat.zero_add]; exact hl) fun x m => wpR_mono (st x m) (fun ρ1 h1 ⟨e, w⟩ => by subst e; exact ⟨rfl, rfl, fun _ => w⟩) (fun _ _ _ h => h)
  rw [z, List.filter_eq_self.mpr (fun _ _ => rfl)]; rfl
theorem zip_maps {γ δ : Type} (A : γ → D) (B : δ → D) : ∀ (l : List γ) (m : List δ), List.zipWith (fun a b => PyData.tuple [a, b]) (l.map A) (m.map B) = (l.zip m).map fun p => .tuple [A p.1, B p.2]
  | [], _ => rfl
  | _ :: _, [] => rfl
  | a :: l, b :: m => by simp only [List.map_cons, List.zipWith_cons_cons, List.zip_cons_cons, zip_maps A B l m]
theorem zw {γ δ ε : Type} (f : γ → δ → ε) : ∀ (l : List γ) (m : List δ), List.zipWith f l m = (l.zip m).map fun p => f p.1 p.2
  | [], _ => by simp
  | _ :: _, [] => by simp
  | a :: l, b :: m => by rw [List.zipWith_cons_cons, List.zip_cons_cons, List.map_cons, zw f l m]
@[simp] theorem mkL_some (ds : List D) (h : Hs) : mkL (some (ds, h)) = .ok (.d (.list ds)) h := rfl
@[simp] theorem mkLM_some (ds : List D) (h : Hs) : mkLM (some (ds, h)) = .ok (.r h.length) (h ++ [.lst ds]) := rfl
@[simp] theorem mkDM_some (t : Bool) (kvs : List (D × D)) (h : Hs) : mkDM t (some (kvs, h)) = .ok (.r h.length) (h ++ [.dic t kvs]) := rfl
theorem sz_le {k : Nat} (h : k ≤ 4096) : k ≤ sizeLine := by rw [sizeLine_eq]; omega
@[simp] theorem isTuple_t (ds : List D) : isTuple (.tuple ds) = true := rfl
@[simp] theorem isInt_i (i : Int) : isInt (.int i) = true := rfl
@[simp] theorem isBool_i (i : Int) : isBool (.int i) = false := rfl
@[simp] theorem wipeD_cons (ρ : Env) (v : Nat) (vs : List Nat) : wipeD ρ (v :: vs) = (wipeD ρ vs).set v none := rfl
@[simp] theorem wipeD_nil (ρ : Env) : wipeD ρ [] = ρ := rfl
theorem shaped_int (i : Int) : SeqAt.shaped (.int i) = true := rfl
/-- data that are compared: nothing but numbers, None, truths in tuples and lists, not deep -/
theorem dEq_int (i j : Int) : dEq (.int i) (.int j) = some (.bool (decide (i = j))) := by
  unfold dEq
  rw [if_pos ⟨shaped_int i, shaped_int j⟩]
  show some (PyData.bool (i == j)) = _
  by_cases e : i = j <;> simp [e]
theorem dNe_int (i j : Int) : dNe (.int i) (.int j) = some (.bool (decide (i ≠ j))) := by
  unfold dNe
  rw [if_pos ⟨shaped_int i, shaped_int j⟩]
  show some (PyData.bool (!(i == j))) = _
  by_cases e : i = j <;> simp [e]
theorem putBy_len {κ : Type} [DecidableEq κ] (f : D → Option κ) (kvs : List (D × D)) (k : κ) (kd x : D) : (putBy f kvs k kd x).length ≤ kvs.length + 1 := by
  unfold putBy
  split
  · rw [List.length_map]; omega
  · rw [List.length_append, List.length_singleton]; omega
/-- a dict comprehension without tests over a list of known things, the keys tuples -/
theorem compDR_fold {γ : Type} {g : List (Nat × List D)} {gt : MG} {fk fe : MV} {ρ : Env} {h : Hs} (A : γ → D) (kf : γ → List Key) (kd vd : γ → D) (hc : Chk g h) : ∀ {l : List γ} {acc : List (D × D)}, acc.length + l.length ≤ sizeLine → (∀ x ∈ l, keysI (kd x) = some (kf x)) →
    (∀ x ∈ l, wpR (gt (.d (A x)) ρ h) (fun ρ1 h1 => h1 = h ∧ wpR (fk ρ1 h) (fun v h2 => v = .d (kd x) ∧ h2 = h ∧ wpR (fe ρ1 h) (fun v h3 => v = .d (vd x) ∧ h3 = h) noE) noE) noE) →
    compDR true g gt tYesD fk fe ρ (l.map A) h acc = some (l.foldl (fun acc x => putBy keysE acc (kf x) (kd x) (vd x)) acc, h)
  | [], acc, _, _, _ => by
    rw [List.map_nil]
    unfold compDR
    rw [if_pos hc]; rfl
  | x :: l, acc, hl, hk, st => by
    rw [List.map_cons]
    unfold compDR
    rw [if_pos hc]
    have z := st x List.mem_cons_self
    have st' := fun d' m => st d' (List.mem_cons_of_mem _ m)
    rw [List.length_cons] at hl
    cases eg : gt (.d (A x)) ρ h with
    | ok ρ1 h1 =>
      rw [eg] at z
      obtain ⟨rfl, z⟩ := (z.out : h1 = h ∧ _)
      cases ek : fk ρ1 h1 with
      | ok v h2 =>
        rw [ek] at z
        obtain ⟨rfl, rfl, z⟩ := (z.out : v = .d (kd x) ∧ h2 = h1 ∧ _)
        cases ee : fe ρ1 h2 with
        | ok v h3 =>
          rw [ee] at z
          obtain ⟨rfl, rfl⟩ := (z.out : v = .d (vd x) ∧ h3 = h2)
          have ep : dPutD true acc (kd x) (vd x) = some (putBy keysE acc (kf x) (kd x) (vd x)) := by
            unfold dPutD
            rw [if_pos (by omega), if_pos rfl, hk x List.mem_cons_self]; rfl
          simp only [tYesD, ek, ee, ep]
          have pl := putBy_len keysE acc (kf x) (kd x) (vd x)
          rw [compDR_fold A kf kd vd hc (by omega) (fun y m => hk y (List.mem_cons_of_mem _ m)) st', List.foldl_cons]
        | ex c v h => rw [ee] at z; exact False.elim z.out
        | no => rw [ee] at z; exact False.elim z.out
      | ex c v h => rw [ek] at z; exact False.elim z.out
      | no => rw [ek] at z; exact False.elim z.out
    | ex c v h => rw [eg] at z; exact False.elim z.out
    | no => rw [eg] at z; exact False.elim z.out
theorem putBy_new {κ : Type} [DecidableEq κ] {f : D → Option κ} {kvs : List (D × D)} {k : κ} {kd x : D} (h : ∀ p ∈ kvs, f p.1 ≠ some k) : putBy f kvs k kd x = kvs ++ [(kd, x)] := by
  unfold putBy
  rw [if_neg]
  intro z
  obtain ⟨p, hp, e⟩ := List.any_eq_true.mp z
  exact h p hp (of_decide_eq_true e)
theorem fold_new {γ : Type} (kf : γ → List Key) (kd vd : γ → D) : ∀ {l : List γ} {acc : List (D × D)}, (∀ x ∈ l, keysE (kd x) = some (kf x)) → (∀ p ∈ acc, ∀ x ∈ l, keysE p.1 ≠ some (kf x)) → (l.map kf).Nodup →
    l.foldl (fun acc x => putBy keysE acc (kf x) (kd x) (vd x)) acc = acc ++ l.map fun x => (kd x, vd x)
  | [], acc, _, _, _ => by simp
  | x :: l, acc, hk, ha, hn => by
    rw [List.map_cons, List.nodup_cons] at hn
    rw [List.foldl_cons, putBy_new (fun p m => ha p m x List.mem_cons_self), fold_new kf kd vd (fun y m => hk y (List.mem_cons_of_mem _ m)) (fun p m y my => ?_) hn.2, List.map_cons, List.append_assoc]; rfl
    rcases List.mem_append.mp m with m | m
    · exact ha p m y (List.mem_cons_of_mem _ my)
    · have e : p = (kd x, vd x) := by simpa using m
      rw [e, hk x List.mem_cons_self]
      intro z
      injection z with z
      exact hn.1 (z ▸ List.mem_map_of_mem my)
theorem keysE_ints (s : List Int) : keysE (.tuple (s.map .int)) = some (s.map .inl) := by
  have z := keysOf_map (s.map fun i => (Sum.inl i : Key))
  rw [List.map_map] at z
  exact z
theorem keysI_ints {s : List Int} (h : isCon (s.map PyData.int) = false) : keysI (.tuple (s.map .int)) = some (s.map .inl) := by
  show (if isCon (s.map PyData.int) = true then none else keysOf (s.map PyData.int)) = _
  rw [if_neg (by rw [h]; exact Bool.false_ne_true)]
  exact keysE_ints s
theorem atI_nat {α : Type} (xs : List α) (i : Nat) : atI xs (i : Int) = xs[i]? := by
  unfold atI ixN
  rw [if_pos (Int.natCast_nonneg i)]
  by_cases h : i < xs.length
  · rw [if_pos (by omega)]; rfl
  · rw [if_neg (by omega), List.getElem?_eq_none (by omega)]; rfl
theorem atI_zero {α : Type} (a : α) (as : List α) : atI (a :: as) 0 = some a := atI_nat (a :: as) 0
end DL

set_option Elab.async false
set_option linter.all false
set_option maxRecDepth 100000
set_option maxHeartbeats 1000000
namespace DL
open PySem PySem.Spec PyProof.Rows L2

/-! ### a while loop by an invariant and a number that falls -/
theorem wp_while_ex {P : Po} {c : Env → Hs → R Bool} {body : MS} (I : Nat → Env → Hs → Prop)
    (st : ∀ n ρ h, I n ρ h → wpR (c ρ h) (fun b h1 => if b = true then wpS (body ρ h1) ⟨fun ρ' h' => ∃ m, m < n ∧ I m ρ' h', P.rt, P.ex, P.nx, fun ρ' h' => ∃ m, m < n ∧ I m ρ' h'⟩ else P.nx ρ h1) (fun c v h => P.ex c v ρ h)) :
    ∀ (n : Nat) (ρ : Env) (h : Hs), I n ρ h → wpS (whileN c body (n + 1) ρ h) P := by
  intro n
  induction n using Nat.strongRecOn with
  | ind n ih =>
    intro ρ h hi
    have z := st n ρ h hi
    unfold whileN
    cases ec : c ρ h with
    | ok b h1 =>
      rw [ec] at z
      have z : if b = true then wpS (body ρ h1) _ else P.nx ρ h1 := z.out
      show wpS (if b = true then _ else _) P
      cases b with
      | false => exact ⟨z⟩
      | true =>
        have z : wpS (body ρ h1) _ := z
        show wpS (match body ρ h1 with
          | .nx ρ2 h2 => whileN c body n ρ2 h2
          | .ct ρ2 h2 => whileN c body n ρ2 h2
          | .bk ρ2 h2 => .nx ρ2 h2
          | r => r) P
        have go : ∀ ρ2 h2, (∃ m, m < n ∧ I m ρ2 h2) → wpS (whileN c body n ρ2 h2) P := fun ρ2 h2 ⟨m, hm, i2⟩ => by
          have y := ih m hm ρ2 h2 i2
          have ne : whileN c body (m + 1) ρ2 h2 ≠ .no := fun e => by rw [e] at y; exact y.out
          rw [whileN_up c body (m + 1) n ρ2 h2 ne hm]
          exact y
        cases eb : body ρ h1 with
        | nx ρ2 h2 => rw [eb] at z; exact go ρ2 h2 z.out
        | ct ρ2 h2 => rw [eb] at z; exact go ρ2 h2 z.out
        | bk ρ2 h2 => rw [eb] at z; exact ⟨z.out⟩
        | rt v h => rw [eb] at z; exact ⟨z.out⟩
        | ex c v ρ h => rw [eb] at z; exact ⟨z.out⟩
        | no => rw [eb] at z; exact False.elim z.out
    | ex cc v h => rw [ec] at z; exact ⟨z.out⟩
    | no => rw [ec] at z; exact False.elim z.out
theorem wp_while {P : Po} {c : Env → Hs → R Bool} {body : MS} (I : Nat → Env → Hs → Prop) {n : Nat} {ρ : Env} {h : Hs} (h0 : I n ρ h)
    (st : ∀ n ρ h, I n ρ h → wpR (c ρ h) (fun b h1 => if b = true then wpS (body ρ h1) ⟨fun ρ' h' => ∃ m, m < n ∧ I m ρ' h', P.rt, P.ex, P.nx, fun ρ' h' => ∃ m, m < n ∧ I m ρ' h'⟩ else P.nx ρ h1) (fun c v h => P.ex c v ρ h)) :
    wpS (sWhile c body ρ h) P := by
  have z := wp_while_ex I st n ρ h h0
  have ne : whileN c body (n + 1) ρ h ≠ .no := fun e => by rw [e] at z; exact z.out
  rw [sWhile_eq ne]
  exact z

/-! ### numbers as fractions in lowest terms -/
def qD (q : Rat) : D := .tuple [.int q.num, .int (q.den : Int)]
/-- a whole number of at most n bits -/
def Lt2 (n : Nat) (i : Int) : Prop := i.natAbs < 2 ^ n
def Bd (n : Nat) (q : Rat) : Prop := Lt2 n q.num ∧ q.den < 2 ^ n
theorem Lt2.mono {n m : Nat} {i : Int} (h : Lt2 n i) (e : n ≤ m) : Lt2 m i := Nat.lt_of_lt_of_le h (Nat.pow_le_pow_right (by omega) e)
theorem Bd.mono {n m : Nat} {q : Rat} (h : Bd n q) (e : n ≤ m) : Bd m q := ⟨h.1.mono e, Nat.lt_of_lt_of_le h.2 (Nat.pow_le_pow_right (by omega) e)⟩
theorem Lt2.den {n : Nat} {q : Rat} (h : Bd n q) : Lt2 n (q.den : Int) := by
  show (q.den : Int).natAbs < _
  rw [Int.natAbs_natCast]
  exact h.2
theorem Lt2.log {n : Nat} {i : Int} (h : Lt2 n i) : i.natAbs.log2 ≤ n := by
  by_cases e : i.natAbs = 0
  · rw [e]; exact Nat.zero_le _
  · exact Nat.le_of_lt ((Nat.log2_lt e).mpr h)
theorem Lt2.mul {n m : Nat} {i j : Int} (h : Lt2 n i) (k : Lt2 m j) : Lt2 (n + m) (i * j) := by
  unfold Lt2 at *
  rw [Int.natAbs_mul, Nat.pow_add]
  calc i.natAbs * j.natAbs ≤ i.natAbs * 2 ^ m := Nat.mul_le_mul_left _ (Nat.le_of_lt k)
    _ < 2 ^ n * 2 ^ m := Nat.mul_lt_mul_of_pos_right h (Nat.pow_pos (by omega))
theorem Lt2.add {n m : Nat} {i j : Int} (h : Lt2 n i) (k : Lt2 m j) : Lt2 (n + m + 1) (i + j) := by
  unfold Lt2 at *
  have a : 2 ^ n ≤ 2 ^ (n + m) := Nat.pow_le_pow_right (by omega) (by omega)
  have b : 2 ^ m ≤ 2 ^ (n + m) := Nat.pow_le_pow_right (by omega) (by omega)
  rw [Nat.pow_succ]
  omega
theorem Lt2.add2 {n : Nat} {i j : Int} (h : Lt2 n i) (k : Lt2 n j) : Lt2 (n + 1) (i + j) := by
  unfold Lt2 at *
  rw [Nat.pow_succ]
  omega
theorem Lt2.neg {n : Nat} {i : Int} (h : Lt2 n i) : Lt2 n (-i) := by unfold Lt2 at *; rw [Int.natAbs_neg]; exact h
theorem mulOk_of {n m : Nat} {i j : Int} (h : Lt2 n i) (k : Lt2 m j) (e : n + m < 50000000) : mulOk i j = true := by
  unfold mulOk
  have a := h.log
  have b := k.log
  exact decide_eq_true (by omega)
theorem dMul_of {n m : Nat} {i j : Int} (h : Lt2 n i) (k : Lt2 m j) (e : n + m < 50000000) : dMul (.int i) (.int j) = some (.int (i * j)) := by
  show (if mulOk i j = true then _ else _) = _
  rw [if_pos (mulOk_of h k e)]
/-- what both sides are divided by: of the lower side's sign -/
def comm2 (t b : Int) : Int := if b < 0 then -((Nat.gcd t.natAbs b.natAbs : Nat) : Int) else ((Nat.gcd t.natAbs b.natAbs : Nat) : Int)
theorem comm2_ne {t b : Int} (hb : b ≠ 0) : comm2 t b ≠ 0 := by
  have : 0 < Nat.gcd t.natAbs b.natAbs := Nat.gcd_pos_of_pos_right _ (Int.natAbs_pos.mpr hb)
  unfold comm2
  split <;> omega
theorem comm2_num {t b : Int} (hb : b ≠ 0) : t.fdiv (comm2 t b) = (Rat.divInt t b).num := by
  have gp : 0 < Nat.gcd t.natAbs b.natAbs := Nat.gcd_pos_of_pos_right _ (Int.natAbs_pos.mpr hb)
  have eg : b.gcd t = Nat.gcd t.natAbs b.natAbs := Nat.gcd_comm _ _
  have dv : ((Nat.gcd t.natAbs b.natAbs : Nat) : Int) ∣ t := Int.ofNat_dvd_left.mpr (Nat.gcd_dvd_left _ _)
  rw [Rat.num_divInt, eg]
  unfold comm2
  generalize Nat.gcd t.natAbs b.natAbs = g at *
  obtain ⟨k, rfl⟩ := dv
  have g0 : (g : Int) ≠ 0 := by omega
  split
  · rename_i h
    rw [Int.sign_eq_neg_one_of_neg h, Int.fdiv_eq_ediv_of_dvd (Int.neg_dvd.mpr (Int.dvd_mul_right _ _)), Int.ediv_neg, Int.mul_ediv_cancel_left _ g0,
      show (-1 : Int) * (g * k) = g * -k by rw [Int.mul_neg, Int.neg_mul, Int.one_mul], Int.mul_ediv_cancel_left _ g0]
  · rename_i h
    rw [Int.sign_eq_one_of_pos (by omega), Int.one_mul, Int.fdiv_eq_ediv_of_dvd (Int.dvd_mul_right _ _)]
theorem comm2_den {t b : Int} (hb : b ≠ 0) : b.fdiv (comm2 t b) = ((Rat.divInt t b).den : Int) := by
  have gp : 0 < Nat.gcd t.natAbs b.natAbs := Nat.gcd_pos_of_pos_right _ (Int.natAbs_pos.mpr hb)
  have eg : b.gcd t = Nat.gcd t.natAbs b.natAbs := Nat.gcd_comm _ _
  have dv : ((Nat.gcd t.natAbs b.natAbs : Nat) : Int) ∣ b := Int.ofNat_dvd_left.mpr (Nat.gcd_dvd_right _ _)
  rw [Rat.den_divInt, if_neg hb, eg, Int.natCast_ediv]
  unfold comm2
  generalize Nat.gcd t.natAbs b.natAbs = g at *
  have g0 : (g : Int) ≠ 0 := by omega
  split
  · rename_i h
    rw [Int.fdiv_eq_ediv_of_dvd (Int.neg_dvd.mpr dv), Int.ediv_neg, show ((b.natAbs : Nat) : Int) = -b by omega, Int.neg_ediv_of_dvd dv]
  · rename_i h
    rw [Int.fdiv_eq_ediv_of_dvd dv, show ((b.natAbs : Nat) : Int) = b by omega]
theorem comm2_log {n : Nat} {t b : Int} (hb : b ≠ 0) (h : Lt2 n b) : (comm2 t b).natAbs.log2 ≤ n := by
  have a : (comm2 t b).natAbs = Nat.gcd t.natAbs b.natAbs := by unfold comm2; split <;> simp
  have c : Nat.gcd t.natAbs b.natAbs ≤ b.natAbs := Nat.le_of_dvd (Int.natAbs_pos.mpr hb) (Nat.gcd_dvd_right _ _)
  have : Lt2 n (comm2 t b) := by unfold Lt2; rw [a]; exact Nat.lt_of_le_of_lt c h
  exact this.log
theorem Bd.divInt {n : Nat} {t b : Int} (hb : b ≠ 0) (ht : Lt2 n t) (h : Lt2 n b) : Bd n (Rat.divInt t b) := by
  have gp : 0 < Nat.gcd t.natAbs b.natAbs := Nat.gcd_pos_of_pos_right _ (Int.natAbs_pos.mpr hb)
  have eg : b.gcd t = Nat.gcd t.natAbs b.natAbs := Nat.gcd_comm _ _
  constructor
  · unfold Lt2
    rw [Rat.num_divInt, eg]
    have dv : ((Nat.gcd t.natAbs b.natAbs : Nat) : Int) ∣ b.sign * t := Int.dvd_mul_of_dvd_right (Int.ofNat_dvd_left.mpr (Nat.gcd_dvd_left _ _))
    rw [Int.natAbs_ediv_of_dvd dv, Int.natAbs_mul, Int.natAbs_natCast, Int.natAbs_sign_of_ne_zero hb, Nat.one_mul]
    exact Nat.lt_of_le_of_lt (Nat.div_le_self _ _) ht
  · rw [Rat.den_divInt, if_neg hb]
    exact Nat.lt_of_le_of_lt (Nat.div_le_self _ _) h
theorem qadd (a b : Rat) : Rat.divInt (a.num * b.den + b.num * a.den) (a.den * b.den) = a + b := by
  have h1 := Rat.num_divInt_den a
  have h2 := Rat.num_divInt_den b
  have d1 : (a.den : Int) ≠ 0 := by have := a.den_nz; omega
  have d2 : (b.den : Int) ≠ 0 := by have := b.den_nz; omega
  rw [← Rat.divInt_add_divInt _ _ d1 d2, h1, h2]
theorem qmul (a b : Rat) : Rat.divInt (a.num * b.num) (a.den * b.den) = a * b := by
  have h1 := Rat.num_divInt_den a
  have h2 := Rat.num_divInt_den b
  rw [← Rat.divInt_mul_divInt, h1, h2]
theorem Bd.add {n m : Nat} {a b : Rat} (h : Bd n a) (k : Bd m b) : Bd (n + m + 1) (a + b) := by
  rw [← qadd]
  have d1 : (a.den : Int) ≠ 0 := by have := a.den_nz; omega
  have d2 : (b.den : Int) ≠ 0 := by have := b.den_nz; omega
  refine Bd.divInt (Int.mul_ne_zero d1 d2) ?_ ?_
  · exact (h.1.mul (Lt2.den k)).add2 ((k.1.mul (Lt2.den h)).mono (by omega))
  · exact ((Lt2.den h).mul (Lt2.den k)).mono (by omega)
theorem Bd.mul {n m : Nat} {a b : Rat} (h : Bd n a) (k : Bd m b) : Bd (n + m) (a * b) := by
  rw [← qmul]
  have d1 : (a.den : Int) ≠ 0 := by have := a.den_nz; omega
  have d2 : (b.den : Int) ≠ 0 := by have := b.den_nz; omega
  exact Bd.divInt (Int.mul_ne_zero d1 d2) (h.1.mul k.1) ((Lt2.den h).mul (Lt2.den k))
theorem Bd.int {n : Nat} {i : Int} (h : Lt2 n i) : Bd (n + 1) (i : Rat) := by
  refine ⟨?_, ?_⟩
  · rw [Rat.num_intCast]; exact h.mono (by omega)
  · rw [Rat.den_intCast]
    exact Nat.lt_of_lt_of_le (by decide : 1 < 2 ^ 1) (Nat.pow_le_pow_right (by omega) (by omega))
theorem Bd.neg {n : Nat} {q : Rat} (h : Bd n q) : Bd n (-q) := ⟨by rw [Rat.neg_num]; exact h.1.neg, by rw [Rat.neg_den]; exact h.2⟩
theorem qD_int (i : Int) : qD (i : Rat) = .tuple [.int i, .int 1] := by
  unfold qD
  rw [Rat.num_intCast, Rat.den_intCast]; rfl
theorem qD_zero : qD 0 = .tuple [.int 0, .int 1] := rfl
end DL

set_option Elab.async false
set_option linter.all false
set_option maxRecDepth 100000
set_option maxHeartbeats 1000000
namespace DL
open PySem PySem.Spec PyProof.Rows L2

/-! ### what sums and products are divided by -/
theorem comm2_abs (t b : Int) : (comm2 t b).natAbs = Nat.gcd t.natAbs b.natAbs := by unfold comm2; split <;> simp
theorem log_lt {k n : Nat} (h : k < 2 ^ n) (hn : 0 < n) : k.log2 < n := by
  by_cases e : k = 0
  · rw [e]; exact hn
  · exact (Nat.log2_lt e).mpr h
theorem gcd_mul_le {t a b x y : Nat} (ha : 0 < a) (hb : 0 < b) (h1 : Nat.gcd t a ≤ x) (h2 : Nat.gcd t b ≤ y) : Nat.gcd t (a * b) ≤ x * y := by
  have d := Nat.gcd_mul_right_dvd_mul_gcd t a b
  have p : 0 < Nat.gcd t a * Nat.gcd t b := Nat.mul_pos (Nat.gcd_pos_of_pos_right _ ha) (Nat.gcd_pos_of_pos_right _ hb)
  exact Nat.le_trans (Nat.le_of_dvd p d) (Nat.mul_le_mul h1 h2)
theorem gcd_cop {a b c : Nat} (h : Nat.Coprime a c) : Nat.gcd (a * b) c = Nat.gcd b c := Nat.Coprime.gcd_mul_left_cancel b h
theorem cop_q (q : Rat) : Nat.Coprime q.num.natAbs q.den := q.reduced
theorem min_pow {k n m : Nat} (h1 : k < 2 ^ n) (h2 : k < 2 ^ m) : k < 2 ^ min n m := by
  rcases Nat.le_total n m with h | h
  · rw [Nat.min_eq_left h]; exact h1
  · rw [Nat.min_eq_right h]; exact h2
theorem gcd_lt {k a n : Nat} (ha : 0 < a) (h : a < 2 ^ n) : Nat.gcd k a < 2 ^ n := Nat.lt_of_le_of_lt (Nat.le_of_dvd ha (Nat.gcd_dvd_right _ _)) h
theorem gcd_lt' {k a n : Nat} (ha : 0 < k) (h : k < 2 ^ n) : Nat.gcd k a < 2 ^ n := Nat.lt_of_le_of_lt (Nat.le_of_dvd ha (Nat.gcd_dvd_left _ _)) h
theorem log_sq {g x y n : Nat} (h : g ≤ x * y) (hx : x < 2 ^ n) (hy : y < 2 ^ n) : g.log2 ≤ 2 * n := by
  have : g < 2 ^ (2 * n + 1) := by
    have z : x * y ≤ 2 ^ n * 2 ^ n := Nat.mul_le_mul (Nat.le_of_lt hx) (Nat.le_of_lt hy)
    rw [← Nat.pow_add, show n + n = 2 * n by omega] at z
    rw [Nat.pow_succ]
    have := Nat.pow_pos (n := 2 * n) (show 0 < 2 by decide)
    omega
  have := log_lt this (by omega)
  omega
theorem comm_add {n m : Nat} {a b : Rat} (ha : Bd n a) (hb : Bd m b) : (comm2 (a.num * b.den + b.num * a.den) (a.den * b.den)).natAbs.log2 ≤ 2 * min n m := by
  have pa := a.den_pos
  have pb := b.den_pos
  rw [comm2_abs]
  have e1 : ((a.num * (b.den : Int) + b.num * a.den).natAbs).gcd a.den = Nat.gcd b.den a.den := by
    have z : Nat.gcd (a.num * (b.den : Int) + b.num * a.den).natAbs a.den = Nat.gcd (a.num * (b.den : Int)).natAbs a.den := by
      show Int.gcd (a.num * (b.den : Int) + b.num * a.den) (a.den : Int) = Int.gcd (a.num * (b.den : Int)) (a.den : Int)
      rw [Int.mul_comm b.num, Int.gcd_add_mul_left_left]
    rw [z, Int.natAbs_mul, Int.natAbs_natCast, gcd_cop (cop_q a)]
  have e2 : ((a.num * (b.den : Int) + b.num * a.den).natAbs).gcd b.den = Nat.gcd a.den b.den := by
    have z : Nat.gcd (a.num * (b.den : Int) + b.num * a.den).natAbs b.den = Nat.gcd (b.num * (a.den : Int)).natAbs b.den := by
      show Int.gcd (a.num * (b.den : Int) + b.num * a.den) (b.den : Int) = Int.gcd (b.num * (a.den : Int)) (b.den : Int)
      rw [Int.add_comm, Int.mul_comm a.num, Int.gcd_add_mul_left_left]
    rw [z, Int.natAbs_mul, Int.natAbs_natCast, gcd_cop (cop_q b)]
  have eb : ((a.den : Int) * (b.den : Int)).natAbs = a.den * b.den := by rw [Int.natAbs_mul, Int.natAbs_natCast, Int.natAbs_natCast]
  rw [eb]
  have l1 : Nat.gcd b.den a.den < 2 ^ min n m := min_pow (gcd_lt pa ha.2) (gcd_lt' pb hb.2)
  have l2 : Nat.gcd a.den b.den < 2 ^ min n m := by rw [Nat.gcd_comm]; exact l1
  exact log_sq (gcd_mul_le pa pb (Nat.le_of_eq e1) (Nat.le_of_eq e2)) l1 l2
theorem comm_mul {n m : Nat} {a b : Rat} (ha : Bd n a) (hb : Bd m b) (hn : min n m ≤ 4400 ∧ n ≤ 8900 ∧ m ≤ 8900) : (comm2 (a.num * b.num) (a.den * b.den)).natAbs.log2 < 9000 := by
  have pa := a.den_pos
  have pb := b.den_pos
  rw [comm2_abs]
  have eb : ((a.den : Int) * (b.den : Int)).natAbs = a.den * b.den := by rw [Int.natAbs_mul, Int.natAbs_natCast, Int.natAbs_natCast]
  rw [eb, Int.natAbs_mul]
  have e1 : Nat.gcd (a.num.natAbs * b.num.natAbs) a.den = Nat.gcd b.num.natAbs a.den := gcd_cop (cop_q a)
  have e2 : Nat.gcd (a.num.natAbs * b.num.natAbs) b.den = Nat.gcd a.num.natAbs b.den := by rw [Nat.mul_comm]; exact gcd_cop (cop_q b)
  have lg : ∀ {k j : Nat}, k < 2 ^ j → j ≤ 8900 → k.log2 < 9000 := fun h hj => by
    have := log_lt (Nat.lt_of_lt_of_le h (Nat.pow_le_pow_right (by omega) (show _ ≤ 8901 by omega))) (by omega)
    omega
  have one : ∀ q : Rat, q.num = 0 → q.den = 1 := fun q z => by
    have := cop_q q
    rw [z] at this
    simpa [Nat.Coprime] using this
  by_cases z1 : a.num = 0
  · rw [z1, one a z1, Nat.one_mul, show (0 : Int).natAbs * b.num.natAbs = 0 by simp, Nat.gcd_zero_left]
    exact lg hb.2 (by omega)
  · by_cases z2 : b.num = 0
    · rw [z2, one b z2, Nat.mul_one, show a.num.natAbs * (0 : Int).natAbs = 0 by simp, Nat.gcd_zero_left]
      exact lg ha.2 (by omega)
    · have l1 : Nat.gcd b.num.natAbs a.den < 2 ^ min n m := min_pow (gcd_lt pa ha.2) (gcd_lt' (by omega) hb.1)
      have l2 : Nat.gcd a.num.natAbs b.den < 2 ^ min n m := min_pow (gcd_lt' (by omega) ha.1) (gcd_lt pb hb.2)
      have := log_sq (gcd_mul_le pa pb (Nat.le_of_eq e1) (Nat.le_of_eq e2)) l1 l2
      omega
/-! ### ranges, a law's end -/
theorem rng_get {n : Nat} {j : Nat} {d : D} (h : (rng 0 n)[j]? = some d) : j < n ∧ d = .int (j : Int) := by
  have e : rng 0 n = (List.range n).map fun i : Nat => PyData.int (i : Int) := by simp [rng]
  rw [e, List.getElem?_map] at h
  obtain ⟨a, ha, rfl⟩ := Option.map_eq_some_iff.mp h
  obtain ⟨h1, h2⟩ := List.getElem?_eq_some_iff.mp ha
  simp at h1 h2
  exact ⟨h1, by rw [h2]⟩
theorem rng_len (n : Nat) : (rng 0 n).length = n := by simp [rng]
theorem ex_hs {F : FnD} {us : List Val} {h : Hs} {u : Val} (w : wpR (F us h) (fun v _ => v = u) noE) : ∃ hs, F us h = .ok u hs := by
  cases e : F us h with
  | ok v hs => rw [e] at w; exact ⟨hs, by rw [(w.out : v = _)]⟩
  | ex c v hs => rw [e] at w; exact w.out.elim
  | no => rw [e] at w; exact w.out.elim
/-- how many turns a law takes: of the script's length, at least two, at most so many -/
theorem turns (ns : List Int) (k : Nat) (hk : 2 ≤ k) : ∃ c : Nat, c ≤ k ∧ 2 ≤ c ∧ (if 2 < if (k : Int) < (ns.length : Int) then (k : Int) else (ns.length : Int) then if (k : Int) < (ns.length : Int) then (k : Int) else (ns.length : Int) else 2) = (c : Int) := by
  refine ⟨max 2 (min k ns.length), by omega, by omega, ?_⟩
  split <;> split at * <;> omega
/-! ### comprehensions, as they stand in what is to be shown -/
section
variable {γ : Type} {g : List (Nat × List D)} {gt : MG} {ft : Env → Hs → R Bool} {fe : MV} {ρ : Env} {h : Hs} {xs : List D} {Q : Val → Hs → Prop} {E : EP}
theorem wp_lc_map (A B : γ → D) {l : List γ} (hx : xs = l.map A) (hc : Chk g h) (hl : l.length ≤ sizeLine)
    (st : ∀ x ∈ l, wpR (gt (.d (A x)) ρ h) (fun ρ1 h1 => h1 = h ∧ wpR (fe ρ1 h) (fun v h3 => v = .d (B x) ∧ h3 = h) noE) noE)
    (k : Q (.d (.list (l.map B))) h) : wpR (mkL (compR g gt tYesD fe ρ xs h [])) Q E := by
  rw [hx, compR_map A B hc hl st, mkL_some, wpR_ok]
  exact k
theorem wp_lcM_map (A B : γ → D) {l : List γ} (hx : xs = l.map A) (hc : Chk g h) (hl : l.length ≤ sizeLine)
    (st : ∀ x ∈ l, wpR (gt (.d (A x)) ρ h) (fun ρ1 h1 => h1 = h ∧ wpR (fe ρ1 h) (fun v h3 => v = .d (B x) ∧ h3 = h) noE) noE)
    (k : Q (.r h.length) (h ++ [.lst (l.map B)])) : wpR (mkLM (compR g gt tYesD fe ρ xs h [])) Q E := by
  rw [hx, compR_map A B hc hl st, mkLM_some, wpR_ok]
  exact k
theorem wp_lc_fm (A B : γ → D) (p : γ → Bool) {l : List γ} (hx : xs = l.map A) (hc : Chk g h) (hl : l.length ≤ sizeLine)
    (st : ∀ x ∈ l, wpR (gt (.d (A x)) ρ h) (fun ρ1 h1 => wpR (ft ρ1 h1) (fun b h2 => b = p x ∧ h2 = h ∧ (p x = true → wpR (fe ρ1 h) (fun v h3 => v = .d (B x) ∧ h3 = h) noE)) noE) noE)
    (k : Q (.d (.list ((l.filter p).map B))) h) : wpR (mkL (compR g gt ft fe ρ xs h [])) Q E := by
  rw [hx, compR_fm A B p hc (by rw [List.length_nil, Nat.zero_add]; exact hl) st, mkL_some, wpR_ok, List.nil_append]
  exact k
theorem filter_none {γ : Type} (l : List γ) : l.filter (fun _ => false) = [] := by
  induction l with
  | nil => rfl
  | cons x l ih => rw [List.filter_cons, if_neg (by decide), ih]
theorem zip_self {γ : Type} (l : List γ) : l.zip l = l.map fun x => (x, x) := by
  induction l with
  | nil => rfl
  | cons x l ih => rw [List.zip_cons_cons, ih, List.map_cons]
/-- one that takes nothing -/
theorem wp_lc_none (A : γ → D) {l : List γ} (hx : xs = l.map A) (hc : Chk g h) (hl : l.length ≤ sizeLine)
    (st : ∀ x ∈ l, wpR (gt (.d (A x)) ρ h) (fun ρ1 h1 => wpR (ft ρ1 h1) (fun b h2 => b = false ∧ h2 = h) noE) noE)
    (k : Q (.d (.list [])) h) : wpR (mkL (compR g gt ft fe ρ xs h [])) Q E := by
  refine wp_lc_fm A (fun _ => .none) (fun _ => false) hx hc hl (fun x m => wpR_mono (st x m) (fun ρ1 h1 w => wpR_mono w (fun b h2 ⟨e, f⟩ => ⟨e, f, fun z => by cases z⟩) (fun _ _ _ z => z)) (fun _ _ _ z => z)) ?_
  rw [filter_none]
  exact k
/-- one that changes the store: by an invariant -/
theorem wp_lc_inv (I : Nat → Hs → List D → Prop) (hc : ∀ i h acc, I i h acc → Chk g h) (h0 : I 0 h [])
    (st : ∀ i d h acc, xs[i]? = some d → I i h acc → Chk g h → wpR (gt (.d d) ρ h) (fun ρ1 h1 => wpR (ft ρ1 h1) (fun b h2 => if b = true then wpR (fe ρ1 h2) (fun v h3 => ∃ x, v = .d x ∧ acc.length < sizeLine ∧ I (i + 1) h3 (acc ++ [x])) noE else I (i + 1) h2 acc) noE) noE)
    (k : ∀ es h', I xs.length h' es → Q (.d (.list es)) h') : wpR (mkL (compR g gt ft fe ρ xs h [])) Q E := by
  obtain ⟨es, h', e, i⟩ := wp_comp (g := g) (gt := gt) (ft := ft) (fe := fe) (ρ := ρ) I (ds := xs) 0 hc h0 (fun i d h acc hd hi ck => by
    rw [Nat.zero_add] at hi ⊢
    exact st i d h acc hd hi ck)
  rw [e, mkL_some, wpR_ok]
  rw [Nat.zero_add] at i
  exact k es h' i
theorem wp_lcM_inv (I : Nat → Hs → List D → Prop) (hc : ∀ i h acc, I i h acc → Chk g h) (h0 : I 0 h [])
    (st : ∀ i d h acc, xs[i]? = some d → I i h acc → Chk g h → wpR (gt (.d d) ρ h) (fun ρ1 h1 => wpR (ft ρ1 h1) (fun b h2 => if b = true then wpR (fe ρ1 h2) (fun v h3 => ∃ x, v = .d x ∧ acc.length < sizeLine ∧ I (i + 1) h3 (acc ++ [x])) noE else I (i + 1) h2 acc) noE) noE)
    (k : ∀ es h', I xs.length h' es → Q (.r h'.length) (h' ++ [.lst es])) : wpR (mkLM (compR g gt ft fe ρ xs h [])) Q E := by
  obtain ⟨es, h', e, i⟩ := wp_comp (g := g) (gt := gt) (ft := ft) (fe := fe) (ρ := ρ) I (ds := xs) 0 hc h0 (fun i d h acc hd hi ck => by
    rw [Nat.zero_add] at hi ⊢
    exact st i d h acc hd hi ck)
  rw [e, mkLM_some, wpR_ok]
  rw [Nat.zero_add] at i
  exact k es h' i
end
/-- a for loop, its list known item by item -/
theorem wp_for0 {P : Po} {g : List (Nat × List D)} {gt : MG} {body : MS} {ds : List D} {ρ : Env} {h : Hs} (I : Nat → Env → Hs → Prop) (hc : ∀ i ρ h, I i ρ h → Chk g h) (h0 : I 0 ρ h)
    (st : ∀ i d ρ h, ds[i]? = some d → I i ρ h → wpR (gt (.d d) ρ h) (fun ρ' h' => wpS (body ρ' h') ⟨I (i + 1), P.rt, P.ex, P.nx, I (i + 1)⟩) noE) (fin : ∀ ρ h, I ds.length ρ h → P.nx ρ h) : wpS (forR g gt body ds ρ h) P :=
  wp_for I 0 hc h0 (fun i d ρ h e hi => by
    rw [Nat.zero_add] at hi ⊢
    exact st i d ρ h e hi) (fun ρ h hi => fin ρ h (by rw [Nat.zero_add] at hi; exact hi))
end DL

set_option Elab.async false
set_option linter.all false
set_option maxRecDepth 100000
set_option maxHeartbeats 1000000
namespace DL
open PySem PySem.Spec PyProof.Rows L2

/-! ### fractions over one lower side -/
def Fr (B : Nat) (D : Int) (q : Rat) : Prop := ∃ k : Int, q = (k : Rat) / (D : Rat) ∧ Lt2 B k
theorem ic0 {D : Int} (h : D ≠ 0) : (D : Rat) ≠ 0 := fun e => h (Rat.intCast_eq_zero_iff.mp e)
theorem Fr.bd {B C : Nat} {D : Int} {q : Rat} (f : Fr B D q) (h0 : D ≠ 0) (hD : Lt2 C D) : Bd (max B C) q := by
  obtain ⟨k, rfl, hk⟩ := f
  rw [← Rat.divInt_eq_div]
  exact Bd.divInt h0 (hk.mono (Nat.le_max_left _ _)) (hD.mono (Nat.le_max_right _ _))
theorem Fr.mono {B C : Nat} {D : Int} {q : Rat} (f : Fr B D q) (h : B ≤ C) : Fr C D q := by
  obtain ⟨k, e, hk⟩ := f
  exact ⟨k, e, hk.mono h⟩
theorem Fr.scale {B C : Nat} {D c : Int} {q : Rat} (f : Fr B D q) (h0 : D ≠ 0) (hc : c ≠ 0) (lc : Lt2 C c) : Fr (B + C) (D * c) q := by
  obtain ⟨k, rfl, hk⟩ := f
  refine ⟨k * c, ?_, hk.mul lc⟩
  have a := ic0 h0
  have b := ic0 hc
  rw [Rat.intCast_mul, Rat.intCast_mul]
  grind
theorem Fr.scale' {B C : Nat} {D c : Int} {q : Rat} (f : Fr B D q) (h0 : D ≠ 0) (hc : c ≠ 0) (lc : Lt2 C c) : Fr (B + C) (c * D) q := by
  rw [Int.mul_comm]
  exact f.scale h0 hc lc
theorem Fr.add {B C : Nat} {D : Int} {q r : Rat} (f : Fr B D q) (g : Fr C D r) (h0 : D ≠ 0) : Fr (max B C + 1) D (q + r) := by
  obtain ⟨k, rfl, hk⟩ := f
  obtain ⟨j, rfl, hj⟩ := g
  refine ⟨k + j, ?_, (hk.mono (Nat.le_max_left _ _)).add2 (hj.mono (Nat.le_max_right _ _))⟩
  rw [Rat.intCast_add]
  grind
theorem Fr.neg {B : Nat} {D : Int} {q : Rat} (f : Fr B D q) : Fr B D (-q) := by
  obtain ⟨k, rfl, hk⟩ := f
  refine ⟨-k, ?_, hk.neg⟩
  rw [Rat.intCast_neg]
  grind
theorem Fr.sub {B C : Nat} {D : Int} {q r : Rat} (f : Fr B D q) (g : Fr C D r) (h0 : D ≠ 0) : Fr (max B C + 1) D (q - r) := by
  rw [Rat.sub_eq_add_neg]
  exact f.add g.neg h0
theorem Fr.mul {B C : Nat} {D E : Int} {q r : Rat} (f : Fr B D q) (g : Fr C E r) (h0 : D ≠ 0) (h1 : E ≠ 0) : Fr (B + C) (D * E) (q * r) := by
  obtain ⟨k, rfl, hk⟩ := f
  obtain ⟨j, rfl, hj⟩ := g
  refine ⟨k * j, ?_, hk.mul hj⟩
  have a := ic0 h0
  have b := ic0 h1
  rw [Rat.intCast_mul, Rat.intCast_mul]
  grind
theorem Fr.int {B : Nat} {D i : Int} {C : Nat} (hi : Lt2 B i) (h0 : D ≠ 0) (hD : Lt2 C D) : Fr (B + C) D (i : Rat) := by
  refine ⟨i * D, ?_, hi.mul hD⟩
  have a := ic0 h0
  rw [Rat.intCast_mul]
  grind
theorem Fr.imul {B C : Nat} {D i : Int} {q : Rat} (hi : Lt2 C i) (f : Fr B D q) (h0 : D ≠ 0) : Fr (C + B) D ((i : Rat) * q) := by
  obtain ⟨k, rfl, hk⟩ := f
  refine ⟨i * k, ?_, hi.mul hk⟩
  have a := ic0 h0
  rw [Rat.intCast_mul]
  grind
theorem Fr.own {n : Nat} {q : Rat} (h : Bd n q) : Fr n (q.den : Int) q := ⟨q.num, by
  rw [← Rat.divInt_eq_div, Rat.num_divInt_den], h.1⟩
/-- points over one lower side -/
structure SpotD (B : Nat) (qs : List Rat) : Prop where
  ex : ∃ D : Int, D ≠ 0 ∧ Lt2 B D ∧ ∀ q ∈ qs, Fr B D q
theorem SpotD.mono {B C : Nat} {qs : List Rat} (s : SpotD B qs) (h : B ≤ C) : SpotD C qs := by
  obtain ⟨D, h0, h1, h2⟩ := s.ex
  exact ⟨D, h0, h1.mono h, fun q m => (h2 q m).mono h⟩
/-- some fractions brought over one lower side -/
theorem fr_all {n : Nat} : ∀ {qs : List Rat}, (∀ q ∈ qs, Bd n q) → ∃ D : Int, D ≠ 0 ∧ Lt2 (n * qs.length + 1) D ∧ ∀ q ∈ qs, Fr (n * qs.length + 1) D q
  | [], _ => ⟨1, by decide, by simp [Lt2], fun q m => by cases m⟩
  | q :: qs, h => by
    obtain ⟨D, h0, h1, h2⟩ := fr_all (qs := qs) fun r m => h r (List.mem_cons_of_mem _ m)
    have bq := h q List.mem_cons_self
    have d0 : (q.den : Int) ≠ 0 := by have := q.den_nz; omega
    have ld := Lt2.den bq
    have en : n + (n * qs.length + 1) = n * (q :: qs).length + 1 := by rw [List.length_cons, Nat.mul_add, Nat.mul_one]; omega
    refine ⟨q.den * D, Int.mul_ne_zero d0 h0, ?_, fun r m => ?_⟩
    · rw [← en]; exact ld.mul h1
    · rw [← en]
      rcases List.mem_cons.mp m with e | m
      · subst e
        exact (Fr.own bq).scale d0 h0 h1
      · rw [Nat.add_comm]
        exact (h2 r m).scale' h0 d0 ld
/-! ### signs -/
theorem num_pos' (q : Rat) : 0 < q.num ↔ 0 < q := by
  rw [Rat.lt_iff]; simp
theorem num_neg' (q : Rat) : q.num < 0 ↔ q < 0 := by
  rw [Rat.lt_iff]; simp
theorem sign_pos {q : Rat} (h : 0 < q) : q.num.sign = 1 := Int.sign_eq_one_of_pos ((num_pos' q).mpr h)
theorem sign_neg' {q : Rat} (h : q < 0) : q.num.sign = -1 := Int.sign_eq_neg_one_of_neg ((num_neg' q).mpr h)
theorem sign_zero {q : Rat} (h : q = 0) : q.num.sign = 0 := by rw [h]; rfl
theorem sign_of_eq {q : Rat} : (q.num.sign = 1 ↔ 0 < q) ∧ (q.num.sign = -1 ↔ q < 0) ∧ (q.num.sign = 0 ↔ q = 0) := by
  rcases Int.lt_trichotomy q.num 0 with z | z | z
  · have h := (num_neg' q).mp z
    rw [Int.sign_eq_neg_one_of_neg z]
    refine ⟨⟨fun e => by simp at e, fun e => by grind⟩, ⟨fun _ => h, fun _ => rfl⟩, ⟨fun e => by simp at e, fun e => by grind⟩⟩
  · have h : q = 0 := Rat.num_eq_zero.mp z
    rw [z]
    refine ⟨⟨fun e => by simp at e, fun e => by grind⟩, ⟨fun e => by simp at e, fun e => by grind⟩, ⟨fun _ => h, fun _ => rfl⟩⟩
  · have h := (num_pos' q).mp z
    rw [Int.sign_eq_one_of_pos z]
    refine ⟨⟨fun _ => h, fun _ => rfl⟩, ⟨fun e => by simp at e, fun e => by grind⟩, ⟨fun e => by simp at e, fun e => by grind⟩⟩
theorem mul_num_neg (a b : Rat) : a.num * b.num < 0 ↔ a * b < 0 := by
  have e : (a * b).num.sign = (a.num * b.num).sign := by
    have h : (a.num * b.num) = (a * b).num * ((a.num * b.num).natAbs.gcd (a.den * b.den) : Int) := by
      have := Rat.num_mul a b
      rw [this]
      exact (Int.ediv_mul_cancel (Int.ofNat_dvd_left.mpr (Nat.gcd_dvd_left _ _))).symm
    have gp : 0 < ((a.num * b.num).natAbs.gcd (a.den * b.den)) := Nat.gcd_pos_of_pos_right _ (Nat.mul_pos a.den_pos b.den_pos)
    rw [h, Int.sign_mul, Int.sign_eq_one_of_pos (a := ((a.num * b.num).natAbs.gcd (a.den * b.den) : Int)) (by omega), Int.mul_one]
  rw [← Int.sign_eq_neg_one_iff_neg, ← e, sign_of_eq.2.1]
theorem lt_num (a b : Rat) : (a.num * b.den - b.num * a.den < 0) ↔ a < b := by
  rw [Rat.lt_iff]; omega
end DL

set_option Elab.async false
set_option linter.all false
set_option maxRecDepth 100000
set_option maxHeartbeats 1000000
namespace HT
open PySem PySem.Spec PyProof.Rows L2
section
variable {prog : Program} {w : World} {A : Around} {s : Shared} {E : Value → Shared → Prop}
theorem adj_rev (n : Nat) : Builtin.Slice.sliceAdjust none none (-1) (n : Int) = ((n : Int) - 1, -1) := by
  unfold Builtin.Slice.sliceAdjust
  simp
theorem places_rev (n : Nat) : Builtin.Slice.slicePlaces ((n : Int) - 1) (-1) (-1) = n := by
  unfold Builtin.Slice.slicePlaces
  simp
  split <;> omega
theorem pick_rev (xs : Array Value) : ((List.range xs.size).filterMap fun (m : Nat) => xs[(((xs.size : Int) - 1) + (m : Int) * (-1)).toNat]?).toArray = xs.toList.reverse.toArray := by
  have e : (List.range xs.size).filterMap (fun (m : Nat) => xs[(((xs.size : Int) - 1) + (m : Int) * (-1)).toNat]?) = ((List.range xs.size).map fun k => xs.size - 1 - k).filterMap (xs[·]?) := by
    rw [List.filterMap_map]
    congr 1
    funext m
    show xs[_]? = xs[xs.size - 1 - m]?
    congr 1
    omega
  rw [e, PySem.W.krv_range, List.filterMap_reverse, PySem.W.krv_all]
theorem sliceApplied_rev {sl : Addr} {vl vu vs : Value} {n : Nat} {Q : Int × Int × Nat → Shared → Prop} (hs : s.heap.IsSliceOf sl vl vu vs) (pl : IsPart vl none) (pu : IsPart vu none) (ps : IsPart vs (some (-1)))
    (h : Q ((n : Int) - 1, -1, n) s) : wpAny (model prog w) A (Builtin.Slice.sliceApplied (.ref sl) (pure (n : Int))) Q E s := by
  obtain ⟨os, hos, hcs, hds⟩ := id hs
  unfold Builtin.Slice.sliceApplied Builtin.Slice.sliceFields
  refine wpAny_bind (wpAny_bind (wpAny_field hos hds (x := vl) rfl (wpAny_bind (wpAny_field hos hds (x := vu) rfl (wpAny_bind (wpAny_field hos hds (x := vs) rfl (wpAny_pure ?_)))))))
  refine wpAny_bind (slicePart_ ps ?_)
  show wpAny _ _ (if ((-1 : Int) == 0) = true then _ else _) _ _ s
  rw [if_neg (by decide)]
  refine wpAny_bind (slicePart_ pl (wpAny_bind (slicePart_ pu (wpAny_bind (wpAny_pure ?_)))))
  show wpAny _ _ (match Builtin.Slice.sliceAdjust none none (-1) (n : Int) with | (lo, hi) => pure (lo, (-1 : Int), Builtin.Slice.slicePlaces lo hi (-1))) _ _ s
  rw [adj_rev n]
  show wpAny _ _ (pure ((n : Int) - 1, (-1 : Int), Builtin.Slice.slicePlaces ((n : Int) - 1) (-1) (-1))) _ _ s
  rw [places_rev]
  exact wpAny_pure h
theorem getItem_tuple_rev {t sl : Addr} {items : Array Value} {vl vu vs : Value} {Q : Value → Shared → Prop} (ht : IsTup s.heap t items) (hs : s.heap.IsSliceOf sl vl vu vs) (pl : IsPart vl none) (pu : IsPart vu none) (ps : IsPart vs (some (-1)))
    (h : Q (.ref s.heap.objs.size) { s with heap := s.heap.push { cls := .type "tuple", data := .seq items.toList.reverse.toArray } })
    (hsz : items.size ≤ sizeLine) : wpAny (model prog w) A (getItem (.ref t) (.ref sl)) Q E s := by
  have htake : sizeOk (.seq items.toList.reverse.toArray) := by
    show items.toList.reverse.toArray.size ≤ sizeLine
    rw [List.size_toArray, List.length_reverse, Array.length_toList]
    exact hsz
  obtain ⟨os, hos, hcs, hds⟩ := id hs
  have hTs : s.TypeIs (.ref sl) "slice" := ⟨os, hos, hcs⟩
  unfold getItem
  try with_reducible refine wpAny_holding ?_
  first | refine wpAny_bind (wpAny_pure ?_) | skip
  refine wpAny_bind (wpAny_sequenceKey ht.typeIs (by decide) ?_)
  refine wpAny_bind (wpAny_callSpecial?_slot (name := Str.ofString "__getitem__") ht.typeIs PyProof.Rows.slot_tuple_getitem
    (wpAny_call_entry PyProof.Rows.slot_tuple_getitem ht.typeIs entry_tuple_getitem ?_ (args_tuple_getitem _ _)))
  show wpAny _ _ (Builtin.Tuple.tupleItemsOf (.ref t) >>= _) _ _ s
  refine wpAny_bind (tupleItemsOf_ ht ?_)
  refine wpAny_bind (wpAny_typeOf hTs ?_)
  rw [if_pos (by decide)]
  refine wpAny_bind (sliceApplied_rev hs pl pu ps ?_)
  have hno : ¬ ((((items.size : Int) - 1) == 0 && (-1 : Int) == 1 && items.size == items.size) = true) := by
    intro q
    rw [Bool.and_eq_true, Bool.and_eq_true] at q
    exact absurd (eq_of_beq q.1.2) (by decide)
  show wpAny _ _ (if (((items.size : Int) - 1) == 0 && (-1 : Int) == 1 && items.size == items.size) = true then _ else _) _ _ s
  rw [if_neg hno, pick_rev]
  first
    | exact wpAny_bind (m := Builtin.Tuple.tupleExact _) (wpAny_newObj_type (wpAny_pure ⟨_, rfl, wpAny_pure h⟩) htake)
    | exact wpAny_bind (m := Builtin.Tuple.tupleExact _) (wpAny_newObj_type (wpAny_bind (wpAny_pure (wpAny_pure ⟨_, rfl, wpAny_pure h⟩))) htake)
    | exact wpAny_bind (wpAny_bind (m := Builtin.Tuple.tupleExact _) (wpAny_newObj_type (wpAny_pure (wpAny_pure ⟨_, rfl, wpAny_pure h⟩)) htake))
    | exact wpAny_bind (wpAny_bind (m := Builtin.Tuple.tupleExact _) (wpAny_newObj_type (wpAny_pure ⟨_, rfl, wpAny_pure h⟩) htake))
end
end HT
namespace DL
open PySem PySem.Spec PyProof.Rows L2
section
variable {X : Cx} {a : Expr} {fa : MV} {pos : Pos}
/-! ### xs[::-1] -/
def tRevD (K : PySem.W.Frag) (te : TE) : TE := fun σ H Q => te σ H fun x H1 => ∃ a xs, x = .ref a ∧ ((SqL K H1 a xs ∧ ∀ p, H1 p = none → Q (.ref p) (upd H1 p (.lst xs.reverse))) ∨ (SqT K H1 a xs ∧ ∀ p, H1 p = none → Q (.ref p) (upd H1 p (.tup xs.reverse))))
theorem pe_revD {e : Expr} {te : TE} {k : Nat} {p1 p2 p3 pos : Pos} (he : PE X e te) : PE X (.Subscript e (.Slice none none (some (.UnaryOp .USub (.Constant (.int 1) k p1) p2)) p3) pos) (tRevD X.K te) := by
  refine ⟨fun pins s σ H Q I h => ?_⟩
  refine Subscript_ (thn (he.run pins s σ H _ I h) fun v s1 ⟨x, H1, I1, r1, q1⟩ => ?_)
  obtain ⟨a, xs, ex, hq⟩ := q1
  subst ex
  cases r1
  have hst : PO X (some (.UnaryOp .USub (.Constant (.int 1) k p1) p2)) (tPart (tUn (rU fun i => .int (-i)) (tC (.int 1)))) := po_some (pe_un un_neg pe_int)
  refine wpAny_Slice (thn (po_none.run pins s1 σ H1 (fun o H2 => o = none ∧ H2 = H1) I1 ⟨rfl, rfl⟩) fun vl s2 ⟨l, H2, I2, pl, el, e2⟩ => ?_)
  subst el e2
  refine thn (po_none.run pins s2 σ H2 (fun o H3 => o = none ∧ H3 = H2) I2 ⟨rfl, rfl⟩) fun vu s3 ⟨u, H3, I3, pu, eu, e3⟩ => ?_
  subst eu e3
  refine thn (hst.run pins s3 σ H3 (fun o H4 => o = some (-1) ∧ H4 = H3) I3 ⟨1, rfl, -1, rfl, rfl, rfl⟩) fun vs s4 ⟨o, H4, I4, ps, eo, e4⟩ => ?_
  subst eo e4
  have I5 : Inv X pins σ H4 { s4 with heap := s4.heap.push { cls := .type "slice", data := .fields #[vl, vu, vs] } } := I4.kept (t' := s4.toks) fun b ob q => Heap.get?_push_of_some _ q
  show wpAny (model X.prog X.w) X.A (subscriptTail e (.Slice none none (some (.UnaryOp .USub (.Constant (.int 1) k p1) p2)) p3) (.ref a) (.ref s4.heap.objs.size)) (L2.EP X pins σ Q) X.xe { s4 with heap := s4.heap.push { cls := .type "slice", data := .fields #[vl, vu, vs] } }
  rcases hq with ⟨hx, q⟩ | ⟨hx, q⟩
  · obtain ⟨its, r, ht, hz⟩ := I5.list hx
    have hlen := r.length
    refine tail_any (ops := [.ref a, .ref s4.heap.objs.size]) ht.isList.typeIs (PySem.slot_list_getitem.lookup) ?_ (by with_unfolding_all rfl)
    refine wpAny_getItem_list_slice ht.isList (Heap.IsSliceOf.new _ vl vu vs) pl pu ps (by decide) ?_ (by rw [List.size_toArray]; omega)
    rw [PySem.W.krv_pick]
    refine ⟨.ref _, _, I5.laid (t' := s4.toks) (o := .lst xs.reverse) (fun b ob q => Heap.get?_push_of_some _ q) (Nat.le_refl _) ?_, rfl, q _ (I5.hok.fresh (Nat.le_refl _))⟩
    exact ⟨by rw [List.length_reverse]; exact hz, _, 0, r.reverse, Heap.get?_push_size _ rfl⟩
  · obtain ⟨its, r, ht, hz⟩ := I5.tuple hx
    have hlen := r.length
    refine tail_any (ops := [.ref a, .ref s4.heap.objs.size]) ht.typeIs (PyProof.Rows.slot_tuple_getitem.lookup) ?_ (by with_unfolding_all rfl)
    refine HT.getItem_tuple_rev ht (Heap.IsSliceOf.new _ vl vu vs) pl pu ps ?_ (by rw [List.size_toArray]; omega)
    refine ⟨.ref _, _, I5.laid (t' := s4.toks) (o := .tup xs.reverse) (fun b ob q => Heap.get?_push_of_some _ q) (Nat.le_refl _) ?_, rfl, q _ (I5.hok.fresh (Nat.le_refl _))⟩
    exact ⟨by rw [List.length_reverse]; exact hz, _, r.reverse, IsTup.new _ _⟩
theorem RepAll.rev {K : PySem.W.Frag} {α : List Addr} {H : Hp} : ∀ {vs : List V} {ds : List D}, RepAll K α H vs ds → RepAll K α H vs.reverse ds.reverse
  | _, _, .nil => .nil
  | _, _, .cons r t => by
    rw [List.reverse_cons, List.reverse_cons]
    exact (RepAll.rev t).app (.cons r .nil)
def dRev : D → Option D
  | .list xs => some (.list xs.reverse)
  | .tuple xs => some (.tuple xs.reverse)
  | _ => none
def eRev (fa : MV) : MV := fun ρ h => (fa ρ h).bind fun u h1 => match vD u h1 with
  | some a => R.opt ((dRev a).map .d) h1
  | none => .no
theorem ee_rev {k : Nat} {p1 p2 p3 : Pos} (ha : EE X a fa) : EE X (.Subscript a (.Slice none none (some (.UnaryOp .USub (.Constant (.int 1) k p1) p2)) p3) pos) (eRev fa) := ⟨fun W tk => by
  obtain ⟨ta, pa, qa⟩ := ha.run W tk
  refine ⟨_, pe_revD pa, fun ζ ι ρ hs σ H Q er s k => ?_⟩
  refine qa ζ ι ρ hs σ H _ er s (Kt.bind k fun u h1 x H1 ι1 e1 s1 r1 k1 => ?_)
  split at k1
  · rename_i da ea
    have rx := vD_ok s1 r1 ea
    obtain ⟨c, ec, k1⟩ := k1.opt
    unfold dRev at ec
    split at ec
    · cases ec
      obtain ⟨p, us, rfl, hp, ra⟩ := rx.list
      exact ⟨p, us, rfl, .inl ⟨.of hp, fun r hr => k1.here s1 (same_new hr) (.d (.lst upd_same (s1.fresh hr) (ra.rev.same s1.apA (same_new hr))))⟩⟩
    · cases ec
      obtain ⟨p, us, rfl, hp, ra, rt⟩ := rx.tup
      exact ⟨p, us, rfl, .inr ⟨hp, fun r hr => k1.here s1 (same_new hr) (.d (.tup upd_same (ra.rev.same s1.apA (same_new hr))))⟩⟩
    · cases ec
  · exact k1.elim⟩
@[simp] theorem eRev_at (fa : MV) (ρ : Env) (h : Hs) : eRev fa ρ h = (fa ρ h).bind fun u h1 => match vD u h1 with
  | some a => R.opt ((dRev a).map .d) h1
  | none => .no := rfl
@[simp] theorem dRev_l (xs : List D) : dRev (.list xs) = some (.list xs.reverse) := rfl
@[simp] theorem dRev_t (xs : List D) : dRev (.tuple xs) = some (.tuple xs.reverse) := rfl
end
end DL

set_option Elab.async false
set_option linter.all false
set_option maxRecDepth 100000
set_option maxHeartbeats 2000000
namespace PySem
open Sem (wp)
open AutoSeq1 (wpAny_loadPart')
theorem meets_enumerate_newTup (l : Addr) (items : Array Value) (n : Nat) (dct : Option Addr) (sl : Array (Option Value)) :
    Meets (Builtin.«enumerate.__new__» ⟨[.type "enumerate", .ref l], []⟩) (fun _ R s => s.heap.get? l = some { cls := .type "tuple", dict := dct, data := .seq items n, slots := sl } ∧
      R (.ok (.ret (.ref (s.heap.push { cls := .type "tuple_iterator", data := .fields #[.ref l, .int 0 0] }).objs.size)))
        { s with heap := (s.heap.push { cls := .type "tuple_iterator", data := .fields #[.ref l, .int 0 0] }).push { cls := .type "enumerate", data := .fields #[.none, .bool false, .ref s.heap.objs.size, rawInt 0, .none, .none] } }) :=
  .of_wp fun prog w A R s h => by
    obtain ⟨hp, g, d, tk, os⟩ := s; obtain ⟨hl, h⟩ := h
    have hsub := sub_enumerate
    have hL : Heap.IsTuple (Shared.heap ⟨hp, g, d, tk, os⟩) l items := ⟨_, hl, rfl, n, rfl⟩
    wp_walk using wpAny_loadPart' hl
    refine wpAny_stack_any fun st => wpAny_pure ?_
    split
    · rename_i c _ _ _ _ _
      cases (c == Value.type "enumerate")
      · wp_walk using wpAny_loadPart' hl, wpAny_pyIter_tuple hL
        exact ⟨_, rfl, h⟩
      · wp_walk using wpAny_loadPart' hl, wpAny_pyIter_tuple hL
        exact ⟨_, rfl, h⟩
    · wp_walk using wpAny_loadPart' hl, wpAny_pyIter_tuple hL
      exact ⟨_, rfl, h⟩
end PySem
namespace DL
open PySem PySem.Spec PyProof.Rows L2
section
variable {prog : Program} {w : World} {A : Around} {E : Value → Shared → Prop} {s : Shared} {p : Bool}
theorem call_enumG {l : Addr} {items : Array Value} {Q : Value → Shared → Prop} (hL : SrcAt p s.heap l items)
    (h : ∀ h', IsEnum h' (s.heap.objs.size + 1) s.heap.objs.size 0 .none → CurAt p h' s.heap.objs.size l 0 → h'.objs.size = s.heap.objs.size + 2 →
      (∀ b o, s.heap.get? b = some o → h'.get? b = some o) → Q (.ref (s.heap.objs.size + 1)) { s with heap := h' }) :
    wpAny (model prog w) A (call (.type "enumerate") [.ref l]) Q E s := by
  cases p
  · exact call_enumerate_list hL h
  · obtain ⟨⟨c, dct, dt, sl⟩, hl, hc, n, hd⟩ := (show s.heap.IsTuple l items from hL)
    replace hc : c = .type "tuple" := hc
    replace hd : dt = .seq items n := hd
    subst hc hd
    refine callType_new F.called_enumerate (by decide) (F.typeCall_enumerate_1 _) (F.newCall_enumerate_1 _) (fun obj => F.args_object_init_2 obj _) F.entry_enumerate_new
      (meets_enumerate_newTup l items n dct sl) ⟨hl, ?_⟩
    have hz : (s.heap.push { cls := .type "tuple_iterator", data := .fields #[.ref l, .int 0 0] }).objs.size = s.heap.objs.size + 1 := Heap.size_push ..
    show _ ∧ _
    rw [hz]
    have he : IsEnum ((s.heap.push { cls := .type "tuple_iterator", data := .fields #[.ref l, .int 0 0] }).push
        { cls := .type "enumerate", data := .fields #[.none, .bool false, .ref s.heap.objs.size, rawInt 0, .none, .none] }) (s.heap.objs.size + 1) s.heap.objs.size 0 .none := by
      have := Heap.get?_push_size (s.heap.push { cls := .type "tuple_iterator", data := .fields #[.ref l, .int 0 0] })
        (o := { cls := .type "enumerate", data := .fields #[.none, .bool false, .ref s.heap.objs.size, rawInt 0, .none, .none] }) rfl
      rw [hz] at this; exact this
    refine ⟨⟨_, he, rfl⟩, h _ he (CurAt.new (p := true) (Heap.get?_push_of_some _ (Heap.get?_push_size _ rfl))) (by rw [Heap.size_push, hz]) fun b o x => Heap.get?_push_of_some _ (Heap.get?_push_of_some _ x)⟩
theorem CurAt.but {h h' : Heap} {it a e : Addr} {k : Nat} (x : CurAt p h it a k) (b : Heap.ExtBut e h h') (n : it ≠ e) : CurAt p h' it a k := x.move fun o q => b it o n q
theorem enumG_item {e it l : Addr} {i : Nat} {items : Array Value} {x old : Value} {Q : Value → Shared → Prop}
    (he : IsEnum s.heap e it i old) (hit : CurAt p s.heap it l i) (hl : SrcAt p s.heap l items) (hx : items[i]? = some x) (hne : e ≠ it)
    (hQ : ∀ h', IsEnumOut h' e it ((i : Int) + 1) x s.heap.objs.size → CurAt p h' it l (i + 1) →
      h'.get? s.heap.objs.size = some { cls := .type "tuple", data := .seq #[.int i s.toks, x] } → h'.objs.size = s.heap.objs.size + 1 →
      (∀ b o, b ≠ e → b ≠ it → s.heap.get? b = some o → h'.get? b = some o) → Q (.ref s.heap.objs.size) { s with heap := h', toks := s.toks + 1 }) :
    wpAny (model prog w) A (Builtin.«enumerate.__next__» ⟨[.ref e], []⟩) (fun fin s' => ∃ v, fin = .done (.ret v) ∧ Q v s') E s := by
  obtain ⟨hp, g, d, tk, os⟩ := s
  show wpAny _ _ (field (.ref e) 2 >>= _) _ _ _
  refine wpAny_bind (wpAny_field he rfl (x := .ref it) rfl ?_)
  refine wpAny_bind (cur_next hit hl hx fun h₁ hit₁ hs₁ => ?_)
  replace hs₁ : Heap.SameBut it hp h₁ := hs₁
  have he₁ : IsEnum h₁ e it i old := (hs₁.2 e hne).trans he
  show wpAny _ _ (field (.ref e) 3 >>= _) _ _ ⟨h₁, g, d, tk, os⟩
  refine wpAny_bind (wpAny_field he₁ rfl (x := rawInt i) rfl ?_)
  show wpAny _ _ (field (.ref e) 4 >>= _) _ _ ⟨h₁, g, d, tk, os⟩
  refine wpAny_bind (wpAny_field he₁ rfl (x := .none) rfl ?_)
  show wpAny _ _ (mkInt i >>= _) _ _ ⟨h₁, g, d, tk, os⟩
  refine wpAny_bind (wpAny_mkInt ?_)
  show wpAny _ _ (setField (.ref e) 3 (rawInt ((i : Int) + 1)) >>= _) _ _ ⟨h₁, g, d, tk + 1, os⟩
  refine wpAny_bind (wpAny_setField_rec he₁ (by simp) fun h₂ he₂ hs₂ => ?_)
  replace hs₂ : Heap.SameBut e h₁ h₂ := hs₂
  replace he₂ : IsEnum h₂ e it ((i : Int) + 1) old := he₂
  show wpAny _ _ (setField (.ref e) 4 .none >>= _) _ _ ⟨h₂, g, d, tk + 1, os⟩
  refine wpAny_bind (wpAny_setField_rec he₂ (by simp) fun h₃ he₃ hs₃ => ?_)
  replace hs₃ : Heap.SameBut e h₂ h₃ := hs₃
  replace he₃ : IsEnum h₃ e it ((i : Int) + 1) old := he₃
  show wpAny _ _ (newTuple [.int i tk, x] >>= _) _ _ ⟨h₃, g, d, tk + 1, os⟩
  refine wpAny_bind (wpAny_newTuple ?_)
  have he₄ : IsEnum (h₃.push { cls := .type "tuple", data := .seq #[.int i tk, x] }) e it ((i : Int) + 1) old := Heap.get?_push_of_some _ he₃
  generalize hh₄ : h₃.push { cls := .type "tuple", data := .seq #[.int i tk, x] } = h₄ at he₄
  have hsz : h₃.objs.size = hp.objs.size := by rw [hs₃.1, hs₂.1, hs₁.1]
  have hel : e < hp.objs.size := Heap.lt_size he
  have ht₄ : h₄.get? hp.objs.size = some { cls := .type "tuple", data := .seq #[.int i tk, x] } := by rw [← hh₄, ← hsz]; exact Heap.get?_push_size _ rfl
  have hz₄ : h₄.objs.size = hp.objs.size + 1 := by rw [← hh₄, Heap.size_push, hsz]
  have hk₄ : ∀ b o, b ≠ e → b ≠ it → hp.get? b = some o → h₄.get? b = some o := fun b o hbe hbi hb => by
    rw [← hh₄]; exact Heap.get?_push_of_some _ (hs₃.extBut b o hbe (hs₂.extBut b o hbe (hs₁.extBut b o hbi hb)))
  have hit₄ : CurAt p h₄ it l (i + 1) := by
    rw [← hh₄]
    exact ((hit₁.but hs₂.extBut (Ne.symm hne)).but hs₃.extBut (Ne.symm hne)).move fun o q => Heap.get?_push_of_some _ q
  show wpAny _ _ (Builtin.SmallTypes.ownedTupleIsFree (.ref e) >>= _) _ _ ⟨h₄, g, d, tk + 1, os⟩
  rw [hsz]
  clear hh₄ he₃ hs₃ he₂ hs₂ he₁ hs₁ hit₁ hsz h₃ h₂ h₁
  refine wpAny_bind ?_
  · unfold Builtin.SmallTypes.ownedTupleIsFree
    refine wpAny_bind (wpAny_field he₄ rfl (x := .none) rfl (wpAny_pure ?_))
    simp only [if_true]
    refine wpAny_bind (wpAny_rule ?_)
    refine wpAny_bind (wpAny_field he₄ rfl (x := old) rfl ?_)
    refine wpAny_bind (wpAny_setField_rec he₄ (by simp) fun h₅ he₅ hs₅ => ?_)
    replace hs₅ : Heap.SameBut e h₄ h₅ := hs₅
    replace he₅ : IsEnum h₅ e it ((i : Int) + 1) x := he₅
    show wpAny _ _ (Builtin.SmallTypes.ownedTupleHandOut (.ref e) (.ref hp.objs.size) >>= _) _ _ ⟨h₅, g, d, tk + 1, os⟩
    refine wpAny_bind ?_
    · unfold Builtin.SmallTypes.ownedTupleHandOut
      refine wpAny_bind (wpAny_setField_rec he₅ (by simp) fun h₆ he₆ hs₆ => ?_)
      replace hs₆ : Heap.SameBut e h₅ h₆ := hs₆
      replace he₆ : IsEnumOut h₆ e it ((i : Int) + 1) x hp.objs.size := he₆
      refine wpAny_setField_rec he₆ (by simp) fun h₇ he₇ hs₇ => ?_
      replace hs₇ : Heap.SameBut e h₆ h₇ := hs₇
      replace he₇ : IsEnumOut h₇ e it ((i : Int) + 1) x hp.objs.size := he₇
      refine wpAny_bind (wpAny_letGo (wpAny_pure ⟨_, rfl, hQ h₇ he₇ ?_ ?_ ?_ ?_⟩))
      · exact ((hit₄.but hs₅.extBut (Ne.symm hne)).but hs₆.extBut (Ne.symm hne)).but hs₇.extBut (Ne.symm hne)
      · exact hs₇.extBut _ _ (Nat.ne_of_gt hel) (hs₆.extBut _ _ (Nat.ne_of_gt hel) (hs₅.extBut _ _ (Nat.ne_of_gt hel) ht₄))
      · rw [hs₇.1, hs₆.1, hs₅.1, hz₄]
      · exact fun b o hbe hbi hb => hs₇.extBut b o hbe (hs₆.extBut b o hbe (hs₅.extBut b o hbe (hk₄ b o hbe hbi hb)))
theorem pyNext_enumG_item {e it l : Addr} {i : Nat} {items : Array Value} {x old : Value} {Q : Option Value → Shared → Prop}
    (he : IsEnum s.heap e it i old) (hit : CurAt p s.heap it l i) (hl : SrcAt p s.heap l items) (hx : items[i]? = some x) (hne : e ≠ it)
    (hQ : ∀ h', IsEnumOut h' e it ((i : Int) + 1) x s.heap.objs.size → CurAt p h' it l (i + 1) →
      h'.get? s.heap.objs.size = some { cls := .type "tuple", data := .seq #[.int i s.toks, x] } → h'.objs.size = s.heap.objs.size + 1 →
      (∀ b o, b ≠ e → b ≠ it → s.heap.get? b = some o → h'.get? b = some o) → Q (some (.ref s.heap.objs.size)) { s with heap := h', toks := s.toks + 1 }) :
    wpAny (model prog w) A (pyNext (.ref e)) Q E s := by
  have hT : s.TypeIs (.ref e) "enumerate" := ⟨_, he, rfl⟩
  unfold pyNext
  exact wpAny_bind (wpAny_attempt (wpAny_callSpecial?_slot (name := Str.ofString "__next__") hT F.slot_enumerate_next
    (wpAny_call_entry F.slot_enumerate_next hT F.entry_enumerate_next
      (enumG_item he hit hl hx hne fun h' a b c d k => wpAny_pure (hQ h' a b c d k)) (F.args_enumerate_next_1 _))))
theorem pyNext_enumG_end {e it l : Addr} {i : Nat} {items : Array Value} {old : Value} {Q : Option Value → Shared → Prop} (hh : A.handled = none)
    (he : IsEnum s.heap e it i old) (hit : CurAt p s.heap it l i) (hl : SrcAt p s.heap l items) (hx : items[i]? = none)
    (hQ : ∀ h', Heap.ExtBut it s.heap h' → Q none { s with heap := h' }) : wpAny (model prog w) A (pyNext (.ref e)) Q E s := by
  have hT : s.TypeIs (.ref e) "enumerate" := ⟨_, he, rfl⟩
  unfold pyNext
  refine wpAny_bind (wpAny_attempt (wpAny_callSpecial?_slot (name := Str.ofString "__next__") hT F.slot_enumerate_next
    (wpAny_call_entry F.slot_enumerate_next hT F.entry_enumerate_next ?_ (F.args_enumerate_next_1 _))))
  show wpAny _ _ (field (.ref e) 2 >>= _) _ _ _
  refine wpAny_bind (wpAny_field he rfl (x := .ref it) rfl ?_)
  refine wpAny_bind (cur_stop (show A.in1.handled = none from hh) hit hl hx fun h' x he' hx' => ?_)
  obtain ⟨o, ho, hc⟩ := hx'
  refine wpAny_bind (wpAny_isInstance (T := "StopIteration") (b := true) ⟨o, ho, hc⟩ isSubtype_stop ?_)
  exact wpAny_pure (hQ _ he')
end
def IteG (K : PySem.W.Frag) (p : Bool) (a : Addr) : It :=
  ⟨fun i H => ∃ (xs : List V) (x : V), SqB K p H a xs ∧ xs[i]? = some x, fun i H v H' => ∃ T x, v = .ref T ∧ H T = none ∧ H' = upd H T (.tup [.int (i : Nat), x]) ∧ ∀ xs, SqB K p H a xs → xs[i]? = some x, fun i H => ∃ xs : List V, SqB K p H a xs ∧ xs.length ≤ i⟩
theorem turn_enumG {P : Program} {w : World} {K : PySem.W.Frag} {p : Bool} {elts : List Expr} {kk : Nat} {tpos : Pos} (a e it : Addr) :
    Turn P w K (.Tuple elts kk tpos) (IteG K p a) [e, it] e (fun i h => (∃ old, IsEnum h e it ((i : Nat) : Int) old) ∧ CurAt p h it a i ∧ e ≠ it) where
  mem := by simp
  obj := fun i h st b hb => by
    obtain ⟨⟨old, he⟩, hi, _⟩ := st
    obtain ⟨o, ho, hd⟩ := hi.obj
    have e' : b = e ∨ b = it := by simpa using hb
    rcases e' with z | z
    · rw [z]; exact ⟨_, he, fun v q => nomatch q⟩
    · rw [z]; exact ⟨o, ho, fun v q => by rw [hd] at q; cases q⟩
  keep := fun i h h' st k => let ⟨⟨old, he⟩, hi, hne⟩ := st; ⟨⟨old, k e (by simp) _ he⟩, hi.move fun o q => k it (by simp) o q, hne⟩
  item := by
    intro X hP hw hK hc i pins s σ H E I hf st hg
    subst hP hw hK
    obtain ⟨⟨old, he⟩, hit, hne⟩ := st
    obtain ⟨xs, x, hq, hx⟩ := hg
    obtain ⟨its, rv, sp⟩ := hq.at_ I
    obtain ⟨u, hu, ru⟩ := rv.get hx
    have hel : e < s.heap.objs.size := Heap.lt_size he
    have hil : it < s.heap.objs.size := by obtain ⟨_, q, _⟩ := hit.obj; exact Heap.lt_size q
    refine pyNext_enumG_item he hit sp (x := u) (by simpa using hu) hne fun h' ho hit' hT hsz hk => ?_
    refine ⟨_, rfl, wpAny_letOwnedTupleGo_enum (s := { s with heap := h', toks := s.toks + 1 }) ho fun h'' he' sb => ?_⟩
    have hT2 : h''.get? s.heap.objs.size = some { cls := .type "tuple", data := .seq #[.int i s.toks, u] } := (sb.2 _ (Nat.ne_of_gt hel)).trans hT
    have new : ObjOk X.prog X.w (upd H s.heap.objs.size (.tup [.int (i : Nat), x])) h'' s.heap.objs.size (.tup [.int (i : Nat), x]) :=
      ⟨by show 2 ≤ sizeLine; decide, [.int i s.toks, u], .cons ⟨_, rfl⟩ (.cons ru .nil), ⟨_, hT2, rfl, _, rfl⟩⟩
    have I1 : Inv X pins σ (upd H s.heap.objs.size (.tup [.int (i : Nat), x])) { s with heap := h'', toks := s.toks + 1 } :=
      I.turnedNew (ch := [e, it]) (fun b ob hb q => (sb.2 b (fun z => hb (by simp [z]))).trans (hk b ob (fun z => hb (by simp [z])) (fun z => hb (by simp [z])) q)) hf (Nat.le_refl _) new
    refine ⟨.ref s.heap.objs.size, _, I1, rfl, ⟨_, x, rfl, I.hok.fresh (Nat.le_refl _), rfl, fun ys hy => by rw [hy.inj I hq]; exact hx⟩, ⟨⟨u, ?_⟩, hit'.move fun o q => (sb.2 it (Ne.symm hne)).trans q, hne⟩, fun b hb => ?_⟩
    · have e1 : ((i + 1 : Nat) : Int) = (i : Int) + 1 := by omega
      rw [e1]; exact he'
    · have hb' : b < s.heap.objs.size := by
        have e' : b = e ∨ b = it := by simpa using hb
        rcases e' with z | z
        · rw [z]; exact hel
        · rw [z]; exact hil
      rw [upd_ne (Nat.ne_of_lt hb')]
      exact (hf b hb).1
  done := by
    intro X hP hw hK hc i pins s σ H E I hf st hg
    subst hP hw hK
    obtain ⟨⟨old, he⟩, hit, hne⟩ := st
    obtain ⟨xs, hq, hx⟩ := hg
    obtain ⟨its, rv, sp⟩ := hq.at_ I
    obtain ⟨f0, f1, f2, f3, f4, f5⟩ := hf it (by simp)
    have hl := rv.length
    exact pyNext_enumG_end (I.ok.hd hc) he hit sp (by simp; omega) fun h' eb => ⟨rfl, I.turned (t' := s.toks) (fun b o hb q => eb b o hb q) f0 f1 f3 f4 f5⟩
  self := fun A i s Q E st h => let ⟨⟨_, he⟩, _⟩ := st; wpAny_pyIter_enum he h
def tEnumG (K : PySem.W.Frag) (ta : TA) : TI := fun σ H R => ta σ H fun vs H1 => ∃ p a xs, vs = [.ref a] ∧ SqB K p H1 a xs ∧ R (IteG K p a) H1
theorem pi_enumG {X : Cx} {e : Expr} {ta : TA} {ps pos tpos : Pos} {elts : List Expr} {kk : Nat} (hg : Gl X "enumerate") (hm : X.mg "enumerate" = none) (ha : PA X [e] ta) (hs : starEach [e] X.env = [(false, eval e X.env)] := by rfl) :
    PI X (.Tuple elts kk tpos) (.Call (.Name "enumerate" ps) [e] [] pos) (tEnumG X.K ta) := by
  refine ⟨fun pins s σ H R I h => ?_⟩
  refine Call_ (ld_blt I hg hm boot_enumerate (PyProof.Rows.callWith_type1 (thn (ha.run pos pins s σ H _ I h) fun us s1 ⟨vs, H1, I1, r1, q1⟩ => ?_) hs rfl))
  obtain ⟨p, a, xs, ex, hq, q⟩ := q1
  subst ex
  cases r1 with
  | cons r rr =>
    cases rr
    cases r
    obtain ⟨its, rv, sp⟩ := hq.at_ I1
    refine call_enumG sp fun h' he hit hsz hk => wpAny_pyIter_enum he ?_
    have I2 : Inv X pins σ H1 { s1 with heap := h' } := I1.kept (t' := s1.toks) hk
    refine ⟨s1.heap.objs.size + 1, [s1.heap.objs.size + 1, s1.heap.objs.size], _, _, H1, rfl, I2, turn_enumG a (s1.heap.objs.size + 1) s1.heap.objs.size, ⟨⟨.none, he⟩, hit, Nat.succ_ne_self _⟩, fun b hb => ?_, q⟩
    have e' : b = s1.heap.objs.size + 1 ∨ b = s1.heap.objs.size := by simpa using hb
    have hle : s1.heap.objs.size ≤ b := by
      rcases e' with z | z
      · rw [z]; exact Nat.le_add_right _ _
      · rw [z]; exact Nat.le_refl _
    exact I1.fpOk hle (I1.hok.fresh hle)
/-! ### the meaning -/
def enumOfG (u : Val) (h : Hs) : Option (List D × List (Nat × List D)) := match seqOf u h with
  | some (xs, g) => some ((List.range xs.length).zipWith (fun i a => .tuple [.int (i : Nat), a]) xs, g)
  | none => none
def iEnumG (fas : Env → Hs → R (List Val)) : MI := fun ρ h => (fas ρ h).bind fun us h1 => match us with
  | [u] => R.opt (enumOfG u h1) h1
  | _ => .no
theorem iter_enumG {K : PySem.W.Frag} {ζ ι : List Addr} {H : Hp} {p : Bool} {a : Addr} {xs : List D} {g : List (Nat × List D)} (h1 : ∀ (ζ' ι2 : List Addr) (H2 : Hp) (h2 : Hs), Ext ι H ι2 H2 → Sim K ζ' ι2 H2 h2 → (∀ a ∈ ζ', a ∈ ζ ∨ H a = none) → Chk g h2 → ∃ vs, SqB K p H2 a vs ∧ RepAll K (ζ' ++ ι2) H2 vs xs) : IterOk K ζ ι H (IteG K p a) ((List.range xs.length).zipWith (fun i a => .tuple [.int (i : Nat), a]) xs) g := ⟨fun i ζ' ι2 H2 hh e2 s2 hz hc => by
  obtain ⟨vs, q1, ra⟩ := h1 ζ' ι2 H2 hh e2 s2 hz hc
  rw [List.length_zipWith, List.length_range, Nat.min_self]
  refine ⟨fun hi => ?_, fun hi => ⟨vs, q1, by rw [ra.length]; omega⟩⟩
  obtain ⟨x, hx, rx⟩ := ra.get (List.getElem?_eq_getElem hi)
  refine ⟨⟨vs, x, q1, hx⟩, fun v H' ⟨T, x', ev, hT, eH, f1⟩ => ?_⟩
  subst ev eH
  refine ⟨same_new hT, fun d hd => ?_⟩
  have e1 := f1 vs q1
  rw [hx] at e1
  cases e1
  rw [List.getElem?_zipWith, List.getElem?_range hi, List.getElem?_eq_getElem hi] at hd
  cases hd
  exact pair_rep s2.apA hT (.int _) rx⟩
theorem ei_enumG {X : Cx} {elts : List Expr} {kk : Nat} {tpos : Pos} {a : Expr} {fas : Env → Hs → R (List Val)} {p pos : Pos} (hm : X.mg "enumerate" = none) (ha : EA X [a] fas) (hg : Gl X "enumerate" := by rfl) (hs : starEach [a] X.env = [(false, eval a X.env)] := by rfl) :
    EI X (.Tuple elts kk tpos) (.Call (.Name "enumerate" p) [a] [] pos) (iEnumG fas) := ⟨fun W tk => by
  obtain ⟨t, p, q⟩ := ha.run W tk
  refine ⟨_, pi_enumG hg hm p hs, fun ζ ι ρ hs σ H Q er s k => q ζ ι ρ hs σ H _ er s (Ki.bind k fun us h1 xs H1 ι1 e1 s1 r1 k1 k2 => ?_)⟩
  cases r1 with
  | nil => exact absurd rfl k2
  | cons r1 rr => cases rr with
    | cons _ _ => exact absurd rfl k2
    | nil =>
      rename_i u
      cases e : enumOfG u h1 with
      | none => simp only [e] at k2; exact absurd rfl k2
      | some p =>
        simp only [e] at k1
        unfold enumOfG at e
        split at e
        · rename_i xs g eu
          cases e
          obtain ⟨a, rfl, ⟨t1, ⟨vs, hv, _⟩, l1⟩ | ⟨t1, ⟨vs, hv, _⟩, l1⟩⟩ := seqOf_ok s1 r1 eu
          · exact ⟨false, a, vs, rfl, hv, k1 _ rfl _ (iter_enumG (p := false) l1)⟩
          · exact ⟨true, a, vs, rfl, hv, k1 _ rfl _ (iter_enumG (p := true) l1)⟩
        · cases e⟩
@[simp] theorem iEnumG_at (fas : Env → Hs → R (List Val)) (ρ : Env) (h : Hs) : iEnumG fas ρ h = (fas ρ h).bind fun us h1 => match us with
  | [u] => R.opt (enumOfG u h1) h1
  | _ => .no := rfl
theorem enumOfG_at (u : Val) (h : Hs) : enumOfG u h = match seqOf u h with
  | some (xs, g) => some ((List.range xs.length).zipWith (fun i a => .tuple [.int (i : Nat), a]) xs, g)
  | none => none := rfl
theorem enum_map {γ : Type} (A : γ → D) (l : List γ) : (List.range (l.map A).length).zipWith (fun i a => PyData.tuple [.int (i : Nat), a]) (l.map A) = l.zipIdx.map fun p => .tuple [.int (p.2 : Nat), A p.1] := by
  apply List.ext_getElem?
  intro i
  rw [List.getElem?_zipWith, List.getElem?_map, List.getElem?_map, List.getElem?_zipIdx, List.length_map]
  by_cases h : i < l.length
  · rw [List.getElem?_range h, List.getElem?_eq_getElem h]
    simp
  · rw [List.getElem?_eq_none (by simpa using h), List.getElem?_eq_none (by omega)]
    simp
end DL

set_option Elab.async false
set_option linter.all false
set_option maxRecDepth 100000
set_option maxHeartbeats 4000000
namespace W_k28
open PySem PySem.Spec PyProof.Rows L2 DL
/-! ### the text by places; the head's facts -/
def top (i : Nat) : Stmt := PySem.Challenge.pw_sidebooks_k28_whole_merged_books.main.body.getD i (.Pass ⟨0, 0, 0, 0⟩)
abbrev A_is_integer : Arguments := defArgs (top 6)
abbrev B_is_integer : List Stmt := defBody (top 6)
abbrev Z_is_integer : Scope := defScope (top 6)
abbrev A_is_pair : Arguments := defArgs (top 7)
abbrev B_is_pair : List Stmt := defBody (top 7)
abbrev Z_is_pair : Scope := defScope (top 7)
abbrev A_are_integers : Arguments := defArgs (top 8)
abbrev B_are_integers : List Stmt := defBody (top 8)
abbrev Z_are_integers : Scope := defScope (top 8)
abbrev A_divided : Arguments := defArgs (top 9)
abbrev B_divided : List Stmt := defBody (top 9)
abbrev Z_divided : Scope := defScope (top 9)
abbrev A_is_question : Arguments := defArgs (top 11)
abbrev B_is_question : List Stmt := defBody (top 11)
abbrev Z_is_question : Scope := defScope (top 11)
abbrev A_row_of_question : Arguments := defArgs (top 12)
abbrev B_row_of_question : List Stmt := defBody (top 12)
abbrev Z_row_of_question : Scope := defScope (top 12)
abbrev A_question_of_row : Arguments := defArgs (top 13)
abbrev B_question_of_row : List Stmt := defBody (top 13)
abbrev Z_question_of_row : Scope := defScope (top 13)
abbrev A_ground_of : Arguments := defArgs (top 14)
abbrev B_ground_of : List Stmt := defBody (top 14)
abbrev Z_ground_of : Scope := defScope (top 14)
abbrev A_is_book : Arguments := defArgs (top 15)
abbrev B_is_book : List Stmt := defBody (top 15)
abbrev Z_is_book : Scope := defScope (top 15)
abbrev A_check_book : Arguments := defArgs (top 16)
abbrev B_check_book : List Stmt := defBody (top 16)
abbrev Z_check_book : Scope := defScope (top 16)
abbrev A_check_index : Arguments := defArgs (top 17)
abbrev B_check_index : List Stmt := defBody (top 17)
abbrev Z_check_index : Scope := defScope (top 17)
abbrev A_book_of_questions : Arguments := defArgs (top 18)
abbrev B_book_of_questions : List Stmt := defBody (top 18)
abbrev Z_book_of_questions : Scope := defScope (top 18)
abbrev A_taken_out : Arguments := defArgs (top 20)
abbrev B_taken_out : List Stmt := defBody (top 20)
abbrev Z_taken_out : Scope := defScope (top 20)
abbrev A_merged_of : Arguments := defArgs (top 21)
abbrev B_merged_of : List Stmt := defBody (top 21)
abbrev Z_merged_of : Scope := defScope (top 21)
abbrev A_merged : Arguments := defArgs (top 22)
abbrev B_merged : List Stmt := defBody (top 22)
abbrev Z_merged : Scope := defScope (top 22)
abbrev A__law_stock : Arguments := defArgs (top 24)
abbrev B__law_stock : List Stmt := defBody (top 24)
abbrev Z__law_stock : Scope := defScope (top 24)
abbrev A__law_pick : Arguments := defArgs (top 25)
abbrev B__law_pick : List Stmt := defBody (top 25)
abbrev Z__law_pick : Scope := defScope (top 25)
abbrev A__law_alike : Arguments := defArgs (top 26)
abbrev B__law_alike : List Stmt := defBody (top 26)
abbrev Z__law_alike : Scope := defScope (top 26)
abbrev A__law_clear : Arguments := defArgs (top 27)
abbrev B__law_clear : List Stmt := defBody (top 27)
abbrev Z__law_clear : Scope := defScope (top 27)
abbrev A__law_rank : Arguments := defArgs (top 28)
abbrev B__law_rank : List Stmt := defBody (top 28)
abbrev Z__law_rank : Scope := defScope (top 28)
abbrev A__law_all : Arguments := defArgs (top 29)
abbrev B__law_all : List Stmt := defBody (top 29)
abbrev Z__law_all : Scope := defScope (top 29)
abbrev A__law_closure : Arguments := defArgs (top 30)
abbrev B__law_closure : List Stmt := defBody (top 30)
abbrev Z__law_closure : Scope := defScope (top 30)
abbrev A__law_flats : Arguments := defArgs (top 31)
abbrev B__law_flats : List Stmt := defBody (top 31)
abbrev Z__law_flats : Scope := defScope (top 31)
abbrev A__law_signs : Arguments := defArgs (top 32)
abbrev B__law_signs : List Stmt := defBody (top 32)
abbrev Z__law_signs : Scope := defScope (top 32)
abbrev A__law_question : Arguments := defArgs (top 33)
abbrev B__law_question : List Stmt := defBody (top 33)
abbrev Z__law_question : Scope := defScope (top 33)
abbrev A__law_is_new : Arguments := defArgs (top 34)
abbrev B__law_is_new : List Stmt := defBody (top 34)
abbrev Z__law_is_new : Scope := defScope (top 34)
abbrev A__law_web : Arguments := defArgs (top 35)
abbrev B__law_web : List Stmt := defBody (top 35)
abbrev Z__law_web : Scope := defScope (top 35)
abbrev A__law_book : Arguments := defArgs (top 36)
abbrev B__law_book : List Stmt := defBody (top 36)
abbrev Z__law_book : Scope := defScope (top 36)
abbrev A__law_divided : Arguments := defArgs (top 37)
abbrev B__law_divided : List Stmt := defBody (top 37)
abbrev Z__law_divided : Scope := defScope (top 37)
abbrev A__law_merged : Arguments := defArgs (top 38)
abbrev B__law_merged : List Stmt := defBody (top 38)
abbrev Z__law_merged : Scope := defScope (top 38)
abbrev A_law : Arguments := defArgs (top 39)
abbrev B_law : List Stmt := defBody (top 39)
abbrev Z_law : Scope := defScope (top 39)
abbrev iS : Stmt := inClass (top 2) 0
def fnL0 : List He.DefD := [⟨("is_integer", none), "is_integer", "is_integer", A_is_integer, B_is_integer, Z_is_integer, [], []⟩, ⟨("is_pair", none), "is_pair", "is_pair", A_is_pair, B_is_pair, Z_is_pair, [], []⟩, ⟨("are_integers", none), "are_integers", "are_integers", A_are_integers, B_are_integers, Z_are_integers, [], []⟩, ⟨("divided", none), "divided", "divided", A_divided, B_divided, Z_divided, [], []⟩, ⟨("is_question", none), "is_question", "is_question", A_is_question, B_is_question, Z_is_question, [], []⟩, ⟨("row_of_question", none), "row_of_question", "row_of_question", A_row_of_question, B_row_of_question, Z_row_of_question, [], []⟩, ⟨("question_of_row", none), "question_of_row", "question_of_row", A_question_of_row, B_question_of_row, Z_question_of_row, [], []⟩, ⟨("ground_of", none), "ground_of", "ground_of", A_ground_of, B_ground_of, Z_ground_of, [], []⟩, ⟨("is_book", none), "is_book", "is_book", A_is_book, B_is_book, Z_is_book, [], []⟩, ⟨("check_book", none), "check_book", "check_book", A_check_book, B_check_book, Z_check_book, [], []⟩, ⟨("check_index", none), "check_index", "check_index", A_check_index, B_check_index, Z_check_index, [], []⟩, ⟨("book_of_questions", none), "book_of_questions", "book_of_questions", A_book_of_questions, B_book_of_questions, Z_book_of_questions, [], []⟩]
def fnL1 : List He.DefD := [⟨("taken_out", none), "taken_out", "taken_out", A_taken_out, B_taken_out, Z_taken_out, [], []⟩, ⟨("merged_of", none), "merged_of", "merged_of", A_merged_of, B_merged_of, Z_merged_of, [], []⟩, ⟨("merged", none), "merged", "merged", A_merged, B_merged, Z_merged, [], []⟩, ⟨("_law_stock", none), "_law_stock", "_law_stock", A__law_stock, B__law_stock, Z__law_stock, [], []⟩, ⟨("_law_pick", none), "_law_pick", "_law_pick", A__law_pick, B__law_pick, Z__law_pick, [], []⟩, ⟨("_law_alike", none), "_law_alike", "_law_alike", A__law_alike, B__law_alike, Z__law_alike, [], []⟩, ⟨("_law_clear", none), "_law_clear", "_law_clear", A__law_clear, B__law_clear, Z__law_clear, [], []⟩, ⟨("_law_rank", none), "_law_rank", "_law_rank", A__law_rank, B__law_rank, Z__law_rank, [], []⟩, ⟨("_law_all", none), "_law_all", "_law_all", A__law_all, B__law_all, Z__law_all, [], []⟩, ⟨("_law_closure", none), "_law_closure", "_law_closure", A__law_closure, B__law_closure, Z__law_closure, [], []⟩, ⟨("_law_flats", none), "_law_flats", "_law_flats", A__law_flats, B__law_flats, Z__law_flats, [], []⟩, ⟨("_law_signs", none), "_law_signs", "_law_signs", A__law_signs, B__law_signs, Z__law_signs, [], []⟩]
def fnL2 : List He.DefD := [⟨("_law_question", none), "_law_question", "_law_question", A__law_question, B__law_question, Z__law_question, [], []⟩, ⟨("_law_is_new", none), "_law_is_new", "_law_is_new", A__law_is_new, B__law_is_new, Z__law_is_new, [], []⟩, ⟨("_law_web", none), "_law_web", "_law_web", A__law_web, B__law_web, Z__law_web, [], []⟩, ⟨("_law_book", none), "_law_book", "_law_book", A__law_book, B__law_book, Z__law_book, [], []⟩, ⟨("_law_divided", none), "_law_divided", "_law_divided", A__law_divided, B__law_divided, Z__law_divided, [], []⟩, ⟨("_law_merged", none), "_law_merged", "_law_merged", A__law_merged, B__law_merged, Z__law_merged, [], []⟩, ⟨("law", none), "law", "law", A_law, B_law, Z_law, [], []⟩, ⟨("BookError", some "__init__"), "__init__", "BookError.__init__", defArgs iS, defBody iS, defScope iS, [], []⟩]
def fnL : List He.DefD := fnL0 ++ fnL1 ++ fnL2
def faL0 : List Fc := [.he (.glo "is_integer"), .he (.glo "is_pair"), .he (.glo "are_integers"), .he (.glo "divided"), .he (.glo "is_question"), .he (.glo "row_of_question"), .he (.glo "question_of_row"), .he (.glo "ground_of"), .he (.glo "is_book"), .he (.glo "check_book"), .he (.glo "check_index"), .he (.glo "book_of_questions")]
def faL1 : List Fc := [.he (.glo "taken_out"), .he (.glo "merged_of"), .he (.glo "merged"), .he (.glo "_law_stock"), .he (.glo "_law_pick"), .he (.glo "_law_alike"), .he (.glo "_law_clear"), .he (.glo "_law_rank"), .he (.glo "_law_all"), .he (.glo "_law_closure"), .he (.glo "_law_flats"), .he (.glo "_law_signs")]
def faL2 : List Fc := [.he (.glo "_law_question"), .he (.glo "_law_is_new"), .he (.glo "_law_web"), .he (.glo "_law_book"), .he (.glo "_law_divided"), .he (.glo "_law_merged"), .he (.glo "law"), .he (.free "len"), .he (.free "all"), .he (.free "any"), .he (.free "tuple"), .he (.free "list")]
def faL3 : List Fc := [.he (.free "int"), .he (.free "isinstance"), .he (.free "range"), .he (.free "zip"), .he (.free "abs"), .he (.free "max"), .he (.free "min"), .he (.free "enumerate"), .he (.free "sorted"), .he (.free "sum"), .he (.free "dict"), .he (.free "set")]
def faL4 : List Fc := [.he (.free "str"), .he (.free "bool"), .he (.free "ValueError"), .he (.free "reversed"), .he (.free "repr"), .bfun "gcd" "math.gcd", .exc "BookError" "BookError", .exc "BookError" "InvalidBook", .exc "BookError" "InvalidIndex"]
def faL : List Fc := faL0 ++ faL1 ++ faL2 ++ faL3 ++ faL4
def nmL0 : List PySem.Str := ["BookError", "InvalidBook", "InvalidIndex", "is_integer", "is_pair", "are_integers", "divided", "is_question", "row_of_question", "question_of_row", "ground_of", "is_book"]
def nmL1 : List PySem.Str := ["check_book", "check_index", "book_of_questions", "taken_out", "merged_of", "merged", "_law_stock", "_law_pick", "_law_alike", "_law_clear", "_law_rank", "_law_all"]
def nmL2 : List PySem.Str := ["_law_closure", "_law_flats", "_law_signs", "_law_question", "_law_is_new", "_law_web", "_law_book", "_law_divided", "_law_merged"]
def nmL : List PySem.Str := nmL0 ++ nmL1 ++ nmL2
abbrev Rw : PySem.W.OpenRow := PySem.W.OpenLaw.row PySem.Challenge.rw_sidebooks_k28_whole_merged_books
abbrev hk : PySem.W.Hook := hookF 5 faL fnL
def ob (s : PySem.W.SharedT) : AlF := obsFG 5 faL fnL (HandSHeadRun.getT s)
theorem ob_eq (s : PySem.W.SharedT) : ob s = hk.obs s.abs := obsFG_eq (HandSHeadRun.getT_eq s)
/-- what the top leaves -/
structure TopF (K : PySem.W.Frag) (mg : Str → Option Value) : Prop where
  b_len : mg "len" = none
  b_all : mg "all" = none
  b_any : mg "any" = none
  b_tuple : mg "tuple" = none
  b_list : mg "list" = none
  b_int : mg "int" = none
  b_isinstance : mg "isinstance" = none
  b_range : mg "range" = none
  b_zip : mg "zip" = none
  b_abs : mg "abs" = none
  b_max : mg "max" = none
  b_min : mg "min" = none
  b_enumerate : mg "enumerate" = none
  b_sorted : mg "sorted" = none
  b_sum : mg "sum" = none
  b_dict : mg "dict" = none
  b_set : mg "set" = none
  b_str : mg "str" = none
  b_bool : mg "bool" = none
  b_ValueError : mg "ValueError" = none
  b_reversed : mg "reversed" = none
  b_repr : mg "repr" = none
  gcd : mg "gcd" = some (.builtin "math.gcd")
  x_BookError : XC K mg "BookError" (He.ma K (He.ga K "BookError") "__init__")
  x_InvalidBook : XC K mg "InvalidBook" (He.ma K (He.ga K "BookError") "__init__")
  x_InvalidIndex : XC K mg "InvalidIndex" (He.ma K (He.ga K "BookError") "__init__")
  d_is_integer : DefF K mg "is_integer" A_is_integer B_is_integer Z_is_integer
  d_is_pair : DefF K mg "is_pair" A_is_pair B_is_pair Z_is_pair
  d_are_integers : DefF K mg "are_integers" A_are_integers B_are_integers Z_are_integers
  d_divided : DefF K mg "divided" A_divided B_divided Z_divided
  d_is_question : DefF K mg "is_question" A_is_question B_is_question Z_is_question
  d_row_of_question : DefF K mg "row_of_question" A_row_of_question B_row_of_question Z_row_of_question
  d_question_of_row : DefF K mg "question_of_row" A_question_of_row B_question_of_row Z_question_of_row
  d_ground_of : DefF K mg "ground_of" A_ground_of B_ground_of Z_ground_of
  d_is_book : DefF K mg "is_book" A_is_book B_is_book Z_is_book
  d_check_book : DefF K mg "check_book" A_check_book B_check_book Z_check_book
  d_check_index : DefF K mg "check_index" A_check_index B_check_index Z_check_index
  d_book_of_questions : DefF K mg "book_of_questions" A_book_of_questions B_book_of_questions Z_book_of_questions
  d_taken_out : DefF K mg "taken_out" A_taken_out B_taken_out Z_taken_out
  d_merged_of : DefF K mg "merged_of" A_merged_of B_merged_of Z_merged_of
  d_merged : DefF K mg "merged" A_merged B_merged Z_merged
  d__law_stock : DefF K mg "_law_stock" A__law_stock B__law_stock Z__law_stock
  d__law_pick : DefF K mg "_law_pick" A__law_pick B__law_pick Z__law_pick
  d__law_alike : DefF K mg "_law_alike" A__law_alike B__law_alike Z__law_alike
  d__law_clear : DefF K mg "_law_clear" A__law_clear B__law_clear Z__law_clear
  d__law_rank : DefF K mg "_law_rank" A__law_rank B__law_rank Z__law_rank
  d__law_all : DefF K mg "_law_all" A__law_all B__law_all Z__law_all
  d__law_closure : DefF K mg "_law_closure" A__law_closure B__law_closure Z__law_closure
  d__law_flats : DefF K mg "_law_flats" A__law_flats B__law_flats Z__law_flats
  d__law_signs : DefF K mg "_law_signs" A__law_signs B__law_signs Z__law_signs
  d__law_question : DefF K mg "_law_question" A__law_question B__law_question Z__law_question
  d__law_is_new : DefF K mg "_law_is_new" A__law_is_new B__law_is_new Z__law_is_new
  d__law_web : DefF K mg "_law_web" A__law_web B__law_web Z__law_web
  d__law_book : DefF K mg "_law_book" A__law_book B__law_book Z__law_book
  d__law_divided : DefF K mg "_law_divided" A__law_divided B__law_divided Z__law_divided
  d__law_merged : DefF K mg "_law_merged" A__law_merged B__law_merged Z__law_merged
  d_law : DefF K mg "law" A_law B_law Z_law
  d_init : ∃ fd, FunD K "__init__" "BookError.__init__" (defArgs iS) (defBody iS) (defScope iS) [] [] (He.ma K (He.ga K "BookError") "__init__") fd
theorem top_ok {K : PySem.W.Frag} {h : Heap} {mg : Str → Option Value} (X : K.In h) (G : h.Ns mainGlobals mg) (c : SaysF faL fnL K) : TopF K mg :=
  ⟨free_okF X G (c.fact 31),
   free_okF X G (c.fact 32),
   free_okF X G (c.fact 33),
   free_okF X G (c.fact 34),
   free_okF X G (c.fact 35),
   free_okF X G (c.fact 36),
   free_okF X G (c.fact 37),
   free_okF X G (c.fact 38),
   free_okF X G (c.fact 39),
   free_okF X G (c.fact 40),
   free_okF X G (c.fact 41),
   free_okF X G (c.fact 42),
   free_okF X G (c.fact 43),
   free_okF X G (c.fact 44),
   free_okF X G (c.fact 45),
   free_okF X G (c.fact 46),
   free_okF X G (c.fact 47),
   free_okF X G (c.fact 48),
   free_okF X G (c.fact 49),
   free_okF X G (c.fact 50),
   free_okF X G (c.fact 51),
   free_okF X G (c.fact 52),
   bfun_okF X G (c.fact 53),
   exc_okF X G (c.fact 54),
   exc_okF X G (c.fact 55),
   exc_okF X G (c.fact 56),
   def_okF X G c 0 0,
   def_okF X G c 1 1,
   def_okF X G c 2 2,
   def_okF X G c 3 3,
   def_okF X G c 4 4,
   def_okF X G c 5 5,
   def_okF X G c 6 6,
   def_okF X G c 7 7,
   def_okF X G c 8 8,
   def_okF X G c 9 9,
   def_okF X G c 10 10,
   def_okF X G c 11 11,
   def_okF X G c 12 12,
   def_okF X G c 13 13,
   def_okF X G c 14 14,
   def_okF X G c 15 15,
   def_okF X G c 16 16,
   def_okF X G c 17 17,
   def_okF X G c 18 18,
   def_okF X G c 19 19,
   def_okF X G c 20 20,
   def_okF X G c 21 21,
   def_okF X G c 22 22,
   def_okF X G c 23 23,
   def_okF X G c 24 24,
   def_okF X G c 25 25,
   def_okF X G c 26 26,
   def_okF X G c 27 27,
   def_okF X G c 28 28,
   def_okF X G c 29 29,
   def_okF X G c 30 30,
   c.def_ 31⟩
section
variable {P : Program} {w : World} {K : PySem.W.Frag} {mg : Str → Option Value} {base : Heap}
theorem sc_init : FnScope ["self", "value"] ["self", "value"] (defScope iS) := ⟨rfl, rfl, rfl, by decide +kernel, rfl, by decide +kernel, by decide +kernel⟩
theorem initF (T : TopF K mg) : InitF P w K mg base (He.ma K (He.ga K "BookError") "__init__") 1 := by
  obtain ⟨fd, F⟩ := T.d_init
  exact init_mk F sc_init (F.bindsN fun _ _ _ _ _ _ us hl => match us, hl with | [_, _], _ => rfl) (fun cdv A outer s H E =>
    pss_cons (ps_expr (pe_veinit (by rfl) T.b_ValueError rfl (pa_cons (pv 0) (pa_cons (pv 1) pa_nil)))) (pss_one (ps_ost (pv 0) (pv 1))))
end
end W_k28

set_option Elab.async false
set_option linter.all false
set_option maxRecDepth 100000
set_option maxHeartbeats 0
namespace W_k28
open PySem PySem.Spec PyProof.Rows L2 DL
theorem runTop (w : World) : HandSHeadRun.RunEqI Rw (PySem.W.view Rw.prog [0, 39]) hk ob 8000 nmL w := by
  unfold HandSHeadRun.RunEqI
  kernel_rfl
end W_k28

set_option Elab.async false
set_option linter.all false
set_option maxRecDepth 100000
set_option maxHeartbeats 4000000
namespace W_k28
open PySem PySem.Spec PyProof.Rows L2 DL
/-! is_integer -/
noncomputable def G_is_integer : MS := (sRet ((eAnd (eIsi isInt (eVar 0)) (eNot (eIsi isBool (eVar 0))))))
noncomputable def F_is_integer : FnD := mkF false 1 1 G_is_integer
/-! is_pair -/
noncomputable def G_is_pair : MS := (sRet ((eAnd (eIsi isTuple (eVar 0)) (eOp dEq (eLen (eVar 0)) (eC (.int 2))))))
noncomputable def F_is_pair : FnD := mkF false 1 1 G_is_pair
/-! are_integers -/
noncomputable def G_are_integers : MS := (sRet ((eAnd (eIsi isTuple (eVar 0)) (eCallB (d1 dAll) (aCons (eLc [1] (iSeq (eVar 0)) (gN 1) tYesD (eCall F_is_integer (aCons (eVar 1) aNil))) aNil)))))
noncomputable def F_are_integers : FnD := mkF false 2 1 G_are_integers
/-! divided -/
noncomputable def G_divided : MS := (sSeq (sSet 1 (eC (.int 0)))
    (sSeq (sFor (iSeq (eVar 0)) (gN 2) (sSet 1 (eCallB gGcd (aCons (eVar 1) (aCons (eVar 2) aNil)))))
    (sRet (eCallB (d1 dTuple) (aCons (eLc [2] (iSeq (eVar 0)) (gN 2) tYesD (eOp (dInt2 gFdivN) (eVar 2) (eVar 1))) aNil)))))
noncomputable def F_divided : FnD := mkF false 3 1 G_divided
/-! is_question -/
noncomputable def G_is_question : MS := (sSeq (sIf (tOrD (tNotD (tVal (eCall F_is_pair (aCons (eVar 1) aNil)))) (tOrD (tNotD (tVal (eCall F_are_integers (aCons (eIx (eVar 1) (eC (.int 0))) aNil)))) (tNotD (tVal (eCall F_is_integer (aCons (eIx (eVar 1) (eC (.int 1))) aNil)))))) (sRet (eC (.bool false))) sNext)
    (sRet ((eAnd (eOp dEq (eLen (eIx (eVar 1) (eC (.int 0)))) (eVar 0)) (eCallB (d1 dAny) (aCons (eLc [2] (iSeq (eIx (eVar 1) (eC (.int 0)))) (gN 2) tYesD (eOp dNe (eVar 2) (eC (.int 0)))) aNil))))))
noncomputable def F_is_question : FnD := mkF false 3 2 G_is_question
/-! row_of_question -/
noncomputable def G_row_of_question : MS := (sRet (eOp dAdd (eIx (eVar 0) (eC (.int 0))) (eTup (aCons (eIx (eVar 0) (eC (.int 1))) aNil))))
noncomputable def F_row_of_question : FnD := mkF false 1 1 G_row_of_question
/-! question_of_row -/
noncomputable def G_question_of_row : MS := (sSeq (sSet 1 (eCall F_divided (aCons (eVar 0) aNil)))
    (sRet (eTup (aCons (eSl (eVar 1) oNone (oSome (eUn dNeg (eC (.int 1))))) (aCons (eIx (eVar 1) (eUn dNeg (eC (.int 1)))) aNil)))))
noncomputable def F_question_of_row : FnD := mkF false 2 1 G_question_of_row
/-! ground_of -/
noncomputable def G_ground_of : MS := (sSeq (sSet 1 (eCall F_divided (aCons (eCall F_row_of_question (aCons (eVar 0) aNil)) aNil)))
    (sSeq (sSet 2 (eIx (eLc [3] (iSeq (eVar 1)) (gN 3) (tVal (eOp dNe (eVar 3) (eC (.int 0)))) (eVar 3)) (eC (.int 0))))
    (sRet (eIf (tVal (eOp (dInt2 (gCmp fun i j => decide (j < i))) (eVar 2) (eC (.int 0)))) (eVar 1) (eCallB (d1 dTuple) (aCons (eLc [3] (iSeq (eVar 1)) (gN 3) tYesD (eUn dNeg (eVar 3))) aNil))))))
noncomputable def F_ground_of : FnD := mkF false 4 1 G_ground_of
/-! is_book -/
noncomputable def G_is_book : MS := (sSeq (sIf (tOrD (tNotD (tVal (eCall F_is_pair (aCons (eVar 0) aNil)))) (tOrD (tNotD (tVal (eCall F_is_integer (aCons (eIx (eVar 0) (eC (.int 0))) aNil)))) (tOrD (tVal (eOp (dInt2 (gCmp fun i j => decide (i < j))) (eIx (eVar 0) (eC (.int 0))) (eC (.int 1)))) (tNotD (tVal (eIsi isTuple (eIx (eVar 0) (eC (.int 1))))))))) (sRet (eC (.bool false))) sNext)
    (sSeq (sIf (tNotD (tVal (eCallB (d1 dAll) (aCons (eLc [1] (iSeq (eIx (eVar 0) (eC (.int 1)))) (gN 1) tYesD (eCall F_is_question (aCons (eIx (eVar 0) (eC (.int 0))) (aCons (eVar 1) aNil)))) aNil)))) (sRet (eC (.bool false))) sNext)
    (sRet (eOp dEq (eLen (eDcM true [1] (iSeq (eIx (eVar 0) (eC (.int 1)))) (gN 1) tYesD (eCall F_ground_of (aCons (eVar 1) aNil)) (eC (.bool true)))) (eLen (eIx (eVar 0) (eC (.int 1))))))))
noncomputable def F_is_book : FnD := mkF false 2 1 G_is_book
/-! check_book -/
noncomputable def G_check_book : MS := (sIf (tNotD (tVal (eCall F_is_book (aCons (eVar 0) aNil)))) (sRaise "InvalidBook" (eVar 0)) sNext)
noncomputable def F_check_book : FnD := mkF false 1 1 G_check_book
/-! check_index -/
noncomputable def G_check_index : MS := (sIf (tOrD (tNotD (tVal (eCall F_is_integer (aCons (eVar 1) aNil)))) (tNotD (tVal (eChain (dInt2 (gCmp fun i j => decide (i ≤ j))) (dInt2 (gCmp fun i j => decide (i < j))) (eC (.int 0)) (eVar 1) (eLen (eIx (eVar 0) (eC (.int 1)))))))) (sRaise "InvalidIndex" (eVar 1)) sNext)
noncomputable def F_check_index : FnD := mkF false 2 2 G_check_index
/-! book_of_questions -/
noncomputable def G_book_of_questions : MS := (sSeq (sParN [2, 3] (aCons (eLstM aNil) (aCons (eDicM true) aNil)))
    (sSeq (sFor (iSeq (eVar 1)) (gN 4) (sSeq (sSet 5 (eCall F_ground_of (aCons (eVar 4) aNil)))
    (sIf (tVal (eDIn true (eVar 5) (eVar 3))) (sSeq (sDPut (eC (.bool true)) (eVar 3) (eVar 5))
    (sExpr (eLM gAppend (eVar 2) (aCons (eCall F_question_of_row (aCons (eCall F_row_of_question (aCons (eVar 4) aNil)) aNil)) aNil)))) sNext)))
    (sRet (eTup (aCons (eVar 0) (aCons (eCallB (d1 dTuple) (aCons (eVar 2) aNil)) aNil))))))
noncomputable def F_book_of_questions : FnD := mkF false 6 2 G_book_of_questions
/-! taken_out -/
noncomputable def G_taken_out : MS := (sSeq (sAsg (eVar 0) (gT (gsCons (gN 3) (gsCons (gN 4) gsNil))))
    (sSeq (sAsg (eVar 1) (gT (gsCons (gN 5) (gsCons (gN 6) gsNil))))
    (sSeq (sSet 7 (eCallB (d1 dAbs) (aCons (eIx (eVar 3) (eVar 2)) aNil)))
    (sSeq (sSet 8 (eIf (tVal (eOp (dInt2 (gCmp fun i j => decide (j < i))) (eIx (eVar 3) (eVar 2)) (eC (.int 0)))) (eIx (eVar 5) (eVar 2)) (eUn dNeg (eIx (eVar 5) (eVar 2)))))
    (sSeq (sSet 9 (eLc [10, 11] (iZip2 (aCons (eVar 3) (aCons (eVar 5) aNil))) (gT (gsCons (gN 10) (gsCons (gN 11) gsNil))) tYesD (eOp (dInt2 gSub) (eOp dMul (eVar 7) (eVar 11)) (eOp dMul (eVar 8) (eVar 10)))))
    (sRet (eTup (aCons (eCallB (d1 dTuple) (aCons (eOp dAdd (eSl (eVar 9) oNone (oSome (eVar 2))) (eSl (eVar 9) (oSome (eOp dAdd (eVar 2) (eC (.int 1)))) oNone)) aNil)) (aCons (eOp (dInt2 gSub) (eOp dMul (eVar 7) (eVar 6)) (eOp dMul (eVar 8) (eVar 4))) aNil)))))))))
noncomputable def F_taken_out : FnD := mkF false 12 3 G_taken_out
/-! merged_of -/
noncomputable def G_merged_of : MS := (sSeq (sAsg (eVar 0) (gT (gsCons (gN 2) (gsCons (gN 3) gsNil))))
    (sSeq (sSet 4 (eIx (eVar 3) (eVar 1)))
    (sSeq (sSet 5 (eIx (eLc [7, 8] (iEnumG (aCons (eIx (eVar 4) (eC (.int 0))) aNil)) (gT (gsCons (gN 7) (gsCons (gN 8) gsNil))) (tVal (eOp dNe (eVar 8) (eC (.int 0)))) (eVar 7)) (eUn dNeg (eC (.int 1)))))
    (sSeq (sSet 6 (eLc [9] (iSeq (eOp dAdd (eSl (eVar 3) oNone (oSome (eVar 1))) (eSl (eVar 3) (oSome (eOp dAdd (eVar 1) (eC (.int 1)))) oNone))) (gN 9) tYesD (eCall F_taken_out (aCons (eVar 4) (aCons (eVar 9) (aCons (eVar 5) aNil))))))
    (sRet (eCall F_book_of_questions (aCons (eOp (dInt2 gSub) (eVar 2) (eC (.int 1))) (aCons (eLc [9] (iSeq (eVar 6)) (gN 9) (tVal (eCallB (d1 dAny) (aCons (eLc [8] (iSeq (eIx (eVar 9) (eC (.int 0)))) (gN 8) tYesD (eOp dNe (eVar 8) (eC (.int 0)))) aNil))) (eVar 9)) aNil))))))))
noncomputable def F_merged_of : FnD := mkF false 10 2 G_merged_of
/-! merged -/
noncomputable def G_merged : MS := (sSeq (sExpr (eCall F_check_book (aCons (eVar 0) aNil)))
    (sSeq (sIf (tVal (eOp dEq (eIx (eVar 0) (eC (.int 0))) (eC (.int 1)))) (sRaise "InvalidBook" (eVar 0)) sNext)
    (sSeq (sExpr (eCall F_check_index (aCons (eVar 0) (aCons (eVar 1) aNil))))
    (sRet (eCall F_merged_of (aCons (eVar 0) (aCons (eVar 1) aNil)))))))
noncomputable def F_merged : FnD := mkF false 2 2 G_merged
/-! _law_stock -/
noncomputable def G__law_stock : MS := (sSeq (sSet 2 (eIf (tVal (eOp (dInt2 (gCmp fun i j => decide (i < j))) (eVar 1) (eLen (eVar 0)))) (eIx (eVar 0) (eVar 1)) (eOp dAdd (eOp dAdd (eOp dMul (eC (.int 5003)) (eVar 1)) (eOp dMul (eC (.int 271)) (eLen (eVar 0)))) (eC (.int 11)))))
    (sSeq (sSet 3 (eIf (tVal (eOp (dInt2 (gCmp fun i j => decide (j ≤ i))) (eVar 2) (eOp (dInt2 gPow) (eC (.int 10)) (eC (.int 18))))) (eOp (dInt2 gSub) (eVar 2) (eOp (dInt2 gPow) (eC (.int 10)) (eC (.int 18)))) (eC (.int 0))))
    (sRet (eLstM (aCons (eVar 3) (aCons (eOp (dInt2 gMod) (eCallB (d1 dInt) (aCons (eOp dAdd (eOp dAdd (eOp dMul (eVar 2) (eC (.int 1299709))) (eOp dMul (eVar 1) (eC (.int 15487469)))) (eC (.int 4241))) aNil)) (eOp dAdd (eOp (dInt2 gPow) (eC (.int 10)) (eC (.int 28))) (eC (.int 331)))) (aCons (eC (.int 0)) aNil)))))))
noncomputable def F__law_stock : FnD := mkF true 4 2 G__law_stock
/-! _law_pick -/
noncomputable def G__law_pick : MS := (sSeq (sIf (tVal (eOp (dInt2 (gCmp fun i j => decide (j < i))) (eIx (eVar 0) (eC (.int 0))) (eC (.int 0)))) (sSeq (sSet 2 (eOp (dInt2 gMod) (eCallB (d1 dInt) (aCons (eIx (eVar 0) (eC (.int 0))) aNil)) (eVar 1)))
    (sSeq (sSub (eOp (dInt2 gFdivN) (eIx (eVar 0) (eC (.int 0))) (eVar 1)) (eVar 0) (eC (.int 0)))
    (sRet (eVar 2)))) sNext)
    (sSeq (sSub (eOp dAdd (eIx (eVar 0) (eC (.int 2))) (eC (.int 1))) (eVar 0) (eC (.int 2)))
    (sSeq (sSet 3 (eOp (dInt2 gMod) (eOp (dInt2 gPow) (eCallB (d1 dInt) (aCons (eOp dAdd (eIx (eVar 0) (eC (.int 1))) (eOp dMul (eC (.int 7368787)) (eIx (eVar 0) (eC (.int 2))))) aNil)) (eC (.int 3))) (eOp dAdd (eOp (dInt2 gPow) (eC (.int 10)) (eC (.int 27))) (eC (.int 103)))))
    (sSeq (sSet 3 (eOp (dInt2 gMod) (eOp (dInt2 gPow) (eCallB (d1 dInt) (aCons (eOp dAdd (eVar 3) (eOp dMul (eOp dMul (eC (.int 15485863)) (eIx (eVar 0) (eC (.int 2)))) (eIx (eVar 0) (eC (.int 2))))) aNil)) (eC (.int 2))) (eOp dAdd (eOp (dInt2 gPow) (eC (.int 10)) (eC (.int 26))) (eC (.int 67)))))
    (sRet (eOp (dInt2 gMod) (eCallB (d1 dInt) (aCons (eOp (dInt2 gFdivN) (eVar 3) (eC (.int 65536))) aNil)) (eVar 1)))))))
noncomputable def F__law_pick : FnD := mkF false 4 2 G__law_pick
/-! _law_alike -/
noncomputable def G__law_alike (Fr : FnD) : MS := (sSeq (sIf (tVal (eIsN (eVar 1))) (sRet (eIsN (eVar 0))) sNext)
    (sSeq (sIf (tVal (eIsi isBool (eVar 1))) (sRet ((eAnd (eIsi isBool (eVar 0)) (eOp dEq (eVar 0) (eVar 1))))) sNext)
    (sSeq (sIf (tVal (eIsi isInt (eVar 1))) (sRet ((eAnd (eIsi isInt (eVar 0)) (eAnd (eNot (eIsi isBool (eVar 0))) (eOp dEq (eVar 0) (eVar 1)))))) sNext)
    (sSeq (sIf (tVal (eIsi isStr (eVar 1))) (sRet ((eAnd (eIsi isStr (eVar 0)) (eOp dEq (eVar 0) (eVar 1))))) sNext)
    (sSeq (sIf (tOrD (tAndD (tVal (eIsi isTuple (eVar 1))) (tNotD (tVal (eIsi isTuple (eVar 0))))) (tAndD (tVal (eIsi isList (eVar 1))) (tNotD (tVal (eIsi isList (eVar 0)))))) (sRet (eC (.bool false))) sNext)
    (sRet ((eAnd (eOp dEq (eLen (eVar 0)) (eLen (eVar 1))) (eCallB (d1 dAll) (aCons (eLc [2, 3] (iZip2 (aCons (eVar 0) (aCons (eVar 1) aNil))) (gT (gsCons (gN 2) (gsCons (gN 3) gsNil))) tYesD (eCall Fr (aCons (eVar 2) (aCons (eVar 3) aNil)))) aNil))))))))))
noncomputable def R__law_alike : Nat → FnD
  | 0 => fun _ _ => .no
  | k + 1 => mkF false 4 2 (G__law_alike (R__law_alike k))
noncomputable def F__law_alike : FnD := R__law_alike 12
/-! _law_clear -/
noncomputable def G__law_clear : MS := (sSeq (sParN [0, 2] (aCons (eLcM [7] (iSeq (eVar 0)) (gN 7) tYesD (eCallB (d1 dList) (aCons (eVar 7) aNil))) (aCons (eLstM aNil) aNil)))
    (sSeq (sFor (iRng rangeOf1 (aCons (eVar 1) aNil)) (gN 3) (sSeq (sSet 4 (eLc [8, 7] (iEnumG (aCons (eVar 0) aNil)) (gT (gsCons (gN 8) (gsCons (gN 7) gsNil))) (tVal (eOp dNe (eIx (eVar 7) (eVar 3)) (eC (.int 0)))) (eVar 8)))
    (sIf (tVal (eOp dNe (eVar 4) (eLst aNil))) (sSeq (sParN [5, 6] (aCons (eIx (eVar 0) (eIx (eVar 4) (eC (.int 0)))) (aCons (eOp dAdd (eSl (eVar 0) oNone (oSome (eIx (eVar 4) (eC (.int 0))))) (eSl (eVar 0) (oSome (eOp dAdd (eIx (eVar 4) (eC (.int 0))) (eC (.int 1)))) oNone)) aNil)))
    (sSeq (sSet 0 (eLstM aNil))
    (sSeq (sFor (iSeq (eVar 6)) (gN 7) (sExpr (eLM gAppend (eVar 0) (aCons (eLc [9] (iRng rangeOf1 (aCons (eLen (eVar 7)) aNil)) (gN 9) tYesD (eOp (dInt2 gSub) (eOp dMul (eIx (eVar 7) (eVar 9)) (eIx (eVar 5) (eVar 3))) (eOp dMul (eIx (eVar 5) (eVar 9)) (eIx (eVar 7) (eVar 3))))) aNil))))
    (sExpr (eLM gAppend (eVar 2) (aCons (eVar 5) aNil)))))) sNext)))
    (sRet (eTupM (aCons (eVar 2) (aCons (eVar 0) aNil))))))
noncomputable def F__law_clear : FnD := mkF false 10 2 G__law_clear
/-! _law_rank -/
noncomputable def G__law_rank : MS := (sRet (eLen (eIx (eCall F__law_clear (aCons (eVar 0) (aCons (eVar 1) aNil))) (eC (.int 0)))))
noncomputable def F__law_rank : FnD := mkF false 2 2 G__law_rank
/-! _law_all -/
noncomputable def G__law_all : MS := (sRet (eLcM [2] (iSeq (eVar 1)) (gN 2) tYesD (eOp dAdd (eIx (eIx (eIx (eVar 0) (eC (.int 1))) (eVar 2)) (eC (.int 0))) (eTup (aCons (eIx (eIx (eIx (eVar 0) (eC (.int 1))) (eVar 2)) (eC (.int 1))) aNil)))))
noncomputable def F__law_all : FnD := mkF true 3 2 G__law_all
/-! _law_closure -/
noncomputable def G__law_closure : MS := (sSeq (sParN [2, 3] (aCons (eIx (eVar 0) (eC (.int 0))) (aCons (eCall F__law_all (aCons (eVar 0) (aCons (eVar 1) aNil))) aNil)))
    (sSeq (sSet 4 (eCall F__law_rank (aCons (eVar 3) (aCons (eVar 2) aNil))))
    (sSeq (sIf (tVal (eOp (dInt2 (gCmp fun i j => decide (j < i))) (eCall F__law_rank (aCons (eVar 3) (aCons (eOp dAdd (eVar 2) (eC (.int 1))) aNil))) (eVar 4))) (sRet (eC .none)) sNext)
    (sRet (eCallB (d1 dTuple) (aCons (eLc [5] (iRng rangeOf1 (aCons (eLen (eIx (eVar 0) (eC (.int 1)))) aNil)) (gN 5) (tVal (eOp dEq (eCall F__law_rank (aCons (eOpM dAddM (eVar 3) (eCall F__law_all (aCons (eVar 0) (aCons (eLst (aCons (eVar 5) aNil)) aNil)))) (aCons (eOp dAdd (eVar 2) (eC (.int 1))) aNil))) (eVar 4))) (eVar 5)) aNil))))))
noncomputable def F__law_closure : FnD := mkF false 6 2 G__law_closure
/-! _law_question -/
noncomputable def G__law_question : MS := (sSeq (sSet 3 (eLcM [4] (iRng rangeOf1 (aCons (eVar 1) aNil)) (gN 4) tYesD (eOp (dInt2 gSub) (eCall F__law_pick (aCons (eVar 0) (aCons (eOp dAdd (eOp dMul (eC (.int 2)) (eVar 2)) (eC (.int 1))) aNil))) (eVar 2))))
    (sSeq (sIf (tVal (eOp dEq (eCall F__law_pick (aCons (eVar 0) (aCons (eC (.int 4)) aNil))) (eC (.int 0)))) (sSet 3 (eOpM dMulM (eLst (aCons (eC (.int 0)) aNil)) (eVar 1))) sNext)
    (sSeq (sIf (tVal (eOp dEq (eVar 3) (eOp dMul (eLst (aCons (eC (.int 0)) aNil)) (eVar 1)))) (sSub (eOp dAdd (eC (.int 1)) (eCall F__law_pick (aCons (eVar 0) (aCons (eVar 2) aNil)))) (eVar 3) (eCall F__law_pick (aCons (eVar 0) (aCons (eVar 1) aNil)))) sNext)
    (sRet (eTup (aCons (eCallB (d1 dTuple) (aCons (eVar 3) aNil)) (aCons (eIf (tVal (eOp (dInt2 (gCmp fun i j => decide (j < i))) (eCall F__law_pick (aCons (eVar 0) (aCons (eC (.int 3)) aNil))) (eC (.int 0)))) (eOp (dInt2 gSub) (eCall F__law_pick (aCons (eVar 0) (aCons (eOp dAdd (eOp dMul (eC (.int 2)) (eVar 2)) (eC (.int 1))) aNil))) (eVar 2)) (eC (.int 0))) aNil)))))))
noncomputable def F__law_question : FnD := mkF false 5 3 G__law_question
/-! _law_is_new -/
noncomputable def G__law_is_new : MS := (sSeq (sSet 3 (eOp dAdd (eIx (eVar 1) (eC (.int 0))) (eTup (aCons (eIx (eVar 1) (eC (.int 1))) aNil))))
    (sSeq (sFor (iSeq (eVar 0)) (gT (gsCons (gN 4) (gsCons (gN 5) gsNil))) (sIf (tVal (eOp (dInt2 (gCmp fun i j => decide (i < j))) (eCall F__law_rank (aCons (eLstM (aCons (eOp dAdd (eVar 4) (eTup (aCons (eVar 5) aNil))) (aCons (eVar 3) aNil))) (aCons (eOp dAdd (eVar 2) (eC (.int 1))) aNil))) (eC (.int 2)))) (sRet (eC (.bool false))) sNext))
    (sRet (eC (.bool true)))))
noncomputable def F__law_is_new : FnD := mkF false 6 3 G__law_is_new
/-! _law_web -/
noncomputable def G__law_web : MS := (sSeq (sParN [2, 3] (aCons (eLstM aNil) (aCons (eTup aNil) aNil)))
    (sSeq (sFor (iRng rangeOf1 (aCons (eC (.int 4)) aNil)) (gN 4) (sSet 2 (eOpM dAddM (eVar 2) (eLc [5] (iRng rangeOf2 (aCons (eOp dAdd (eVar 4) (eC (.int 1))) (aCons (eC (.int 4)) aNil))) (gN 5) tYesD (eTup (aCons (eVar 4) (aCons (eVar 5) aNil)))))))
    (sSeq (sWhile (tOrD (tVal (eOp (dInt2 (gCmp fun i j => decide (j < i))) (eLen (eVar 2)) (eVar 1))) (tAndD (tVal (eOp dNe (eVar 2) (eLst aNil))) (tVal (eOp dEq (eCall F__law_pick (aCons (eVar 0) (aCons (eC (.int 4)) aNil))) (eC (.int 0)))))) (sExpr (eLM gPopAt (eVar 2) (aCons (eCall F__law_pick (aCons (eVar 0) (aCons (eLen (eVar 2)) aNil))) aNil))))
    (sSeq (sFor (iSeq (eVar 2)) (gT (gsCons (gN 4) (gsCons (gN 5) gsNil))) (sSeq (sSet 6 (eIf (tVal (eOp dEq (eCall F__law_pick (aCons (eVar 0) (aCons (eC (.int 3)) aNil))) (eC (.int 0)))) (eUn dNeg (eC (.int 1))) (eC (.int 1))))
    (sSet 3 (eOp dAdd (eVar 3) (eTup (aCons (eTup (aCons (eCallB (d1 dTuple) (aCons (eLc [7] (iRng rangeOf1 (aCons (eC (.int 4)) aNil)) (gN 7) tYesD (eOp dMul (eVar 6) (eOp (dInt2 gSub) (eCallB (d1 dInt) (aCons (eOp dEq (eVar 7) (eVar 4)) aNil)) (eCallB (d1 dInt) (aCons (eOp dEq (eVar 7) (eVar 5)) aNil))))) aNil)) (aCons (eC (.int 0)) aNil))) aNil))))))
    (sRet (eTup (aCons (eC (.int 4)) (aCons (eVar 3) aNil))))))))
noncomputable def F__law_web : FnD := mkF false 8 2 G__law_web
/-! _law_book -/
noncomputable def G__law_book : MS := (sSeq (sIf (tVal (eOp dEq (eCall F__law_pick (aCons (eVar 0) (aCons (eC (.int 6)) aNil))) (eC (.int 0)))) (sRet (eCall F__law_web (aCons (eVar 0) (aCons (eVar 1) aNil)))) sNext)
    (sSeq (sParN [3, 4] (aCons (eIx (eLst (aCons (eC (.int 1)) (aCons (eC (.int 2)) (aCons (eC (.int 2)) (aCons (eC (.int 3)) aNil))))) (eCall F__law_pick (aCons (eVar 0) (aCons (eC (.int 4)) aNil)))) (aCons (eTup aNil) aNil)))
    (sSeq (sFor (iRng rangeOf1 (aCons (eIx (eLst (aCons (eVar 1) (aCons (eVar 1) (aCons (eOp (dInt2 gSub) (eVar 1) (eC (.int 1))) (aCons (eCall F__law_pick (aCons (eVar 0) (aCons (eOp dAdd (eVar 1) (eC (.int 1))) aNil))) aNil))))) (eCall F__law_pick (aCons (eVar 0) (aCons (eC (.int 4)) aNil)))) aNil)) (gN 5) (sSeq (sSet 6 (eCall F__law_question (aCons (eVar 0) (aCons (eVar 3) (aCons (eVar 2) aNil)))))
    (sSeq (sIf (tAndD (tVal (eOp dNe (eVar 4) (eTup aNil))) (tVal (eOp dEq (eCall F__law_pick (aCons (eVar 0) (aCons (eC (.int 4)) aNil))) (eC (.int 0))))) (sSeq (sAsg (eIx (eVar 4) (eCall F__law_pick (aCons (eVar 0) (aCons (eLen (eVar 4)) aNil)))) (gT (gsCons (gN 7) (gsCons (gN 8) gsNil))))
    (sSet 6 (eTup (aCons (eVar 7) (aCons (eOp dAdd (eOp dAdd (eVar 8) (eC (.int 1))) (eCall F__law_pick (aCons (eVar 0) (aCons (eVar 2) aNil)))) aNil))))) sNext)
    (sIf (tAndD (tVal (eOp (dInt2 (gCmp fun i j => decide (i < j))) (eIx (eVar 6) (eC (.int 1))) (eC (.int 10)))) (tVal (eCall F__law_is_new (aCons (eVar 4) (aCons (eVar 6) (aCons (eVar 3) aNil)))))) (sSet 4 (eOp dAdd (eVar 4) (eTup (aCons (eVar 6) aNil)))) sNext))))
    (sRet (eTup (aCons (eVar 3) (aCons (eVar 4) aNil)))))))
noncomputable def F__law_book : FnD := mkF false 9 3 G__law_book
/-! _law_divided -/
noncomputable def G__law_divided : MS := (sSeq (sSet 1 (eC (.int 0)))
    (sSeq (sFor (iSeq (eVar 0)) (gN 2) (sSeq (sParN [3, 4] (aCons (eCallB (d1 dAbs) (aCons (eVar 2) aNil)) (aCons (eVar 1) aNil)))
    (sSeq (sWhile (tVal (eOp dNe (eVar 4) (eC (.int 0)))) (sParN [3, 4] (aCons (eVar 4) (aCons (eOp (dInt2 gMod) (eCallB (d1 dInt) (aCons (eVar 3) aNil)) (eVar 4)) aNil))))
    (sSet 1 (eVar 3)))))
    (sRet (eCallB (d1 dTuple) (aCons (eLc [2] (iSeq (eVar 0)) (gN 2) tYesD (eOp (dInt2 gFdivN) (eVar 2) (eVar 1))) aNil)))))
noncomputable def F__law_divided : FnD := mkF false 5 1 G__law_divided
/-! _law_merged -/
noncomputable def G__law_merged : MS := (sSeq (sAsg (eVar 0) (gT (gsCons (gN 2) (gsCons (gN 3) gsNil))))
    (sSeq (sAsg (eIx (eVar 3) (eVar 1)) (gT (gsCons (gN 4) (gsCons (gN 5) gsNil))))
    (sSeq (sParN [6, 7] (aCons (eCallB (d1 dMax) (aCons (eLc [13] (iRng rangeOf1 (aCons (eVar 2) aNil)) (gN 13) (tVal (eOp dNe (eIx (eVar 4) (eVar 13)) (eC (.int 0)))) (eVar 13)) aNil)) (aCons (eTup aNil) aNil)))
    (sSeq (sFor (iSeq (eOp dAdd (eSl (eVar 3) oNone (oSome (eVar 1))) (eSl (eVar 3) (oSome (eOp dAdd (eVar 1) (eC (.int 1)))) oNone))) (gT (gsCons (gN 8) (gsCons (gN 9) gsNil))) (sSeq (sParN [10, 11] (aCons (eCallB (d1 dAbs) (aCons (eIx (eVar 4) (eVar 6)) aNil)) (aCons (eOp dMul (eIx (eVar 8) (eVar 6)) (eIf (tVal (eOp (dInt2 (gCmp fun i j => decide (j < i))) (eIx (eVar 4) (eVar 6)) (eC (.int 0)))) (eC (.int 1)) (eUn dNeg (eC (.int 1))))) aNil)))
    (sSeq (sSet 12 (eLc [13] (iRng rangeOf1 (aCons (eVar 2) aNil)) (gN 13) (tVal (eOp dNe (eVar 13) (eVar 6))) (eOp (dInt2 gSub) (eOp dMul (eVar 10) (eIx (eVar 8) (eVar 13))) (eOp dMul (eVar 11) (eIx (eVar 4) (eVar 13))))))
    (sIf (tVal (eOp dNe (eLc [14] (iSeq (eVar 12)) (gN 14) (tVal (eOp dNe (eVar 14) (eC (.int 0)))) (eVar 14)) (eLst aNil))) (sSeq (sSet 12 (eCall F__law_divided (aCons (eOp dAdd (eVar 12) (eLst (aCons (eOp (dInt2 gSub) (eOp dMul (eVar 10) (eVar 9)) (eOp dMul (eVar 11) (eVar 5))) aNil))) aNil)))
    (sIf (tVal (eCall F__law_is_new (aCons (eVar 7) (aCons (eTup (aCons (eSl (eVar 12) oNone (oSome (eUn dNeg (eC (.int 1))))) (aCons (eIx (eVar 12) (eUn dNeg (eC (.int 1)))) aNil))) (aCons (eOp (dInt2 gSub) (eVar 2) (eC (.int 1))) aNil))))) (sSet 7 (eOp dAdd (eVar 7) (eTup (aCons (eTup (aCons (eSl (eVar 12) oNone (oSome (eUn dNeg (eC (.int 1))))) (aCons (eIx (eVar 12) (eUn dNeg (eC (.int 1)))) aNil))) aNil)))) sNext)) sNext))))
    (sRet (eTup (aCons (eOp (dInt2 gSub) (eVar 2) (eC (.int 1))) (aCons (eVar 7) aNil))))))))
noncomputable def F__law_merged : FnD := mkF false 15 2 G__law_merged
/-! law -/
noncomputable def G_law : MS := (sSeq (sFor (iRng rangeOf1 (aCons (eCallB (d2 gMax2) (aCons (eC (.int 1)) (aCons (eCallB (d2 gMin2) (aCons (eC (.int 6)) (aCons (eLen (eVar 0)) aNil))) aNil))) aNil)) (gN 1) (sSeq (sSet 2 (eCall F__law_stock (aCons (eVar 0) (aCons (eVar 1) aNil))))
    (sSeq (sAsg (eCall F__law_book (aCons (eVar 2) (aCons (eC (.int 6)) (aCons (eIx (eLst (aCons (eC (.int 3)) (aCons (eC (.int 3)) (aCons (eC (.int 9)) aNil)))) (eCall F__law_pick (aCons (eVar 2) (aCons (eC (.int 3)) aNil)))) aNil)))) (gT (gsCons (gN 3) (gsCons (gN 4) gsNil))))
    (sSeq (sSet 5 (eTup (aCons (eVar 3) (aCons (eVar 4) aNil))))
    (sSeq (sIf (tOrD (tVal (eOp (dInt2 (gCmp fun i j => decide (i < j))) (eVar 3) (eC (.int 2)))) (tVal (eOp dEq (eVar 4) (eTup aNil)))) (sSet 5 (eTup (aCons (eC (.int 2)) (aCons (eTup (aCons (eTup (aCons (eTup (aCons (eC (.int 2)) (aCons (eUn dNeg (eC (.int 1))) aNil))) (aCons (eC (.int 1)) aNil))) (aCons (eTup (aCons (eTup (aCons (eUn dNeg (eC (.int 4))) (aCons (eC (.int 2)) aNil))) (aCons (eC (.int 3)) aNil))) (aCons (eTup (aCons (eTup (aCons (eC (.int 0)) (aCons (eC (.int 3)) aNil))) (aCons (eC (.int 6)) aNil))) (aCons (eTup (aCons (eTup (aCons (eC (.int 1)) (aCons (eC (.int 1)) aNil))) (aCons (eC (.int 0)) aNil))) aNil))))) aNil)))) sNext)
    (sFor (iRng rangeOf1 (aCons (eLen (eIx (eVar 5) (eC (.int 1)))) aNil)) (gN 6) (sSeq (sSet 7 (eCall F__law_merged (aCons (eVar 5) (aCons (eVar 6) aNil))))
    (sSeq (sSet 8 (eCall F_merged (aCons (eVar 5) (aCons (eVar 6) aNil))))
    (sSeq (sIf (tNotD (tVal (eCall F__law_alike (aCons (eLst (aCons (eVar 8) (aCons (eCallK F_merged [1, 0] aNil (aCons (eVar 6) (aCons (eVar 5) aNil))) aNil))) (aCons (eLst (aCons (eVar 7) (aCons (eVar 7) aNil))) aNil))))) (sRet (eC (.bool false))) sNext)
    (sIf (tAndD (tVal (eOp (dInt2 (gCmp fun i j => decide (j < i))) (eIx (eVar 7) (eC (.int 0))) (eC (.int 1)))) (tVal (eOp dNe (eIx (eVar 7) (eC (.int 1))) (eTup aNil)))) (sSeq (sSet 9 (eCall F__law_pick (aCons (eVar 2) (aCons (eLen (eIx (eVar 7) (eC (.int 1)))) aNil))))
    (sIf (tNotD (tVal (eCall F__law_alike (aCons (eCall F_merged (aCons (eVar 8) (aCons (eVar 9) aNil))) (aCons (eCall F__law_merged (aCons (eVar 7) (aCons (eVar 9) aNil))) aNil))))) (sRet (eC (.bool false))) sNext)) sNext))))))))))
    (sRet (eC (.bool true))))
noncomputable def F_law : FnD := mkF false 10 1 G_law
end W_k28

set_option Elab.async false
set_option linter.all false
set_option maxRecDepth 100000
set_option maxHeartbeats 4000000
namespace W_k28
open PySem PySem.Spec PyProof.Rows L2 DL
theorem sc_is_integer : FnScope ["value"] ["value"] Z_is_integer := ⟨rfl, rfl, rfl, by decide +kernel, rfl, by decide +kernel, by decide +kernel⟩
theorem fn_is_integer {P : Program} {w : World} {K : PySem.W.Frag} {mg : Str → Option Value} {base : Heap} (T : TopF K mg) : FnF P w K mg base "is_integer" A_is_integer B_is_integer Z_is_integer ["value"] 1 F_is_integer := by
  obtain ⟨fd, hm, FD⟩ := T.d_is_integer.ex
  exact fn_mk (N := ["value"]) false hm FD sc_is_integer (FD.bindsN fun _ _ _ _ _ _ us hl => match us, hl with | [_], _ => rfl) fun cdv A outer s H E C =>
    (show SSs _ _ G_is_integer from (ss_one (ss_ret (ee_and (ee_isi hk_int T.b_isinstance T.b_int (by decide +kernel) (ee_var 0)) (ee_one (ee_not (ee_isi hk_bool T.b_isinstance T.b_bool (by decide +kernel) (ee_var 0))))))))
theorem sc_is_pair : FnScope ["value"] ["value"] Z_is_pair := ⟨rfl, rfl, rfl, by decide +kernel, rfl, by decide +kernel, by decide +kernel⟩
theorem fn_is_pair {P : Program} {w : World} {K : PySem.W.Frag} {mg : Str → Option Value} {base : Heap} (T : TopF K mg) : FnF P w K mg base "is_pair" A_is_pair B_is_pair Z_is_pair ["value"] 1 F_is_pair := by
  obtain ⟨fd, hm, FD⟩ := T.d_is_pair.ex
  exact fn_mk (N := ["value"]) false hm FD sc_is_pair (FD.bindsN fun _ _ _ _ _ _ us hl => match us, hl with | [_], _ => rfl) fun cdv A outer s H E C =>
    (show SSs _ _ G_is_pair from (ss_one (ss_ret (ee_and (ee_isi hk_tuple T.b_isinstance T.b_tuple (by decide +kernel) (ee_var 0)) (ee_one (ee_cmp (op_eqD C.room.units) od_eq (ee_len T.b_len (ee_var 0)) (ee_int)))))))
theorem sc_are_integers : FnScope ["value", "a"] ["value"] Z_are_integers := ⟨rfl, rfl, rfl, by decide +kernel, rfl, by decide +kernel, by decide +kernel⟩
theorem fn_are_integers {P : Program} {w : World} {K : PySem.W.Frag} {mg : Str → Option Value} {base : Heap} (T : TopF K mg) : FnF P w K mg base "are_integers" A_are_integers B_are_integers Z_are_integers ["value"] 2 F_are_integers := by
  obtain ⟨fd, hm, FD⟩ := T.d_are_integers.ex
  exact fn_mk (N := ["value", "a"]) false hm FD sc_are_integers (FD.bindsN fun _ _ _ _ _ _ us hl => match us, hl with | [_], _ => rfl) fun cdv A outer s H E C =>
    (show SSs _ _ G_are_integers from (ss_one (ss_ret (ee_and (ee_isi hk_tuple T.b_isinstance T.b_tuple (by decide +kernel) (ee_var 0)) (ee_one (ee_callB (cr_all C.calm) cd_all T.b_all (by decide +kernel) (ea_cons (ee_lc [("a", 1)] C (ei_seq (ee_var 0)) (by rfl) (fun _ _ _ _ _ => (eg_name 1 C.nd)) (fun _ _ _ _ _ C1 => ets_nil) (fun _ _ _ _ _ C1 => (ee_call (fn_is_integer T) C1 (ea_cons (ee_var 1) ea_nil)))) ea_nil)))))))
theorem sc_divided : FnScope ["row", "common", "a"] ["row"] Z_divided := ⟨rfl, rfl, rfl, by decide +kernel, rfl, by decide +kernel, by decide +kernel⟩
theorem fn_divided {P : Program} {w : World} {K : PySem.W.Frag} {mg : Str → Option Value} {base : Heap} (T : TopF K mg) : FnF P w K mg base "divided" A_divided B_divided Z_divided ["row"] 1 F_divided := by
  obtain ⟨fd, hm, FD⟩ := T.d_divided.ex
  exact fn_mk (N := ["row", "common", "a"]) false hm FD sc_divided (FD.bindsN fun _ _ _ _ _ _ us hl => match us, hl with | [_], _ => rfl) fun cdv A outer s H E C =>
    (show SSs _ _ G_divided from (ss_cons (ss_set 1 C.nd (ee_int))
    (ss_cons (ss_for C (ei_seq (ee_var 0)) (eg_name 2 C.nd) (ss_one (ss_set 1 C.nd (ee_callFun cr_gcd cd_gcd T.gcd (ea_cons (ee_var 1) (ea_cons (ee_var 2) ea_nil))))))
    (ss_one (ss_ret (ee_callTy call_tuple_of cd_tuple T.b_tuple (by decide +kernel) (ea_cons (ee_lc [("a", 2)] C (ei_seq (ee_var 0)) (by rfl) (fun _ _ _ _ _ => (eg_name 2 C.nd)) (fun _ _ _ _ _ C1 => ets_nil) (fun _ _ _ _ _ C1 => (ee_op op_fdivNW od_fdiv (ee_var 2) (ee_var 1)))) ea_nil)))))))
theorem sc_is_question : FnScope ["d", "told", "side"] ["d", "told"] Z_is_question := ⟨rfl, rfl, rfl, by decide +kernel, rfl, by decide +kernel, by decide +kernel⟩
theorem fn_is_question {P : Program} {w : World} {K : PySem.W.Frag} {mg : Str → Option Value} {base : Heap} (T : TopF K mg) : FnF P w K mg base "is_question" A_is_question B_is_question Z_is_question ["d", "told"] 3 F_is_question := by
  obtain ⟨fd, hm, FD⟩ := T.d_is_question.ex
  exact fn_mk (N := ["d", "told", "side"]) false hm FD sc_is_question (FD.bindsN fun _ _ _ _ _ _ us hl => match us, hl with | [_, _], _ => rfl) fun cdv A outer s H E C =>
    (show SSs _ _ G_is_question from (ss_cons (ss_if (ew_or (et_not (et_val (ee_call (fn_is_pair T) C (ea_cons (ee_var 1) ea_nil)))) (ew_or (et_not (et_val (ee_call (fn_are_integers T) C (ea_cons (ee_ixS (ee_var 1) (ee_int)) ea_nil)))) (ew_or1 (et_not (et_val (ee_call (fn_is_integer T) C (ea_cons (ee_ixS (ee_var 1) (ee_int)) ea_nil))))))).t (ss_one (ss_ret (ee_bl))) (ss_nil))
    (ss_one (ss_ret (ee_and (ee_cmp (op_eqD C.room.units) od_eq (ee_len T.b_len (ee_ixS (ee_var 1) (ee_int))) (ee_var 0)) (ee_one (ee_callB (cr_any C.calm) cd_any T.b_any (by decide +kernel) (ea_cons (ee_lc [("side", 2)] C (ei_seq (ee_ixS (ee_var 1) (ee_int))) (by rfl) (fun _ _ _ _ _ => (eg_name 2 C.nd)) (fun _ _ _ _ _ C1 => ets_nil) (fun _ _ _ _ _ C1 => (ee_cmp (op_neD C1.room.units) od_ne (ee_var 2) (ee_int)))) ea_nil))))))))
theorem sc_row_of_question : FnScope ["question"] ["question"] Z_row_of_question := ⟨rfl, rfl, rfl, by decide +kernel, rfl, by decide +kernel, by decide +kernel⟩
theorem fn_row_of_question {P : Program} {w : World} {K : PySem.W.Frag} {mg : Str → Option Value} {base : Heap} (T : TopF K mg) : FnF P w K mg base "row_of_question" A_row_of_question B_row_of_question Z_row_of_question ["question"] 1 F_row_of_question := by
  obtain ⟨fd, hm, FD⟩ := T.d_row_of_question.ex
  exact fn_mk (N := ["question"]) false hm FD sc_row_of_question (FD.bindsN fun _ _ _ _ _ _ us hl => match us, hl with | [_], _ => rfl) fun cdv A outer s H E C =>
    (show SSs _ _ G_row_of_question from (ss_one (ss_ret (ee_op op_addD od_add (ee_ixS (ee_var 0) (ee_int)) (ee_tup (ea_cons (ee_ixS (ee_var 0) (ee_int)) ea_nil))))))
theorem sc_question_of_row : FnScope ["row", "numbers"] ["row"] Z_question_of_row := ⟨rfl, rfl, rfl, by decide +kernel, rfl, by decide +kernel, by decide +kernel⟩
theorem fn_question_of_row {P : Program} {w : World} {K : PySem.W.Frag} {mg : Str → Option Value} {base : Heap} (T : TopF K mg) : FnF P w K mg base "question_of_row" A_question_of_row B_question_of_row Z_question_of_row ["row"] 2 F_question_of_row := by
  obtain ⟨fd, hm, FD⟩ := T.d_question_of_row.ex
  exact fn_mk (N := ["row", "numbers"]) false hm FD sc_question_of_row (FD.bindsN fun _ _ _ _ _ _ us hl => match us, hl with | [_], _ => rfl) fun cdv A outer s H E C =>
    (show SSs _ _ G_question_of_row from (ss_cons (ss_set 1 C.nd (ee_call (fn_divided T) C (ea_cons (ee_var 0) ea_nil)))
    (ss_one (ss_ret (ee_tup (ea_cons (ee_sl (ee_var 1) eo_none (eo_some (ee_un un_neg ud_neg (ee_int)))) (ea_cons (ee_ixS (ee_var 1) (ee_un un_neg ud_neg (ee_int))) ea_nil)))))))
theorem sc_ground_of : FnScope ["question", "numbers", "first", "a"] ["question"] Z_ground_of := ⟨rfl, rfl, rfl, by decide +kernel, rfl, by decide +kernel, by decide +kernel⟩
theorem fn_ground_of {P : Program} {w : World} {K : PySem.W.Frag} {mg : Str → Option Value} {base : Heap} (T : TopF K mg) : FnF P w K mg base "ground_of" A_ground_of B_ground_of Z_ground_of ["question"] 2 F_ground_of := by
  obtain ⟨fd, hm, FD⟩ := T.d_ground_of.ex
  exact fn_mk (N := ["question", "numbers", "first", "a"]) false hm FD sc_ground_of (FD.bindsN fun _ _ _ _ _ _ us hl => match us, hl with | [_], _ => rfl) fun cdv A outer s H E C =>
    (show SSs _ _ G_ground_of from (ss_cons (ss_set 1 C.nd (ee_call (fn_divided T) C (ea_cons (ee_call (fn_row_of_question T) C (ea_cons (ee_var 0) ea_nil)) ea_nil)))
    (ss_cons (ss_set 2 C.nd (ee_ixS (ee_lc [("a", 3)] C (ei_seq (ee_var 1)) (by rfl) (fun _ _ _ _ _ => (eg_name 3 C.nd)) (fun _ _ _ _ _ C1 => (ets_one (et_cmp (op_neD C1.room.units) od_ne (ee_var 3) (ee_int)))) (fun _ _ _ _ _ C1 => (ee_var 3))) (ee_int)))
    (ss_one (ss_ret (ee_if (et_cmp op_gt od_cmp (ee_var 2) (ee_int)) (ee_var 1) (ee_callTy call_tuple_of cd_tuple T.b_tuple (by decide +kernel) (ea_cons (ee_lc [("a", 3)] C (ei_seq (ee_var 1)) (by rfl) (fun _ _ _ _ _ => (eg_name 3 C.nd)) (fun _ _ _ _ _ C1 => ets_nil) (fun _ _ _ _ _ C1 => (ee_un un_neg ud_neg (ee_var 3)))) ea_nil))))))))
theorem sc_is_book : FnScope ["told", "question"] ["told"] Z_is_book := ⟨rfl, rfl, rfl, by decide +kernel, rfl, by decide +kernel, by decide +kernel⟩
theorem fn_is_book {P : Program} {w : World} {K : PySem.W.Frag} {mg : Str → Option Value} {base : Heap} (T : TopF K mg) : FnF P w K mg base "is_book" A_is_book B_is_book Z_is_book ["told"] 4 F_is_book := by
  obtain ⟨fd, hm, FD⟩ := T.d_is_book.ex
  exact fn_mk (N := ["told", "question"]) false hm FD sc_is_book (FD.bindsN fun _ _ _ _ _ _ us hl => match us, hl with | [_], _ => rfl) fun cdv A outer s H E C =>
    (show SSs _ _ G_is_book from (ss_cons (ss_if (ew_or (et_not (et_val (ee_call (fn_is_pair T) C (ea_cons (ee_var 0) ea_nil)))) (ew_or (et_not (et_val (ee_call (fn_is_integer T) C (ea_cons (ee_ixS (ee_var 0) (ee_int)) ea_nil)))) (ew_or (et_cmp op_lt od_cmp (ee_ixS (ee_var 0) (ee_int)) (ee_int)) (ew_or1 (et_not (et_val (ee_isi hk_tuple T.b_isinstance T.b_tuple (by decide +kernel) (ee_ixS (ee_var 0) (ee_int))))))))).t (ss_one (ss_ret (ee_bl))) (ss_nil))
    (ss_cons (ss_if (et_not (et_val (ee_callB (cr_all C.calm) cd_all T.b_all (by decide +kernel) (ea_cons (ee_lc [("question", 1)] C (ei_seq (ee_ixS (ee_var 0) (ee_int))) (by rfl) (fun _ _ _ _ _ => (eg_name 1 C.nd)) (fun _ _ _ _ _ C1 => ets_nil) (fun _ _ _ _ _ C1 => (ee_call (fn_is_question T) C1 (ea_cons (ee_ixS (ee_var 0) (ee_int)) (ea_cons (ee_var 1) ea_nil))))) ea_nil)))) (ss_one (ss_ret (ee_bl))) (ss_nil))
    (ss_one (ss_ret (ee_cmp (op_eqD C.room.units) od_eq (ee_len T.b_len (ee_dcM true [("question", 1)] C (ei_seq (ee_ixS (ee_var 0) (ee_int))) (by rfl) (fun _ _ _ _ _ => (eg_name 1 C.nd)) (fun _ _ _ _ _ C1 => ets_nil) (fun _ _ _ _ _ C1 => (ee_call (fn_ground_of T) C1 (ea_cons (ee_var 1) ea_nil))) (fun _ _ _ _ _ C1 => (ee_bl)))) (ee_len T.b_len (ee_ixS (ee_var 0) (ee_int)))))))))
theorem sc_check_book : FnScope ["book"] ["book"] Z_check_book := ⟨rfl, rfl, rfl, by decide +kernel, rfl, by decide +kernel, by decide +kernel⟩
theorem fn_check_book {P : Program} {w : World} {K : PySem.W.Frag} {mg : Str → Option Value} {base : Heap} (T : TopF K mg) : FnF P w K mg base "check_book" A_check_book B_check_book Z_check_book ["book"] 5 F_check_book := by
  obtain ⟨fd, hm, FD⟩ := T.d_check_book.ex
  exact fn_mk (N := ["book"]) false hm FD sc_check_book (FD.bindsN fun _ _ _ _ _ _ us hl => match us, hl with | [_], _ => rfl) fun cdv A outer s H E C =>
    (show SSs _ _ G_check_book from (ss_one (ss_if (et_not (et_val (ee_call (fn_is_book T) C (ea_cons (ee_var 0) ea_nil)))) (ss_one (ss_raise T.x_InvalidBook (initF T) C (ee_var 0))) (ss_nil))))
theorem sc_check_index : FnScope ["book", "index"] ["book", "index"] Z_check_index := ⟨rfl, rfl, rfl, by decide +kernel, rfl, by decide +kernel, by decide +kernel⟩
theorem fn_check_index {P : Program} {w : World} {K : PySem.W.Frag} {mg : Str → Option Value} {base : Heap} (T : TopF K mg) : FnF P w K mg base "check_index" A_check_index B_check_index Z_check_index ["book", "index"] 3 F_check_index := by
  obtain ⟨fd, hm, FD⟩ := T.d_check_index.ex
  exact fn_mk (N := ["book", "index"]) false hm FD sc_check_index (FD.bindsN fun _ _ _ _ _ _ us hl => match us, hl with | [_, _], _ => rfl) fun cdv A outer s H E C =>
    (show SSs _ _ G_check_index from (ss_one (ss_if (ew_or (et_not (et_val (ee_call (fn_is_integer T) C (ea_cons (ee_var 1) ea_nil)))) (ew_or1 (et_not (et_chain op_le od_cmp op_lt od_cmp (ee_int) (ee_var 1) (ee_len T.b_len (ee_ixS (ee_var 0) (ee_int))))))).t (ss_one (ss_raise T.x_InvalidIndex (initF T) C (ee_var 1))) (ss_nil))))
theorem sc_book_of_questions : FnScope ["d", "questions", "found", "grounds", "question", "ground"] ["d", "questions"] Z_book_of_questions := ⟨rfl, rfl, rfl, by decide +kernel, rfl, by decide +kernel, by decide +kernel⟩
theorem fn_book_of_questions {P : Program} {w : World} {K : PySem.W.Frag} {mg : Str → Option Value} {base : Heap} (T : TopF K mg) : FnF P w K mg base "book_of_questions" A_book_of_questions B_book_of_questions Z_book_of_questions ["d", "questions"] 3 F_book_of_questions := by
  obtain ⟨fd, hm, FD⟩ := T.d_book_of_questions.ex
  exact fn_mk (N := ["d", "questions", "found", "grounds", "question", "ground"]) false hm FD sc_book_of_questions (FD.bindsN fun _ _ _ _ _ _ us hl => match us, hl with | [_, _], _ => rfl) fun cdv A outer s H E C =>
    (show SSs _ _ G_book_of_questions from (ss_cons (ss_par 2 3 C.calm C.nd (ea_cons (ee_lstM ea_nil) (ea_cons (ee_dnewT) ea_nil)))
    (ss_cons (ss_for C (ei_seq (ee_var 1)) (eg_name 4 C.nd) (ss_cons (ss_set 5 C.nd (ee_call (fn_ground_of T) C (ea_cons (ee_var 4) ea_nil)))
    (ss_one (ss_if (et_dnotin (units1 C.room) (ee_var 5) (ee_var 3)) (ss_cons (ss_dput (units1 C.room) (ee_bl) (ee_var 3) (ee_var 5))
    (ss_one (ss_expr (ee_lm PySem.F.slot_list_append PySem.F.type_list_append mt_append lm_append (ee_var 2) (ea_cons (ee_call (fn_question_of_row T) C (ea_cons (ee_call (fn_row_of_question T) C (ea_cons (ee_var 4) ea_nil)) ea_nil)) ea_nil))))) (ss_nil)))))
    (ss_one (ss_ret (ee_tup (ea_cons (ee_var 0) (ea_cons (ee_callTy call_tuple_of cd_tuple T.b_tuple (by decide +kernel) (ea_cons (ee_var 2) ea_nil)) ea_nil))))))))
theorem sc_taken_out : FnScope ["question", "other", "place", "sides", "wall", "numbers", "far", "by", "less", "row", "a", "b"] ["question", "other", "place"] Z_taken_out := ⟨rfl, rfl, rfl, by decide +kernel, rfl, by decide +kernel, by decide +kernel⟩
theorem fn_taken_out {P : Program} {w : World} {K : PySem.W.Frag} {mg : Str → Option Value} {base : Heap} (T : TopF K mg) : FnF P w K mg base "taken_out" A_taken_out B_taken_out Z_taken_out ["question", "other", "place"] 1 F_taken_out := by
  obtain ⟨fd, hm, FD⟩ := T.d_taken_out.ex
  exact fn_mk (N := ["question", "other", "place", "sides", "wall", "numbers", "far", "by", "less", "row", "a", "b"]) false hm FD sc_taken_out (FD.bindsN fun _ _ _ _ _ _ us hl => match us, hl with | [_, _, _], _ => rfl) fun cdv A outer s H E C =>
    (show SSs _ _ G_taken_out from (ss_cons (ss_asg (ee_var 0) (eg_tup C.calm (egs_cons (eg_name 3 C.nd) (egs_cons (eg_name 4 C.nd) egs_nil)) (gsCons_len (gsCons_len gsNil_len (gN_ok _)) (gN_ok _))))
    (ss_cons (ss_asg (ee_var 1) (eg_tup C.calm (egs_cons (eg_name 5 C.nd) (egs_cons (eg_name 6 C.nd) egs_nil)) (gsCons_len (gsCons_len gsNil_len (gN_ok _)) (gN_ok _))))
    (ss_cons (ss_set 7 C.nd (ee_callB call_abs cd_abs T.b_abs (by decide +kernel) (ea_cons (ee_ixS (ee_var 3) (ee_var 2)) ea_nil)))
    (ss_cons (ss_set 8 C.nd (ee_if (et_cmp op_gt od_cmp (ee_ixS (ee_var 3) (ee_var 2)) (ee_int)) (ee_ixS (ee_var 5) (ee_var 2)) (ee_un un_neg ud_neg (ee_ixS (ee_var 5) (ee_var 2)))))
    (ss_cons (ss_lc 9 [("a", 10), ("b", 11)] C (ei_zip T.b_zip (ea_cons (ee_var 3) (ea_cons (ee_var 5) ea_nil))) (by rfl) (fun _ _ _ _ _ => (eg_tup C.calm (egs_cons (eg_name 10 C.nd) (egs_cons (eg_name 11 C.nd) egs_nil)) (gsCons_len (gsCons_len gsNil_len (gN_ok _)) (gN_ok _)))) (fun _ _ _ _ _ C1 => ets_nil) (fun _ _ _ _ _ C1 => (ee_op op_sub od_sub (ee_op op_mulD od_mul (ee_var 7) (ee_var 11)) (ee_op op_mulD od_mul (ee_var 8) (ee_var 10)))))
    (ss_one (ss_ret (ee_tup (ea_cons (ee_callTy call_tuple_of cd_tuple T.b_tuple (by decide +kernel) (ea_cons (ee_op op_addD od_add (ee_sl (ee_var 9) eo_none (eo_some (ee_var 2))) (ee_sl (ee_var 9) (eo_some (ee_op op_addD od_add (ee_var 2) (ee_int))) eo_none)) ea_nil)) (ea_cons (ee_op op_sub od_sub (ee_op op_mulD od_mul (ee_var 7) (ee_var 6)) (ee_op op_mulD od_mul (ee_var 8) (ee_var 4))) ea_nil)))))))))))
theorem sc_merged_of : FnScope ["book", "index", "d", "questions", "question", "place", "found", "at", "side", "other"] ["book", "index"] Z_merged_of := ⟨rfl, rfl, rfl, by decide +kernel, rfl, by decide +kernel, by decide +kernel⟩
theorem fn_merged_of {P : Program} {w : World} {K : PySem.W.Frag} {mg : Str → Option Value} {base : Heap} (T : TopF K mg) : FnF P w K mg base "merged_of" A_merged_of B_merged_of Z_merged_of ["book", "index"] 4 F_merged_of := by
  obtain ⟨fd, hm, FD⟩ := T.d_merged_of.ex
  exact fn_mk (N := ["book", "index", "d", "questions", "question", "place", "found", "at", "side", "other"]) false hm FD sc_merged_of (FD.bindsN fun _ _ _ _ _ _ us hl => match us, hl with | [_, _], _ => rfl) fun cdv A outer s H E C =>
    (show SSs _ _ G_merged_of from (ss_cons (ss_asg (ee_var 0) (eg_tup C.calm (egs_cons (eg_name 2 C.nd) (egs_cons (eg_name 3 C.nd) egs_nil)) (gsCons_len (gsCons_len gsNil_len (gN_ok _)) (gN_ok _))))
    (ss_cons (ss_set 4 C.nd (ee_ixS (ee_var 3) (ee_var 1)))
    (ss_cons (ss_set 5 C.nd (ee_ixS (ee_lc [("at", 7), ("side", 8)] C (ei_enumG T.b_enumerate (ea_cons (ee_ixS (ee_var 4) (ee_int)) ea_nil)) (by rfl) (fun _ _ _ _ _ => (eg_tup C.calm (egs_cons (eg_name 7 C.nd) (egs_cons (eg_name 8 C.nd) egs_nil)) (gsCons_len (gsCons_len gsNil_len (gN_ok _)) (gN_ok _)))) (fun _ _ _ _ _ C1 => (ets_one (et_cmp (op_neD C1.room.units) od_ne (ee_var 8) (ee_int)))) (fun _ _ _ _ _ C1 => (ee_var 7))) (ee_un un_neg ud_neg (ee_int))))
    (ss_cons (ss_lc 6 [("other", 9)] C (ei_seq (ee_op op_addD od_add (ee_sl (ee_var 3) eo_none (eo_some (ee_var 1))) (ee_sl (ee_var 3) (eo_some (ee_op op_addD od_add (ee_var 1) (ee_int))) eo_none))) (by rfl) (fun _ _ _ _ _ => (eg_name 9 C.nd)) (fun _ _ _ _ _ C1 => ets_nil) (fun _ _ _ _ _ C1 => (ee_call (fn_taken_out T) C1 (ea_cons (ee_var 4) (ea_cons (ee_var 9) (ea_cons (ee_var 5) ea_nil))))))
    (ss_one (ss_ret (ee_call (fn_book_of_questions T) C (ea_cons (ee_op op_sub od_sub (ee_var 2) (ee_int)) (ea_cons (ee_lc [("other", 9)] C (ei_seq (ee_var 6)) (by rfl) (fun _ _ _ _ _ => (eg_name 9 C.nd)) (fun _ _ _ _ _ C1 => (ets_one (et_val (ee_callB (cr_any C1.calm) cd_any T.b_any (by decide +kernel) (ea_cons (ee_lc [("side", 8)] C1 (ei_seq (ee_ixS (ee_var 9) (ee_int))) (by rfl) (fun _ _ _ _ _ => (eg_name 8 C1.nd)) (fun _ _ _ _ _ C2 => ets_nil) (fun _ _ _ _ _ C2 => (ee_cmp (op_neD C2.room.units) od_ne (ee_var 8) (ee_int)))) ea_nil))))) (fun _ _ _ _ _ C1 => (ee_var 9))) ea_nil))))))))))
theorem sc_merged : FnScope ["book", "index"] ["book", "index"] Z_merged := ⟨rfl, rfl, rfl, by decide +kernel, rfl, by decide +kernel, by decide +kernel⟩
theorem fn_merged {P : Program} {w : World} {K : PySem.W.Frag} {mg : Str → Option Value} {base : Heap} (T : TopF K mg) : FnF P w K mg base "merged" A_merged B_merged Z_merged ["book", "index"] 6 F_merged := by
  obtain ⟨fd, hm, FD⟩ := T.d_merged.ex
  exact fn_mk (N := ["book", "index"]) false hm FD sc_merged (FD.bindsN fun _ _ _ _ _ _ us hl => match us, hl with | [_, _], _ => rfl) fun cdv A outer s H E C =>
    (show SSs _ _ G_merged from (ss_cons (ss_expr (ee_call (fn_check_book T) C (ea_cons (ee_var 0) ea_nil)))
    (ss_cons (ss_if (et_cmp (op_eqD C.room.units) od_eq (ee_ixS (ee_var 0) (ee_int)) (ee_int)) (ss_one (ss_raise T.x_InvalidBook (initF T) C (ee_var 0))) (ss_nil))
    (ss_cons (ss_expr (ee_call (fn_check_index T) C (ea_cons (ee_var 0) (ea_cons (ee_var 1) ea_nil))))
    (ss_one (ss_ret (ee_call (fn_merged_of T) C (ea_cons (ee_var 0) (ea_cons (ee_var 1) ea_nil)))))))))
theorem sc__law_stock : FnScope ["_law_script", "_law_spot", "_law_cell", "_law_figures"] ["_law_script", "_law_spot"] Z__law_stock := ⟨rfl, rfl, rfl, by decide +kernel, rfl, by decide +kernel, by decide +kernel⟩
theorem fn__law_stock {P : Program} {w : World} {K : PySem.W.Frag} {mg : Str → Option Value} {base : Heap} (T : TopF K mg) : FnF P w K mg base "_law_stock" A__law_stock B__law_stock Z__law_stock ["_law_script", "_law_spot"] 1 F__law_stock := by
  obtain ⟨fd, hm, FD⟩ := T.d__law_stock.ex
  exact fn_mk (N := ["_law_script", "_law_spot", "_law_cell", "_law_figures"]) true hm FD sc__law_stock (FD.bindsN fun _ _ _ _ _ _ us hl => match us, hl with | [_, _], _ => rfl) fun cdv A outer s H E C =>
    (show SSs _ _ G__law_stock from (ss_cons (ss_set 2 C.nd (ee_if (et_cmp op_lt od_cmp (ee_var 1) (ee_len T.b_len (ee_var 0))) (ee_ixS (ee_var 0) (ee_var 1)) (ee_op op_addD od_add (ee_op op_addD od_add (ee_op op_mulD od_mul (ee_int) (ee_var 1)) (ee_op op_mulD od_mul (ee_int) (ee_len T.b_len (ee_var 0)))) (ee_int))))
    (ss_cons (ss_set 3 C.nd (ee_if (et_cmp op_ge od_cmp (ee_var 2) (ee_op op_powW od_pow (ee_int) (ee_int))) (ee_op op_sub od_sub (ee_var 2) (ee_op op_powW od_pow (ee_int) (ee_int))) (ee_int)))
    (ss_one (ss_ret (ee_lstM (ea_cons (ee_var 3) (ea_cons (ee_op op_modN od_mod (ee_callTy call_int1 cd_int T.b_int (by decide +kernel) (ea_cons (ee_op op_addD od_add (ee_op op_addD od_add (ee_op op_mulD od_mul (ee_var 2) (ee_int)) (ee_op op_mulD od_mul (ee_var 1) (ee_int))) (ee_int)) ea_nil)) (ee_op op_addD od_add (ee_op op_powW od_pow (ee_int) (ee_int)) (ee_int))) (ea_cons (ee_int) ea_nil)))))))))
theorem sc__law_pick : FnScope ["_law_stock_here", "_law_many", "_law_figure", "_law_mixed"] ["_law_stock_here", "_law_many"] Z__law_pick := ⟨rfl, rfl, rfl, by decide +kernel, rfl, by decide +kernel, by decide +kernel⟩
theorem fn__law_pick {P : Program} {w : World} {K : PySem.W.Frag} {mg : Str → Option Value} {base : Heap} (T : TopF K mg) : FnF P w K mg base "_law_pick" A__law_pick B__law_pick Z__law_pick ["_law_stock_here", "_law_many"] 1 F__law_pick := by
  obtain ⟨fd, hm, FD⟩ := T.d__law_pick.ex
  exact fn_mk (N := ["_law_stock_here", "_law_many", "_law_figure", "_law_mixed"]) false hm FD sc__law_pick (FD.bindsN fun _ _ _ _ _ _ us hl => match us, hl with | [_, _], _ => rfl) fun cdv A outer s H E C =>
    (show SSs _ _ G__law_pick from (ss_cons (ss_if (et_cmp op_gt od_cmp (ee_ixS (ee_var 0) (ee_int)) (ee_int)) (ss_cons (ss_set 2 C.nd (ee_op op_modN od_mod (ee_callTy call_int1 cd_int T.b_int (by decide +kernel) (ea_cons (ee_ixS (ee_var 0) (ee_int)) ea_nil)) (ee_var 1)))
    (ss_cons (ss_sub (ee_op op_fdivNW od_fdiv (ee_ixS (ee_var 0) (ee_int)) (ee_var 1)) (ee_var 0) (ee_int))
    (ss_one (ss_ret (ee_var 2))))) (ss_nil))
    (ss_cons (ss_sub (ee_op op_addD od_add (ee_ixS (ee_var 0) (ee_int)) (ee_int)) (ee_var 0) (ee_int))
    (ss_cons (ss_set 3 C.nd (ee_op op_modN od_mod (ee_op op_powW od_pow (ee_callTy call_int1 cd_int T.b_int (by decide +kernel) (ea_cons (ee_op op_addD od_add (ee_ixS (ee_var 0) (ee_int)) (ee_op op_mulD od_mul (ee_int) (ee_ixS (ee_var 0) (ee_int)))) ea_nil)) (ee_int)) (ee_op op_addD od_add (ee_op op_powW od_pow (ee_int) (ee_int)) (ee_int))))
    (ss_cons (ss_set 3 C.nd (ee_op op_modN od_mod (ee_op op_powW od_pow (ee_callTy call_int1 cd_int T.b_int (by decide +kernel) (ea_cons (ee_op op_addD od_add (ee_var 3) (ee_op op_mulD od_mul (ee_op op_mulD od_mul (ee_int) (ee_ixS (ee_var 0) (ee_int))) (ee_ixS (ee_var 0) (ee_int)))) ea_nil)) (ee_int)) (ee_op op_addD od_add (ee_op op_powW od_pow (ee_int) (ee_int)) (ee_int))))
    (ss_one (ss_ret (ee_op op_modN od_mod (ee_callTy call_int1 cd_int T.b_int (by decide +kernel) (ea_cons (ee_op op_fdivNW od_fdiv (ee_var 3) (ee_int)) ea_nil)) (ee_var 1)))))))))
theorem sc__law_alike : FnScope ["_law_thing", "_law_due", "_law_one", "_law_other"] ["_law_thing", "_law_due"] Z__law_alike := ⟨rfl, rfl, rfl, by decide +kernel, rfl, by decide +kernel, by decide +kernel⟩
theorem fR__law_alike {P : Program} {w : World} {K : PySem.W.Frag} {mg : Str → Option Value} {base : Heap} (T : TopF K mg) : ∀ k, FnF P w K mg base "_law_alike" A__law_alike B__law_alike Z__law_alike ["_law_thing", "_law_due"] (1 + k) (R__law_alike k)
  | 0 => by
    obtain ⟨fd, hm, FD⟩ := T.d__law_alike.ex
    exact fn_no (k := 0) hm FD sc__law_alike (FD.bindsN fun _ _ _ _ _ _ us hl => match us, hl with | [_, _], _ => rfl)
  | k + 1 => by
    have Sf := fR__law_alike (P := P) (w := w) (base := base) T k
    obtain ⟨fd, hm, FD⟩ := T.d__law_alike.ex
    exact fn_mk (N := ["_law_thing", "_law_due", "_law_one", "_law_other"]) (k := 1 + k) false hm FD sc__law_alike (FD.bindsN fun _ _ _ _ _ _ us hl => match us, hl with | [_, _], _ => rfl) fun cdv A outer s H E C =>
    (show SSs _ _ (G__law_alike (R__law_alike k)) from (ss_cons (ss_if (et_isN (ee_var 1)) (ss_one (ss_ret (ee_isN (ee_var 0)))) (ss_nil))
    (ss_cons (ss_if (et_val (ee_isi hk_bool T.b_isinstance T.b_bool (by decide +kernel) (ee_var 1))) (ss_one (ss_ret (ee_and (ee_isi hk_bool T.b_isinstance T.b_bool (by decide +kernel) (ee_var 0)) (ee_one (ee_cmp (op_eqD C.room.units) od_eq (ee_var 0) (ee_var 1)))))) (ss_nil))
    (ss_cons (ss_if (et_val (ee_isi hk_int T.b_isinstance T.b_int (by decide +kernel) (ee_var 1))) (ss_one (ss_ret (ee_and (ee_isi hk_int T.b_isinstance T.b_int (by decide +kernel) (ee_var 0)) (ee_and (ee_not (ee_isi hk_bool T.b_isinstance T.b_bool (by decide +kernel) (ee_var 0))) (ee_one (ee_cmp (op_eqD C.room.units) od_eq (ee_var 0) (ee_var 1))))))) (ss_nil))
    (ss_cons (ss_if (et_val (ee_isi hk_str T.b_isinstance T.b_str (by decide +kernel) (ee_var 1))) (ss_one (ss_ret (ee_and (ee_isi hk_str T.b_isinstance T.b_str (by decide +kernel) (ee_var 0)) (ee_one (ee_cmp (op_eqD C.room.units) od_eq (ee_var 0) (ee_var 1)))))) (ss_nil))
    (ss_cons (ss_if (ew_or (ew_and (et_val (ee_isi hk_tuple T.b_isinstance T.b_tuple (by decide +kernel) (ee_var 1))) (ew_and1 (et_not (et_val (ee_isi hk_tuple T.b_isinstance T.b_tuple (by decide +kernel) (ee_var 0)))))).t (ew_or1 (ew_and (et_val (ee_isi hk_list T.b_isinstance T.b_list (by decide +kernel) (ee_var 1))) (ew_and1 (et_not (et_val (ee_isi hk_list T.b_isinstance T.b_list (by decide +kernel) (ee_var 0)))))).t)).t (ss_one (ss_ret (ee_bl))) (ss_nil))
    (ss_one (ss_ret (ee_and (ee_cmp (op_eqD C.room.units) od_eq (ee_len T.b_len (ee_var 0)) (ee_len T.b_len (ee_var 1))) (ee_one (ee_callB (cr_all C.calm) cd_all T.b_all (by decide +kernel) (ea_cons (ee_lc [("_law_one", 2), ("_law_other", 3)] C (ei_zip T.b_zip (ea_cons (ee_var 0) (ea_cons (ee_var 1) ea_nil))) (by rfl) (fun _ _ _ _ _ => (eg_tup C.calm (egs_cons (eg_name 2 C.nd) (egs_cons (eg_name 3 C.nd) egs_nil)) (gsCons_len (gsCons_len gsNil_len (gN_ok _)) (gN_ok _)))) (fun _ _ _ _ _ C1 => ets_nil) (fun _ _ _ _ _ C1 => (ee_call (Sf) C1 (ea_cons (ee_var 2) (ea_cons (ee_var 3) ea_nil)) (hk := by omega)))) ea_nil))))))))))))
theorem fn__law_alike {P : Program} {w : World} {K : PySem.W.Frag} {mg : Str → Option Value} {base : Heap} (T : TopF K mg) : FnF P w K mg base "_law_alike" A__law_alike B__law_alike Z__law_alike ["_law_thing", "_law_due"] 13 F__law_alike := fR__law_alike T 12
theorem sc__law_clear : FnScope ["_law_rows", "_law_many", "_law_found", "_law_at", "_law_first", "_law_own", "_law_rest", "_law_row", "_law_place", "_law_k"] ["_law_rows", "_law_many"] Z__law_clear := ⟨rfl, rfl, rfl, by decide +kernel, rfl, by decide +kernel, by decide +kernel⟩
theorem fn__law_clear {P : Program} {w : World} {K : PySem.W.Frag} {mg : Str → Option Value} {base : Heap} (T : TopF K mg) : FnF P w K mg base "_law_clear" A__law_clear B__law_clear Z__law_clear ["_law_rows", "_law_many"] 1 F__law_clear := by
  obtain ⟨fd, hm, FD⟩ := T.d__law_clear.ex
  exact fn_mk (N := ["_law_rows", "_law_many", "_law_found", "_law_at", "_law_first", "_law_own", "_law_rest", "_law_row", "_law_place", "_law_k"]) false hm FD sc__law_clear (FD.bindsN fun _ _ _ _ _ _ us hl => match us, hl with | [_, _], _ => rfl) fun cdv A outer s H E C =>
    (show SSs _ _ G__law_clear from (ss_cons (ss_par 0 2 C.calm C.nd (ea_cons (ee_lcM [("_law_row", 7)] C (ei_seq (ee_var 0)) (by rfl) (fun _ _ _ _ _ => (eg_name 7 C.nd)) (fun _ _ _ _ _ C1 => ets_nil) (fun _ _ _ _ _ C1 => (ee_callTy call_list_of cd_list T.b_list (by decide +kernel) (ea_cons (ee_var 7) ea_nil)))) (ea_cons (ee_lstM ea_nil) ea_nil)))
    (ss_cons (ss_for C (ei_range1 T.b_range (ea_cons (ee_var 1) ea_nil)) (eg_name 3 C.nd) (ss_cons (ss_lc 4 [("_law_place", 8), ("_law_row", 7)] C (ei_enumG T.b_enumerate (ea_cons (ee_var 0) ea_nil)) (by rfl) (fun _ _ _ _ _ => (eg_tup C.calm (egs_cons (eg_name 8 C.nd) (egs_cons (eg_name 7 C.nd) egs_nil)) (gsCons_len (gsCons_len gsNil_len (gN_ok _)) (gN_ok _)))) (fun _ _ _ _ _ C1 => (ets_one (et_cmp (op_neD C1.room.units) od_ne (ee_ixS (ee_var 7) (ee_var 3)) (ee_int)))) (fun _ _ _ _ _ C1 => (ee_var 8)))
    (ss_one (ss_if (et_cmp (op_neD C.room.units) od_ne (ee_var 4) (ee_lst ea_nil)) (ss_cons (ss_parT C.calm (ea_cons (ee_ixS (ee_var 0) (ee_ixS (ee_var 4) (ee_int))) (ea_cons (ee_op op_addD od_add (ee_sl (ee_var 0) eo_none (eo_some (ee_ixS (ee_var 4) (ee_int)))) (ee_sl (ee_var 0) (eo_some (ee_op op_addD od_add (ee_ixS (ee_var 4) (ee_int)) (ee_int))) eo_none)) ea_nil)) (ng_cons 5 C.nd (ng_cons 6 C.nd ng_nil)))
    (ss_cons (ss_set 0 C.nd (ee_lstM ea_nil))
    (ss_cons (ss_for C (ei_seq (ee_var 6)) (eg_name 7 C.nd) (ss_one (ss_expr (ee_lm PySem.F.slot_list_append PySem.F.type_list_append mt_append lm_append (ee_var 0) (ea_cons (ee_lc [("_law_k", 9)] C (ei_range1 T.b_range (ea_cons (ee_len T.b_len (ee_var 7)) ea_nil)) (by rfl) (fun _ _ _ _ _ => (eg_name 9 C.nd)) (fun _ _ _ _ _ C1 => ets_nil) (fun _ _ _ _ _ C1 => (ee_op op_sub od_sub (ee_op op_mulD od_mul (ee_ixS (ee_var 7) (ee_var 9)) (ee_ixS (ee_var 5) (ee_var 3))) (ee_op op_mulD od_mul (ee_ixS (ee_var 5) (ee_var 9)) (ee_ixS (ee_var 7) (ee_var 3)))))) ea_nil)))))
    (ss_one (ss_expr (ee_lm PySem.F.slot_list_append PySem.F.type_list_append mt_append lm_append (ee_var 2) (ea_cons (ee_var 5) ea_nil))))))) (ss_nil)))))
    (ss_one (ss_ret (ee_tupM (ea_cons (ee_var 2) (ea_cons (ee_var 0) ea_nil))))))))
theorem sc__law_rank : FnScope ["_law_rows", "_law_many"] ["_law_rows", "_law_many"] Z__law_rank := ⟨rfl, rfl, rfl, by decide +kernel, rfl, by decide +kernel, by decide +kernel⟩
theorem fn__law_rank {P : Program} {w : World} {K : PySem.W.Frag} {mg : Str → Option Value} {base : Heap} (T : TopF K mg) : FnF P w K mg base "_law_rank" A__law_rank B__law_rank Z__law_rank ["_law_rows", "_law_many"] 2 F__law_rank := by
  obtain ⟨fd, hm, FD⟩ := T.d__law_rank.ex
  exact fn_mk (N := ["_law_rows", "_law_many"]) false hm FD sc__law_rank (FD.bindsN fun _ _ _ _ _ _ us hl => match us, hl with | [_, _], _ => rfl) fun cdv A outer s H E C =>
    (show SSs _ _ G__law_rank from (ss_one (ss_ret (ee_len T.b_len (ee_ixS (ee_call (fn__law_clear T) C (ea_cons (ee_var 0) (ea_cons (ee_var 1) ea_nil))) (ee_int))))))
theorem sc__law_all : FnScope ["_law_book_here", "_law_some", "_law_at"] ["_law_book_here", "_law_some"] Z__law_all := ⟨rfl, rfl, rfl, by decide +kernel, rfl, by decide +kernel, by decide +kernel⟩
theorem fn__law_all {P : Program} {w : World} {K : PySem.W.Frag} {mg : Str → Option Value} {base : Heap} (T : TopF K mg) : FnF P w K mg base "_law_all" A__law_all B__law_all Z__law_all ["_law_book_here", "_law_some"] 1 F__law_all := by
  obtain ⟨fd, hm, FD⟩ := T.d__law_all.ex
  exact fn_mk (N := ["_law_book_here", "_law_some", "_law_at"]) true hm FD sc__law_all (FD.bindsN fun _ _ _ _ _ _ us hl => match us, hl with | [_, _], _ => rfl) fun cdv A outer s H E C =>
    (show SSs _ _ G__law_all from (ss_one (ss_ret (ee_lcM [("_law_at", 2)] C (ei_seq (ee_var 1)) (by rfl) (fun _ _ _ _ _ => (eg_name 2 C.nd)) (fun _ _ _ _ _ C1 => ets_nil) (fun _ _ _ _ _ C1 => (ee_op op_addD od_add (ee_ixS (ee_ixS (ee_ixS (ee_var 0) (ee_int)) (ee_var 2)) (ee_int)) (ee_tup (ea_cons (ee_ixS (ee_ixS (ee_ixS (ee_var 0) (ee_int)) (ee_var 2)) (ee_int)) ea_nil))))))))
theorem sc__law_closure : FnScope ["_law_book_here", "_law_some", "_law_d", "_law_rows", "_law_far", "_law_at"] ["_law_book_here", "_law_some"] Z__law_closure := ⟨rfl, rfl, rfl, by decide +kernel, rfl, by decide +kernel, by decide +kernel⟩
theorem fn__law_closure {P : Program} {w : World} {K : PySem.W.Frag} {mg : Str → Option Value} {base : Heap} (T : TopF K mg) : FnF P w K mg base "_law_closure" A__law_closure B__law_closure Z__law_closure ["_law_book_here", "_law_some"] 3 F__law_closure := by
  obtain ⟨fd, hm, FD⟩ := T.d__law_closure.ex
  exact fn_mk (N := ["_law_book_here", "_law_some", "_law_d", "_law_rows", "_law_far", "_law_at"]) false hm FD sc__law_closure (FD.bindsN fun _ _ _ _ _ _ us hl => match us, hl with | [_, _], _ => rfl) fun cdv A outer s H E C =>
    (show SSs _ _ G__law_closure from (ss_cons (ss_parT C.calm (ea_cons (ee_ixS (ee_var 0) (ee_int)) (ea_cons (ee_call (fn__law_all T) C (ea_cons (ee_var 0) (ea_cons (ee_var 1) ea_nil))) ea_nil)) (ng_cons 2 C.nd (ng_cons 3 C.nd ng_nil)))
    (ss_cons (ss_set 4 C.nd (ee_call (fn__law_rank T) C (ea_cons (ee_var 3) (ea_cons (ee_var 2) ea_nil))))
    (ss_cons (ss_if (et_cmp op_gt od_cmp (ee_call (fn__law_rank T) C (ea_cons (ee_var 3) (ea_cons (ee_op op_addD od_add (ee_var 2) (ee_int)) ea_nil))) (ee_var 4)) (ss_one (ss_ret (ee_non))) (ss_nil))
    (ss_one (ss_ret (ee_callTy call_tuple_of cd_tuple T.b_tuple (by decide +kernel) (ea_cons (ee_lc [("_law_at", 5)] C (ei_range1 T.b_range (ea_cons (ee_len T.b_len (ee_ixS (ee_var 0) (ee_int))) ea_nil)) (by rfl) (fun _ _ _ _ _ => (eg_name 5 C.nd)) (fun _ _ _ _ _ C1 => (ets_one (et_cmp (op_eqD C1.room.units) od_eq (ee_call (fn__law_rank T) C1 (ea_cons (ee_opM op_cat odm_add (ee_var 3) (ee_call (fn__law_all T) C1 (ea_cons (ee_var 0) (ea_cons (ee_lst (ea_cons (ee_var 5) ea_nil)) ea_nil)))) (ea_cons (ee_op op_addD od_add (ee_var 2) (ee_int)) ea_nil))) (ee_var 4)))) (fun _ _ _ _ _ C1 => (ee_var 5))) ea_nil))))))))
theorem sc__law_question : FnScope ["_law_stock_here", "_law_d", "_law_most", "_law_sides", "_law_k"] ["_law_stock_here", "_law_d", "_law_most"] Z__law_question := ⟨rfl, rfl, rfl, by decide +kernel, rfl, by decide +kernel, by decide +kernel⟩
theorem fn__law_question {P : Program} {w : World} {K : PySem.W.Frag} {mg : Str → Option Value} {base : Heap} (T : TopF K mg) : FnF P w K mg base "_law_question" A__law_question B__law_question Z__law_question ["_law_stock_here", "_law_d", "_law_most"] 2 F__law_question := by
  obtain ⟨fd, hm, FD⟩ := T.d__law_question.ex
  exact fn_mk (N := ["_law_stock_here", "_law_d", "_law_most", "_law_sides", "_law_k"]) false hm FD sc__law_question (FD.bindsN fun _ _ _ _ _ _ us hl => match us, hl with | [_, _, _], _ => rfl) fun cdv A outer s H E C =>
    (show SSs _ _ G__law_question from (ss_cons (ss_lcM 3 [("_law_k", 4)] C (ei_range1 T.b_range (ea_cons (ee_var 1) ea_nil)) (by rfl) (fun _ _ _ _ _ => (eg_name 4 C.nd)) (fun _ _ _ _ _ C1 => ets_nil) (fun _ _ _ _ _ C1 => (ee_op op_sub od_sub (ee_call (fn__law_pick T) C1 (ea_cons (ee_var 0) (ea_cons (ee_op op_addD od_add (ee_op op_mulD od_mul (ee_int) (ee_var 2)) (ee_int)) ea_nil))) (ee_var 2))))
    (ss_cons (ss_if (et_cmp (op_eqD C.room.units) od_eq (ee_call (fn__law_pick T) C (ea_cons (ee_var 0) (ea_cons (ee_int) ea_nil))) (ee_int)) (ss_one (ss_set 3 C.nd (ee_opM op_rep odm_mul (ee_lst (ea_cons (ee_int) ea_nil)) (ee_var 1)))) (ss_nil))
    (ss_cons (ss_if (et_cmp (op_eqD C.room.units) od_eq (ee_var 3) (ee_op op_mulD od_mul (ee_lst (ea_cons (ee_int) ea_nil)) (ee_var 1))) (ss_one (ss_sub (ee_op op_addD od_add (ee_int) (ee_call (fn__law_pick T) C (ea_cons (ee_var 0) (ea_cons (ee_var 2) ea_nil)))) (ee_var 3) (ee_call (fn__law_pick T) C (ea_cons (ee_var 0) (ea_cons (ee_var 1) ea_nil))))) (ss_nil))
    (ss_one (ss_ret (ee_tup (ea_cons (ee_callTy call_tuple_of cd_tuple T.b_tuple (by decide +kernel) (ea_cons (ee_var 3) ea_nil)) (ea_cons (ee_if (et_cmp op_gt od_cmp (ee_call (fn__law_pick T) C (ea_cons (ee_var 0) (ea_cons (ee_int) ea_nil))) (ee_int)) (ee_op op_sub od_sub (ee_call (fn__law_pick T) C (ea_cons (ee_var 0) (ea_cons (ee_op op_addD od_add (ee_op op_mulD od_mul (ee_int) (ee_var 2)) (ee_int)) ea_nil))) (ee_var 2)) (ee_int)) ea_nil)))))))))
theorem sc__law_is_new : FnScope ["_law_questions", "_law_question_here", "_law_d", "_law_row", "_law_sides", "_law_shut"] ["_law_questions", "_law_question_here", "_law_d"] Z__law_is_new := ⟨rfl, rfl, rfl, by decide +kernel, rfl, by decide +kernel, by decide +kernel⟩
theorem fn__law_is_new {P : Program} {w : World} {K : PySem.W.Frag} {mg : Str → Option Value} {base : Heap} (T : TopF K mg) : FnF P w K mg base "_law_is_new" A__law_is_new B__law_is_new Z__law_is_new ["_law_questions", "_law_question_here", "_law_d"] 3 F__law_is_new := by
  obtain ⟨fd, hm, FD⟩ := T.d__law_is_new.ex
  exact fn_mk (N := ["_law_questions", "_law_question_here", "_law_d", "_law_row", "_law_sides", "_law_shut"]) false hm FD sc__law_is_new (FD.bindsN fun _ _ _ _ _ _ us hl => match us, hl with | [_, _, _], _ => rfl) fun cdv A outer s H E C =>
    (show SSs _ _ G__law_is_new from (ss_cons (ss_set 3 C.nd (ee_op op_addD od_add (ee_ixS (ee_var 1) (ee_int)) (ee_tup (ea_cons (ee_ixS (ee_var 1) (ee_int)) ea_nil))))
    (ss_cons (ss_for C (ei_seq (ee_var 0)) (eg_tup C.calm (egs_cons (eg_name 4 C.nd) (egs_cons (eg_name 5 C.nd) egs_nil)) (gsCons_len (gsCons_len gsNil_len (gN_ok _)) (gN_ok _))) (ss_one (ss_if (et_cmp op_lt od_cmp (ee_call (fn__law_rank T) C (ea_cons (ee_lstM (ea_cons (ee_op op_addD od_add (ee_var 4) (ee_tup (ea_cons (ee_var 5) ea_nil))) (ea_cons (ee_var 3) ea_nil))) (ea_cons (ee_op op_addD od_add (ee_var 2) (ee_int)) ea_nil))) (ee_int)) (ss_one (ss_ret (ee_bl))) (ss_nil))))
    (ss_one (ss_ret (ee_bl))))))
theorem sc__law_web : FnScope ["_law_stock_here", "_law_many", "_law_ties", "_law_found", "_law_i", "_law_j", "_law_turn", "_law_k"] ["_law_stock_here", "_law_many"] Z__law_web := ⟨rfl, rfl, rfl, by decide +kernel, rfl, by decide +kernel, by decide +kernel⟩
theorem fn__law_web {P : Program} {w : World} {K : PySem.W.Frag} {mg : Str → Option Value} {base : Heap} (T : TopF K mg) : FnF P w K mg base "_law_web" A__law_web B__law_web Z__law_web ["_law_stock_here", "_law_many"] 2 F__law_web := by
  obtain ⟨fd, hm, FD⟩ := T.d__law_web.ex
  exact fn_mk (N := ["_law_stock_here", "_law_many", "_law_ties", "_law_found", "_law_i", "_law_j", "_law_turn", "_law_k"]) false hm FD sc__law_web (FD.bindsN fun _ _ _ _ _ _ us hl => match us, hl with | [_, _], _ => rfl) fun cdv A outer s H E C =>
    (show SSs _ _ G__law_web from (ss_cons (ss_par 2 3 C.calm C.nd (ea_cons (ee_lstM ea_nil) (ea_cons (ee_tup ea_nil) ea_nil)))
    (ss_cons (ss_for C (ei_range1 T.b_range (ea_cons (ee_int) ea_nil)) (eg_name 4 C.nd) (ss_one (ss_set 2 C.nd (ee_opM op_cat odm_add (ee_var 2) (ee_lc [("_law_j", 5)] C (ei_range2 T.b_range (ea_cons (ee_op op_addD od_add (ee_var 4) (ee_int)) (ea_cons (ee_int) ea_nil))) (by rfl) (fun _ _ _ _ _ => (eg_name 5 C.nd)) (fun _ _ _ _ _ C1 => ets_nil) (fun _ _ _ _ _ C1 => (ee_tup (ea_cons (ee_var 4) (ea_cons (ee_var 5) ea_nil)))))))))
    (ss_cons (ss_while C (ew_or (et_cmp op_gt od_cmp (ee_len T.b_len (ee_var 2)) (ee_var 1)) (ew_or1 (ew_and (et_cmp (op_neD C.room.units) od_ne (ee_var 2) (ee_lst ea_nil)) (ew_and1 (et_cmp (op_eqD C.room.units) od_eq (ee_call (fn__law_pick T) C (ea_cons (ee_var 0) (ea_cons (ee_int) ea_nil))) (ee_int)))).t)).t (ss_one (ss_expr (ee_lm PySem.F.slot_list_pop PySem.F.type_list_pop mt_popAt lm_popAt (ee_var 2) (ea_cons (ee_call (fn__law_pick T) C (ea_cons (ee_var 0) (ea_cons (ee_len T.b_len (ee_var 2)) ea_nil))) ea_nil)))))
    (ss_cons (ss_for C (ei_seq (ee_var 2)) (eg_tup C.calm (egs_cons (eg_name 4 C.nd) (egs_cons (eg_name 5 C.nd) egs_nil)) (gsCons_len (gsCons_len gsNil_len (gN_ok _)) (gN_ok _))) (ss_cons (ss_set 6 C.nd (ee_if (et_cmp (op_eqD C.room.units) od_eq (ee_call (fn__law_pick T) C (ea_cons (ee_var 0) (ea_cons (ee_int) ea_nil))) (ee_int)) (ee_un un_neg ud_neg (ee_int)) (ee_int)))
    (ss_one (ss_set 3 C.nd (ee_op op_addD od_add (ee_var 3) (ee_tup (ea_cons (ee_tup (ea_cons (ee_callTy call_tuple_of cd_tuple T.b_tuple (by decide +kernel) (ea_cons (ee_lc [("_law_k", 7)] C (ei_range1 T.b_range (ea_cons (ee_int) ea_nil)) (by rfl) (fun _ _ _ _ _ => (eg_name 7 C.nd)) (fun _ _ _ _ _ C1 => ets_nil) (fun _ _ _ _ _ C1 => (ee_op op_mulD od_mul (ee_var 6) (ee_op op_sub od_sub (ee_callTy call_int1 cd_int T.b_int (by decide +kernel) (ea_cons (ee_cmp (op_eqD C1.room.units) od_eq (ee_var 7) (ee_var 4)) ea_nil)) (ee_callTy call_int1 cd_int T.b_int (by decide +kernel) (ea_cons (ee_cmp (op_eqD C1.room.units) od_eq (ee_var 7) (ee_var 5)) ea_nil)))))) ea_nil)) (ea_cons (ee_int) ea_nil))) ea_nil)))))))
    (ss_one (ss_ret (ee_tup (ea_cons (ee_int) (ea_cons (ee_var 3) ea_nil))))))))))
theorem sc__law_book : FnScope ["_law_stock_here", "_law_many", "_law_most", "_law_d", "_law_questions", "_law_turn", "_law_question_here", "_law_sides", "_law_shut"] ["_law_stock_here", "_law_many", "_law_most"] Z__law_book := ⟨rfl, rfl, rfl, by decide +kernel, rfl, by decide +kernel, by decide +kernel⟩
theorem fn__law_book {P : Program} {w : World} {K : PySem.W.Frag} {mg : Str → Option Value} {base : Heap} (T : TopF K mg) : FnF P w K mg base "_law_book" A__law_book B__law_book Z__law_book ["_law_stock_here", "_law_many", "_law_most"] 4 F__law_book := by
  obtain ⟨fd, hm, FD⟩ := T.d__law_book.ex
  exact fn_mk (N := ["_law_stock_here", "_law_many", "_law_most", "_law_d", "_law_questions", "_law_turn", "_law_question_here", "_law_sides", "_law_shut"]) false hm FD sc__law_book (FD.bindsN fun _ _ _ _ _ _ us hl => match us, hl with | [_, _, _], _ => rfl) fun cdv A outer s H E C =>
    (show SSs _ _ G__law_book from (ss_cons (ss_if (et_cmp (op_eqD C.room.units) od_eq (ee_call (fn__law_pick T) C (ea_cons (ee_var 0) (ea_cons (ee_int) ea_nil))) (ee_int)) (ss_one (ss_ret (ee_call (fn__law_web T) C (ea_cons (ee_var 0) (ea_cons (ee_var 1) ea_nil))))) (ss_nil))
    (ss_cons (ss_par 3 4 C.calm C.nd (ea_cons (ee_ixS (ee_lst (ea_cons (ee_int) (ea_cons (ee_int) (ea_cons (ee_int) (ea_cons (ee_int) ea_nil))))) (ee_call (fn__law_pick T) C (ea_cons (ee_var 0) (ea_cons (ee_int) ea_nil)))) (ea_cons (ee_tup ea_nil) ea_nil)))
    (ss_cons (ss_for C (ei_range1 T.b_range (ea_cons (ee_ixS (ee_lst (ea_cons (ee_var 1) (ea_cons (ee_var 1) (ea_cons (ee_op op_sub od_sub (ee_var 1) (ee_int)) (ea_cons (ee_call (fn__law_pick T) C (ea_cons (ee_var 0) (ea_cons (ee_op op_addD od_add (ee_var 1) (ee_int)) ea_nil))) ea_nil))))) (ee_call (fn__law_pick T) C (ea_cons (ee_var 0) (ea_cons (ee_int) ea_nil)))) ea_nil)) (eg_name 5 C.nd) (ss_cons (ss_set 6 C.nd (ee_call (fn__law_question T) C (ea_cons (ee_var 0) (ea_cons (ee_var 3) (ea_cons (ee_var 2) ea_nil)))))
    (ss_cons (ss_if (ew_and (et_cmp (op_neD C.room.units) od_ne (ee_var 4) (ee_tup ea_nil)) (ew_and1 (et_cmp (op_eqD C.room.units) od_eq (ee_call (fn__law_pick T) C (ea_cons (ee_var 0) (ea_cons (ee_int) ea_nil))) (ee_int)))).t (ss_cons (ss_asg (ee_ixS (ee_var 4) (ee_call (fn__law_pick T) C (ea_cons (ee_var 0) (ea_cons (ee_len T.b_len (ee_var 4)) ea_nil)))) (eg_tup C.calm (egs_cons (eg_name 7 C.nd) (egs_cons (eg_name 8 C.nd) egs_nil)) (gsCons_len (gsCons_len gsNil_len (gN_ok _)) (gN_ok _))))
    (ss_one (ss_set 6 C.nd (ee_tup (ea_cons (ee_var 7) (ea_cons (ee_op op_addD od_add (ee_op op_addD od_add (ee_var 8) (ee_int)) (ee_call (fn__law_pick T) C (ea_cons (ee_var 0) (ea_cons (ee_var 2) ea_nil)))) ea_nil)))))) (ss_nil))
    (ss_one (ss_if (ew_and (et_cmp op_lt od_cmp (ee_ixS (ee_var 6) (ee_int)) (ee_int)) (ew_and1 (et_val (ee_call (fn__law_is_new T) C (ea_cons (ee_var 4) (ea_cons (ee_var 6) (ea_cons (ee_var 3) ea_nil))))))).t (ss_one (ss_set 4 C.nd (ee_op op_addD od_add (ee_var 4) (ee_tup (ea_cons (ee_var 6) ea_nil))))) (ss_nil))))))
    (ss_one (ss_ret (ee_tup (ea_cons (ee_var 3) (ea_cons (ee_var 4) ea_nil)))))))))
theorem sc__law_divided : FnScope ["_law_row", "_law_common", "_law_number", "_law_here", "_law_beside"] ["_law_row"] Z__law_divided := ⟨rfl, rfl, rfl, by decide +kernel, rfl, by decide +kernel, by decide +kernel⟩
theorem fn__law_divided {P : Program} {w : World} {K : PySem.W.Frag} {mg : Str → Option Value} {base : Heap} (T : TopF K mg) : FnF P w K mg base "_law_divided" A__law_divided B__law_divided Z__law_divided ["_law_row"] 1 F__law_divided := by
  obtain ⟨fd, hm, FD⟩ := T.d__law_divided.ex
  exact fn_mk (N := ["_law_row", "_law_common", "_law_number", "_law_here", "_law_beside"]) false hm FD sc__law_divided (FD.bindsN fun _ _ _ _ _ _ us hl => match us, hl with | [_], _ => rfl) fun cdv A outer s H E C =>
    (show SSs _ _ G__law_divided from (ss_cons (ss_set 1 C.nd (ee_int))
    (ss_cons (ss_for C (ei_seq (ee_var 0)) (eg_name 2 C.nd) (ss_cons (ss_par 3 4 C.calm C.nd (ea_cons (ee_callB call_abs cd_abs T.b_abs (by decide +kernel) (ea_cons (ee_var 2) ea_nil)) (ea_cons (ee_var 1) ea_nil)))
    (ss_cons (ss_while C (et_cmp (op_neD C.room.units) od_ne (ee_var 4) (ee_int)) (ss_one (ss_par 3 4 C.calm C.nd (ea_cons (ee_var 4) (ea_cons (ee_op op_modN od_mod (ee_callTy call_int1 cd_int T.b_int (by decide +kernel) (ea_cons (ee_var 3) ea_nil)) (ee_var 4)) ea_nil)))))
    (ss_one (ss_set 1 C.nd (ee_var 3))))))
    (ss_one (ss_ret (ee_callTy call_tuple_of cd_tuple T.b_tuple (by decide +kernel) (ea_cons (ee_lc [("_law_number", 2)] C (ei_seq (ee_var 0)) (by rfl) (fun _ _ _ _ _ => (eg_name 2 C.nd)) (fun _ _ _ _ _ C1 => ets_nil) (fun _ _ _ _ _ C1 => (ee_op op_fdivNW od_fdiv (ee_var 2) (ee_var 1)))) ea_nil)))))))
theorem sc__law_merged : FnScope ["_law_book_here", "_law_at", "_law_d", "_law_questions", "_law_sides", "_law_shut", "_law_last", "_law_found", "_law_other", "_law_far", "_law_by", "_law_turn", "_law_row", "_law_k", "_law_side"] ["_law_book_here", "_law_at"] Z__law_merged := ⟨rfl, rfl, rfl, by decide +kernel, rfl, by decide +kernel, by decide +kernel⟩
theorem fn__law_merged {P : Program} {w : World} {K : PySem.W.Frag} {mg : Str → Option Value} {base : Heap} (T : TopF K mg) : FnF P w K mg base "_law_merged" A__law_merged B__law_merged Z__law_merged ["_law_book_here", "_law_at"] 4 F__law_merged := by
  obtain ⟨fd, hm, FD⟩ := T.d__law_merged.ex
  exact fn_mk (N := ["_law_book_here", "_law_at", "_law_d", "_law_questions", "_law_sides", "_law_shut", "_law_last", "_law_found", "_law_other", "_law_far", "_law_by", "_law_turn", "_law_row", "_law_k", "_law_side"]) false hm FD sc__law_merged (FD.bindsN fun _ _ _ _ _ _ us hl => match us, hl with | [_, _], _ => rfl) fun cdv A outer s H E C =>
    (show SSs _ _ G__law_merged from (ss_cons (ss_asg (ee_var 0) (eg_tup C.calm (egs_cons (eg_name 2 C.nd) (egs_cons (eg_name 3 C.nd) egs_nil)) (gsCons_len (gsCons_len gsNil_len (gN_ok _)) (gN_ok _))))
    (ss_cons (ss_asg (ee_ixS (ee_var 3) (ee_var 1)) (eg_tup C.calm (egs_cons (eg_name 4 C.nd) (egs_cons (eg_name 5 C.nd) egs_nil)) (gsCons_len (gsCons_len gsNil_len (gN_ok _)) (gN_ok _))))
    (ss_cons (ss_parT C.calm (ea_cons (ee_callB (cr_max C.calm) cd_max T.b_max (by decide +kernel) (ea_cons (ee_lc [("_law_k", 13)] C (ei_range1 T.b_range (ea_cons (ee_var 2) ea_nil)) (by rfl) (fun _ _ _ _ _ => (eg_name 13 C.nd)) (fun _ _ _ _ _ C1 => (ets_one (et_cmp (op_neD C1.room.units) od_ne (ee_ixS (ee_var 4) (ee_var 13)) (ee_int)))) (fun _ _ _ _ _ C1 => (ee_var 13))) ea_nil)) (ea_cons (ee_tup ea_nil) ea_nil)) (ng_cons 6 C.nd (ng_cons 7 C.nd ng_nil)))
    (ss_cons (ss_for C (ei_seq (ee_op op_addD od_add (ee_sl (ee_var 3) eo_none (eo_some (ee_var 1))) (ee_sl (ee_var 3) (eo_some (ee_op op_addD od_add (ee_var 1) (ee_int))) eo_none))) (eg_tup C.calm (egs_cons (eg_name 8 C.nd) (egs_cons (eg_name 9 C.nd) egs_nil)) (gsCons_len (gsCons_len gsNil_len (gN_ok _)) (gN_ok _))) (ss_cons (ss_parT C.calm (ea_cons (ee_callB call_abs cd_abs T.b_abs (by decide +kernel) (ea_cons (ee_ixS (ee_var 4) (ee_var 6)) ea_nil)) (ea_cons (ee_op op_mulD od_mul (ee_ixS (ee_var 8) (ee_var 6)) (ee_if (et_cmp op_gt od_cmp (ee_ixS (ee_var 4) (ee_var 6)) (ee_int)) (ee_int) (ee_un un_neg ud_neg (ee_int)))) ea_nil)) (ng_cons 10 C.nd (ng_cons 11 C.nd ng_nil)))
    (ss_cons (ss_lc 12 [("_law_k", 13)] C (ei_range1 T.b_range (ea_cons (ee_var 2) ea_nil)) (by rfl) (fun _ _ _ _ _ => (eg_name 13 C.nd)) (fun _ _ _ _ _ C1 => (ets_one (et_cmp (op_neD C1.room.units) od_ne (ee_var 13) (ee_var 6)))) (fun _ _ _ _ _ C1 => (ee_op op_sub od_sub (ee_op op_mulD od_mul (ee_var 10) (ee_ixS (ee_var 8) (ee_var 13))) (ee_op op_mulD od_mul (ee_var 11) (ee_ixS (ee_var 4) (ee_var 13))))))
    (ss_one (ss_if (et_cmp (op_neD C.room.units) od_ne (ee_lc [("_law_side", 14)] C (ei_seq (ee_var 12)) (by rfl) (fun _ _ _ _ _ => (eg_name 14 C.nd)) (fun _ _ _ _ _ C1 => (ets_one (et_cmp (op_neD C1.room.units) od_ne (ee_var 14) (ee_int)))) (fun _ _ _ _ _ C1 => (ee_var 14))) (ee_lst ea_nil)) (ss_cons (ss_set 12 C.nd (ee_call (fn__law_divided T) C (ea_cons (ee_op op_addD od_add (ee_var 12) (ee_lst (ea_cons (ee_op op_sub od_sub (ee_op op_mulD od_mul (ee_var 10) (ee_var 9)) (ee_op op_mulD od_mul (ee_var 11) (ee_var 5))) ea_nil))) ea_nil)))
    (ss_one (ss_if (et_val (ee_call (fn__law_is_new T) C (ea_cons (ee_var 7) (ea_cons (ee_tup (ea_cons (ee_sl (ee_var 12) eo_none (eo_some (ee_un un_neg ud_neg (ee_int)))) (ea_cons (ee_ixS (ee_var 12) (ee_un un_neg ud_neg (ee_int))) ea_nil))) (ea_cons (ee_op op_sub od_sub (ee_var 2) (ee_int)) ea_nil))))) (ss_one (ss_set 7 C.nd (ee_op op_addD od_add (ee_var 7) (ee_tup (ea_cons (ee_tup (ea_cons (ee_sl (ee_var 12) eo_none (eo_some (ee_un un_neg ud_neg (ee_int)))) (ea_cons (ee_ixS (ee_var 12) (ee_un un_neg ud_neg (ee_int))) ea_nil))) ea_nil))))) (ss_nil)))) (ss_nil))))))
    (ss_one (ss_ret (ee_tup (ea_cons (ee_op op_sub od_sub (ee_var 2) (ee_int)) (ea_cons (ee_var 7) ea_nil))))))))))
theorem sc_law : FnScope ["_law_script", "_law_spot", "_law_stock_here", "_law_d", "_law_questions", "_law_book_here", "_law_at", "_law_due", "_law_told", "_law_again"] ["_law_script"] Z_law := ⟨rfl, rfl, rfl, by decide +kernel, rfl, by decide +kernel, by decide +kernel⟩
theorem fn_law {P : Program} {w : World} {K : PySem.W.Frag} {mg : Str → Option Value} {base : Heap} (T : TopF K mg) : FnF P w K mg base "law" A_law B_law Z_law ["_law_script"] 14 F_law := by
  obtain ⟨fd, hm, FD⟩ := T.d_law.ex
  exact fn_mk (N := ["_law_script", "_law_spot", "_law_stock_here", "_law_d", "_law_questions", "_law_book_here", "_law_at", "_law_due", "_law_told", "_law_again"]) false hm FD sc_law (FD.bindsN fun _ _ _ _ _ _ us hl => match us, hl with | [_], _ => rfl) fun cdv A outer s H E C =>
    (show SSs _ _ G_law from (ss_cons (ss_for C (ei_range1 T.b_range (ea_cons (ee_callB (call_max2 C.calm) cd_max2 T.b_max (by decide +kernel) (ea_cons (ee_int) (ea_cons (ee_callB (call_min2 C.calm) cd_min2 T.b_min (by decide +kernel) (ea_cons (ee_int) (ea_cons (ee_len T.b_len (ee_var 0)) ea_nil))) ea_nil))) ea_nil)) (eg_name 1 C.nd) (ss_cons (ss_set 2 C.nd (ee_call (fn__law_stock T) C (ea_cons (ee_var 0) (ea_cons (ee_var 1) ea_nil))))
    (ss_cons (ss_asg (ee_call (fn__law_book T) C (ea_cons (ee_var 2) (ea_cons (ee_int) (ea_cons (ee_ixS (ee_lst (ea_cons (ee_int) (ea_cons (ee_int) (ea_cons (ee_int) ea_nil)))) (ee_call (fn__law_pick T) C (ea_cons (ee_var 2) (ea_cons (ee_int) ea_nil)))) ea_nil)))) (eg_tup C.calm (egs_cons (eg_name 3 C.nd) (egs_cons (eg_name 4 C.nd) egs_nil)) (gsCons_len (gsCons_len gsNil_len (gN_ok _)) (gN_ok _))))
    (ss_cons (ss_set 5 C.nd (ee_tup (ea_cons (ee_var 3) (ea_cons (ee_var 4) ea_nil))))
    (ss_cons (ss_if (ew_or (et_cmp op_lt od_cmp (ee_var 3) (ee_int)) (ew_or1 (et_cmp (op_eqD C.room.units) od_eq (ee_var 4) (ee_tup ea_nil)))).t (ss_one (ss_set 5 C.nd (ee_tup (ea_cons (ee_int) (ea_cons (ee_tup (ea_cons (ee_tup (ea_cons (ee_tup (ea_cons (ee_int) (ea_cons (ee_un un_neg ud_neg (ee_int)) ea_nil))) (ea_cons (ee_int) ea_nil))) (ea_cons (ee_tup (ea_cons (ee_tup (ea_cons (ee_un un_neg ud_neg (ee_int)) (ea_cons (ee_int) ea_nil))) (ea_cons (ee_int) ea_nil))) (ea_cons (ee_tup (ea_cons (ee_tup (ea_cons (ee_int) (ea_cons (ee_int) ea_nil))) (ea_cons (ee_int) ea_nil))) (ea_cons (ee_tup (ea_cons (ee_tup (ea_cons (ee_int) (ea_cons (ee_int) ea_nil))) (ea_cons (ee_int) ea_nil))) ea_nil))))) ea_nil))))) (ss_nil))
    (ss_one (ss_for C (ei_range1 T.b_range (ea_cons (ee_len T.b_len (ee_ixS (ee_var 5) (ee_int))) ea_nil)) (eg_name 6 C.nd) (ss_cons (ss_set 7 C.nd (ee_call (fn__law_merged T) C (ea_cons (ee_var 5) (ea_cons (ee_var 6) ea_nil))))
    (ss_cons (ss_set 8 C.nd (ee_call (fn_merged T) C (ea_cons (ee_var 5) (ea_cons (ee_var 6) ea_nil))))
    (ss_cons (ss_if (et_not (et_val (ee_call (fn__law_alike T) C (ea_cons (ee_lst (ea_cons (ee_var 8) (ea_cons (ee_callK0 (fn_merged T) C ["index", "book"] [1, 0] (ek_cons (ee_var 6) (ek_cons (ee_var 5) ek_nil)) (fun _ _ _ _ _ _ ws hl => match ws, hl with | [_, _], _ => rfl)) ea_nil))) (ea_cons (ee_lst (ea_cons (ee_var 7) (ea_cons (ee_var 7) ea_nil))) ea_nil))))) (ss_one (ss_ret (ee_bl))) (ss_nil))
    (ss_one (ss_if (ew_and (et_cmp op_gt od_cmp (ee_ixS (ee_var 7) (ee_int)) (ee_int)) (ew_and1 (et_cmp (op_neD C.room.units) od_ne (ee_ixS (ee_var 7) (ee_int)) (ee_tup ea_nil)))).t (ss_cons (ss_set 9 C.nd (ee_call (fn__law_pick T) C (ea_cons (ee_var 2) (ea_cons (ee_len T.b_len (ee_ixS (ee_var 7) (ee_int))) ea_nil))))
    (ss_one (ss_if (et_not (et_val (ee_call (fn__law_alike T) C (ea_cons (ee_call (fn_merged T) C (ea_cons (ee_var 8) (ea_cons (ee_var 9) ea_nil))) (ea_cons (ee_call (fn__law_merged T) C (ea_cons (ee_var 7) (ea_cons (ee_var 9) ea_nil))) ea_nil))))) (ss_one (ss_ret (ee_bl))) (ss_nil)))) (ss_nil)))))))))))))
    (ss_one (ss_ret (ee_bl)))))
end W_k28

set_option maxHeartbeats 400000
namespace W_k28
open PySem PySem.Spec PyProof.Rows L2 DL
/-! ### fresh.py: numbers -/
section
variable {h : Hs}
theorem dn (q : Rat) : (q.den : Int) ≠ 0 := by have := q.den_nz; omega
theorem qD0 (q : Rat) : dIx (qD q) (.int 0) = some (.int q.num) := rfl
theorem qD1 (q : Rat) : dIx (qD q) (.int 1) = some (.int q.den) := rfl
def qsum (qs : List Rat) : Rat := qs.foldl (· + ·) 0
theorem qsum_bd {n : Nat} {qs : List Rat} (hq : ∀ q ∈ qs, Bd n q) : Bd (1 + qs.length * (n + 1)) (qsum qs) := by
  have go : ∀ (qs : List Rat) (a : Rat) (k : Nat), (∀ q ∈ qs, Bd n q) → Bd k a → Bd (k + qs.length * (n + 1)) (qs.foldl (· + ·) a) := by
    intro qs
    induction qs with
    | nil => exact fun a k _ ha => ha.mono (by omega)
    | cons q qs ih =>
      intro a k hq ha
      have z := ih (a + q) (k + n + 1) (fun x m => hq x (List.mem_cons_of_mem _ m)) (ha.add (hq q List.mem_cons_self))
      refine z.mono ?_
      rw [List.length_cons, Nat.succ_mul]
      omega
  exact go qs 0 1 hq (by simp [Bd, Lt2])
end

end W_k28

set_option maxHeartbeats 400000
namespace W_k28
open PySem PySem.Spec PyProof.Rows L2 DL
/-! ### books and points, as they are drawn -/
abbrev Ln := List Int × Int
def lineD (l : Ln) : D := .tuple [.tuple (l.1.map .int), .int l.2]
def pageD (n : Nat) (ls : List Ln) : D := .tuple [.int n, .tuple (ls.map lineD)]
def spotD (qs : List Rat) : D := .tuple (qs.map qD)
def dotq (s : List Int) (qs : List Rat) : Rat := qsum ((s.zip qs).map fun p => (p.1 : Rat) * p.2)
section
variable {h : Hs}
theorem is_integer_ok (i : Int) : F_is_integer [.d (.int i)] h = .ok (.d (.bool true)) h := by
  refine wpR_eq ?_
  unfold F_is_integer G_is_integer
  rw [wpR_mkF]
  refine ⟨rfl, ?_⟩
  simp [startE]
theorem is_pair_ok (a b : D) : F_is_pair [.d (.tuple [a, b])] h = .ok (.d (.bool true)) h := by
  refine wpR_eq ?_
  unfold F_is_pair G_is_pair
  rw [wpR_mkF]
  refine ⟨rfl, ?_⟩
  simp [startE, dEq_int]
theorem boolsOf_true {γ : Type} : ∀ l : List γ, boolsOf (l.map fun _ => PyData.bool true) = some (l.map fun _ => true)
  | [] => rfl
  | x :: l => by simp only [List.map_cons, boolsOf, boolsOf_true l, Option.map_some]
theorem all_true {γ : Type} (l : List γ) : (l.map fun _ => true).all id = true := by simp
theorem are_integers_ok {s : List Int} (hs : s.length ≤ 4096) : F_are_integers [.d (.tuple (s.map .int))] h = .ok (.d (.bool true)) h := by
  refine wpR_eq ?_
  unfold F_are_integers G_are_integers
  rw [wpR_mkF]
  refine ⟨rfl, ?_⟩
  have cm := compR_map (h := h) (g := []) (gt := gN 1) (fe := eCall F_is_integer (aCons (eVar 1) aNil)) (ρ := [some (.d (.tuple (s.map .int))), none])
    (fun p : Int => .int p) (fun _ => .bool true) (l := s) (Chk_nil _) (sz_le hs) (fun p hp => by simp [is_integer_ok])
  simp [startE, cm, boolsOf_true]
theorem shaped_q (q : Rat) : SeqAt.shaped (qD q) = true := by rfl
theorem eqv_q (a b : Rat) : PyData.eqv (qD a) (qD b) = decide (a = b) := by
  show ((a.num == b.num) && (((a.den : Int) == (b.den : Int)) && true)) = _
  by_cases e : a = b
  · subst e; simp
  · rw [decide_eq_false e]
    rw [Bool.and_eq_false_iff, Bool.and_eq_false_iff]
    by_cases e1 : a.num = b.num
    · right; left
      simp only [beq_eq_false_iff_ne]
      exact fun z => e (Rat.ext e1 (by omega))
    · left
      simpa using e1
end

end W_k28

set_option maxHeartbeats 400000
namespace W_k28
open PySem PySem.Spec PyProof.Rows L2 DL
/-! ### questions: what they stand for, put in lowest terms -/
def gcdL (row : List Int) : Nat := row.foldl (fun g x => Nat.gcd g x.natAbs) 0
def lead (row : List Int) : Int := ((row.filter fun x => decide (x ≠ 0)).head?).getD 0
def rowL (l : Ln) : List Int := l.1 ++ [l.2]
def ground (row : List Int) : List Int := if 0 < lead row then row.map (· / (gcdL row : Int)) else row.map fun x => -(x / (gcdL row : Int))
theorem gcdL_snoc (row : List Int) (x : Int) : gcdL (row ++ [x]) = Nat.gcd (gcdL row) x.natAbs := by simp [gcdL, List.foldl_append]
theorem gcdL_fold (row : List Int) : ∀ g : Nat, (row.foldl (fun g x => Nat.gcd g x.natAbs) g) ∣ g ∧ ∀ x ∈ row, (row.foldl (fun g x => Nat.gcd g x.natAbs) g) ∣ x.natAbs := by
  induction row with
  | nil => exact fun g => ⟨Nat.dvd_refl _, fun x m => by cases m⟩
  | cons y row ih =>
    intro g
    obtain ⟨h1, h2⟩ := ih (Nat.gcd g y.natAbs)
    refine ⟨Nat.dvd_trans h1 (Nat.gcd_dvd_left _ _), fun x m => ?_⟩
    rcases List.mem_cons.mp m with e | m
    · rw [e]; exact Nat.dvd_trans h1 (Nat.gcd_dvd_right _ _)
    · exact h2 x m
theorem gcdL_dvd {row : List Int} {x : Int} (m : x ∈ row) : (gcdL row : Int) ∣ x := Int.ofNat_dvd_left.mpr ((gcdL_fold row 0).2 x m)
theorem gcdL_pos {row : List Int} (h : ∃ x ∈ row, x ≠ 0) : 0 < gcdL row := by
  obtain ⟨x, m, hx⟩ := h
  have := (gcdL_fold row 0).2 x m
  exact Nat.pos_of_dvd_of_pos this (by omega)
theorem gcdL_log {n : Nat} {row : List Int} (h : ∃ x ∈ row, x ≠ 0) (hb : ∀ x ∈ row, Lt2 n x) : ((gcdL row : Nat) : Int).natAbs.log2 ≤ n := by
  obtain ⟨x, m, hx⟩ := h
  have d := (gcdL_fold row 0).2 x m
  have l : gcdL row ≤ x.natAbs := Nat.le_of_dvd (by omega) d
  have : Lt2 n ((gcdL row : Nat) : Int) := by
    unfold Lt2
    rw [Int.natAbs_natCast]
    exact Nat.lt_of_le_of_lt l (hb x m)
  exact this.log
theorem fdiv_gcd {row : List Int} (x : Int) : x.fdiv (gcdL row : Int) = x / (gcdL row : Int) := Int.fdiv_eq_ediv_of_nonneg _ (Int.natCast_nonneg _)
theorem div_ne {g : Nat} {x : Int} (d : (g : Int) ∣ x) (hg : 0 < g) : (x / (g : Int) ≠ 0) ↔ x ≠ 0 := by
  obtain ⟨k, rfl⟩ := d
  rw [Int.mul_ediv_cancel_left _ (by omega)]
  constructor
  · exact fun h z => (Int.mul_eq_zero.mp z).elim (by omega) h
  · exact fun h z => h (by rw [z, Int.mul_zero])
theorem div_pos' {g : Nat} {x : Int} (d : (g : Int) ∣ x) (hg : 0 < g) : (0 < x / (g : Int)) ↔ 0 < x := by
  obtain ⟨k, rfl⟩ := d
  rw [Int.mul_ediv_cancel_left _ (by omega)]
  have : (0 : Int) < g := by omega
  constructor
  · exact fun h => Int.mul_pos this h
  · intro h
    rcases Int.lt_trichotomy k 0 with z | z | z
    · have := Int.mul_neg_of_pos_of_neg this z
      omega
    · rw [z] at h; omega
    · exact z
theorem filter_div {g : Nat} (hg : 0 < g) : ∀ {row : List Int}, (∀ x ∈ row, (g : Int) ∣ x) → (row.map (· / (g : Int))).filter (fun x => decide (x ≠ 0)) = (row.filter fun x => decide (x ≠ 0)).map (· / (g : Int))
  | [], _ => rfl
  | x :: row, h => by
    have ih := filter_div hg fun y m => h y (List.mem_cons_of_mem _ m)
    have e := div_ne (h x List.mem_cons_self) hg
    rw [List.map_cons, List.filter_cons, List.filter_cons, ih]
    by_cases hx : x = 0
    · rw [if_neg (by simp [hx]), if_neg (by simp [hx])]
    · rw [if_pos (decide_eq_true (e.mpr hx)), if_pos (decide_eq_true hx), List.map_cons]
theorem lead_some {row : List Int} (h : ∃ x ∈ row, x ≠ 0) : ∃ y r, (row.filter fun x => decide (x ≠ 0)) = y :: r ∧ lead row = y ∧ y ∈ row ∧ y ≠ 0 := by
  unfold lead
  cases e : row.filter fun x => decide (x ≠ 0) with
  | nil =>
    obtain ⟨x, m, hx⟩ := h
    have : x ∈ row.filter fun x => decide (x ≠ 0) := List.mem_filter.mpr ⟨m, decide_eq_true hx⟩
    rw [e] at this
    cases this
  | cons y r =>
    have : y ∈ row.filter fun x => decide (x ≠ 0) := by rw [e]; exact List.mem_cons_self
    obtain ⟨h1, h2⟩ := List.mem_filter.mp this
    exact ⟨y, r, rfl, rfl, h1, of_decide_eq_true h2⟩
section
variable {h : Hs}
theorem divided_ok {n : Nat} {row : List Int} (hx : ∃ x ∈ row, x ≠ 0) (hb : ∀ x ∈ row, Lt2 n x) (hn : n ≤ 8000) (hl : row.length ≤ 4096) : F_divided [.d (.tuple (row.map .int))] h = .ok (.d (.tuple ((row.map (· / (gcdL row : Int))).map .int))) h := by
  have gp := gcdL_pos hx
  have gl := gcdL_log hx hb
  have g0 : ((gcdL row : Nat) : Int) ≠ 0 := by omega
  refine wpR_eq ?_
  unfold F_divided G_divided
  rw [wpR_mkF]
  refine ⟨rfl, ?_⟩
  simp [startE]
  refine wp_for (fun i ρ h' => ∃ x, h' = h ∧ ρ = [some (.d (.tuple (row.map .int))), some (.d (.int (gcdL (row.take i)))), x]) 0 (fun i ρ h hi => Chk_nil _) ⟨none, rfl, rfl⟩ ?_ ?_
  · rintro i d ρ h' hd ⟨x, rfl, rfl⟩
    obtain ⟨y, hy, rfl⟩ : ∃ y, row[i]? = some y ∧ PyData.int y = d := by simpa using hd
    have e : gcdL (row.take (i + 1)) = Nat.gcd (gcdL (row.take i)) y.natAbs := by
      rw [List.take_succ, hy]
      exact gcdL_snoc _ _
    simp [e]
  · rintro ρ h' ⟨x, rfl, rfl⟩
    simp only [Nat.zero_add, List.length_map, List.take_length]
    have cm := compR_map (h := h') (g := []) (gt := gN 2) (fe := eOp (dInt2 gFdivN) (eVar 2) (eVar 1)) (ρ := [some (.d (.tuple (row.map .int))), some (.d (.int (gcdL row))), none])
      (fun p : Int => .int p) (fun p => .int (p / (gcdL row : Int))) (l := row) (Chk_nil _) (sz_le hl) (fun p hp => by
        have lt : (gcdL row).log2 < 9000 := by rw [Int.natAbs_natCast] at gl; omega
        have g1 : ¬ gcdL row = 0 := by omega
        simp [gFdivN, g1, lt, fdiv_gcd])
    simp [cm]
theorem row_of_question_ok {l : Ln} (hl : l.1.length ≤ 4000) : F_row_of_question [.d (lineD l)] h = .ok (.d (.tuple ((rowL l).map .int))) h := by
  refine wpR_eq ?_
  unfold F_row_of_question G_row_of_question
  rw [wpR_mkF]
  refine ⟨rfl, ?_⟩
  have e : dAdd (.tuple (l.1.map .int)) (.tuple [.int l.2]) = some (.tuple ((rowL l).map .int)) := by
    show (if _ then _ else _) = _
    rw [if_pos (by rw [List.length_map]; exact sz_le (by simp; omega))]
    simp [rowL]
  have i0 : dIx (lineD l) (.int 0) = some (.tuple (l.1.map .int)) := rfl
  have i1 : dIx (lineD l) (.int 1) = some (.int l.2) := rfl
  simp [startE, i0, i1, sz_le, e]
theorem map_map_int {γ : Type} (f : γ → Int) (l : List γ) : (l.map f).map PyData.int = l.map fun x => .int (f x) := by rw [List.map_map]; rfl
theorem ground_of_ok {n : Nat} {l : Ln} (hx : ∃ x ∈ rowL l, x ≠ 0) (hb : ∀ x ∈ rowL l, Lt2 n x) (hn : n ≤ 8000) (hl : l.1.length ≤ 4000) : F_ground_of [.d (lineD l)] h = .ok (.d (.tuple ((ground (rowL l)).map .int))) h := by
  have gp := gcdL_pos hx
  have ll : (rowL l).length ≤ 4096 := by simp [rowL]; omega
  have dv := divided_ok (h := h) hx hb hn ll
  have rq := row_of_question_ok (h := h) hl
  generalize rowL l = row at *
  have dd : ∀ x ∈ row, (gcdL row : Int) ∣ x := fun x m => gcdL_dvd m
  obtain ⟨y, r, e1, e2, e3, e4⟩ := lead_some hx
  have fd := filter_div gp dd
  rw [e1, List.map_cons] at fd
  refine wpR_eq ?_
  unfold F_ground_of G_ground_of
  rw [wpR_mkF]
  refine ⟨rfl, ?_⟩
  have cm := compR_fm (h := h) (g := []) (gt := gN 3) (ft := tVal (eOp dNe (eVar 3) (eC (.int 0)))) (fe := eVar 3) (ρ := [some (.d (lineD l)), some (.d (.tuple ((row.map (· / (gcdL row : Int))).map .int))), none, none]) (acc := [])
    (fun p : Int => .int p) (fun p => .int p) (fun x => decide (x ≠ 0)) (l := row.map (· / (gcdL row : Int))) (Chk_nil _) (sz_le (by simpa using ll)) (fun p hp => by simp [dNe_int])
  rw [fd, List.nil_append, List.map_cons] at cm
  have pos := div_pos' (dd y e3) gp
  simp [startE, rq, dv]
  simp [List.map_map, Function.comp_def] at cm ⊢
  rw [cm]
  simp only [mkL_some, wpR_ok, vS_d, vD_d, dIx_l, atI_zero, Option.map_some, R.opt_some]
  unfold ground
  rw [e2]
  by_cases hp : 0 < y
  · simp [hp, pos.mpr hp, List.map_map, Function.comp_def]
  · have cm2 := compR_map (h := h) (g := []) (gt := gN 3) (fe := eUn dNeg (eVar 3)) (ρ := [some (.d (lineD l)), some (.d (.tuple (row.map fun x => .int (x / (gcdL row : Int))))), some (.d (.int (y / (gcdL row : Int)))), none])
      (fun p : Int => .int (p / (gcdL row : Int))) (fun p => .int (-(p / (gcdL row : Int)))) (l := row) (Chk_nil _) (sz_le ll) (fun p hp => by simp)
    simp [hp, mt pos.mp hp, cm2, List.map_map, Function.comp_def]
end

end W_k28

set_option maxHeartbeats 400000
namespace W_k28
open PySem PySem.Spec PyProof.Rows L2 DL
/-! ### books judged, answers, rows -/
structure LineOk (n m : Nat) (l : Ln) : Prop where
  len : l.1.length = n
  some_ : ∃ x ∈ l.1, x ≠ 0
  bits : ∀ x ∈ rowL l, Lt2 m x
structure PageOk (n m : Nat) (ls : List Ln) : Prop where
  pos : 1 ≤ n
  le : n ≤ 4000
  many : ls.length ≤ 1000
  line : ∀ l ∈ ls, LineOk n m l
  nodup : (ls.map fun l => ground (rowL l)).Nodup
  bitsLe : m ≤ 4000
theorem LineOk.row {n m : Nat} {l : Ln} (k : LineOk n m l) : ∃ x ∈ rowL l, x ≠ 0 := by
  obtain ⟨x, h1, h2⟩ := k.some_
  exact ⟨x, List.mem_append_left _ h1, h2⟩
theorem isCon_cases {s : List Int} (h : isCon (s.map PyData.int) = true) : s = [0, 1] ∨ s = [-1, 0, 1] := by
  match s, h with
  | [a, b], h =>
    left
    unfold isCon at h
    split at h
    · rename_i e; simp at e; obtain ⟨rfl, rfl⟩ := e; rfl
    · rename_i e; simp at e
    · cases h
  | [a, b, c], h =>
    right
    unfold isCon at h
    split at h
    · rename_i e; simp at e
    · rename_i e; simp at e; obtain ⟨rfl, rfl, rfl⟩ := e; rfl
    · cases h
  | [], h => cases h
  | [a], h => simp [isCon] at h
  | a :: b :: c :: d :: r, h => simp [isCon] at h
theorem ground_con {n m : Nat} {l : Ln} (k : LineOk n m l) : isCon ((ground (rowL l)).map PyData.int) = false := by
  cases e : isCon ((ground (rowL l)).map PyData.int) with
  | false => rfl
  | true =>
    exfalso
    have gp := gcdL_pos k.row
    have dd : ∀ x ∈ rowL l, (gcdL (rowL l) : Int) ∣ x := fun x mm => gcdL_dvd mm
    obtain ⟨s, w⟩ := l
    obtain ⟨x, hx1, hx2⟩ := k.some_
    simp only [rowL] at *
    unfold ground at e
    rcases isCon_cases e with c | c
    · -- one side and a wall
      have hs : ∃ a, s = [a] := by
        have := congrArg List.length c
        split at this <;> simp at this <;> (match s, this with | [a], _ => exact ⟨a, rfl⟩)
      obtain ⟨a, rfl⟩ := hs
      have ax : x = a := by simpa using hx1
      subst ax
      have ne := (div_ne (dd x (by simp)) gp).mpr hx2
      simp only [List.cons_append, List.nil_append] at *
      split at c
      · simp only [List.map_cons, List.map_nil, List.cons.injEq] at c
        exact ne c.1
      · simp only [List.map_cons, List.map_nil, List.cons.injEq] at c
        exact ne (Int.neg_eq_zero.mp c.1)
    · have hs : ∃ a b, s = [a, b] := by
        have := congrArg List.length c
        split at this <;> simp at this <;> (match s, this with | [a, b], _ => exact ⟨a, b, rfl⟩)
      obtain ⟨a, b, rfl⟩ := hs
      have ld : a ≠ 0 → lead ([a, b] ++ [w]) = a := fun ha => by simp [lead, ha]
      have dv := dd a (by simp)
      have na : a ≠ 0 := by
        intro z
        split at c <;> simp at c <;> (have := c.1; rw [z] at this; simp at this)
      rw [ld na] at c
      have pos := div_pos' dv gp
      simp only [List.cons_append, List.nil_append] at *
      split at c
      · rename_i ha
        have := pos.mpr ha
        simp only [List.map_cons, List.map_nil, List.cons.injEq] at c
        have := c.1
        omega
      · rename_i ha
        have n2 := mt pos.mp ha
        simp only [List.map_cons, List.map_nil, List.cons.injEq] at c
        have := c.1
        omega
def ansq (l : Ln) (qs : List Rat) : Int := (dotq l.1 qs - (l.2 : Rat)).num.sign
section
variable {h : Hs}
theorem is_question_ok {n m : Nat} {l : Ln} (k : LineOk n m l) (hn : n ≤ 4000) : F_is_question [.d (.int n), .d (lineD l)] h = .ok (.d (.bool true)) h := by
  have hl := k.len
  refine wpR_eq ?_
  unfold F_is_question G_is_question
  rw [wpR_mkF]
  refine ⟨rfl, ?_⟩
  have ip := is_pair_ok (h := h) (.tuple (l.1.map .int)) (.int l.2)
  have i0 : dIx (lineD l) (.int 0) = some (.tuple (l.1.map .int)) := rfl
  have i1 : dIx (lineD l) (.int 1) = some (.int l.2) := rfl
  have ai := are_integers_ok (h := h) (s := l.1) (by omega)
  have cm := compR_map (h := h) (g := []) (gt := gN 2) (fe := eOp dNe (eVar 2) (eC (.int 0))) (ρ := [some (.d (.int n)), some (.d (lineD l)), none])
    (fun p : Int => .int p) (fun p => .bool (decide (p ≠ 0))) (l := l.1) (Chk_nil _) (sz_le (by omega)) (fun p hp => by simp [dNe_int])
  have bo : boolsOf (l.1.map fun p => PyData.bool (decide (p ≠ 0))) = some (l.1.map fun p => decide (p ≠ 0)) := by
    have := boolsOf_map (l.1.map fun p => decide (p ≠ 0))
    rw [List.map_map] at this
    exact this
  have an : (l.1.map fun p => decide (p ≠ 0)).any id = true := by
    obtain ⟨x, h1, h2⟩ := k.some_
    exact List.any_eq_true.mpr ⟨true, List.mem_map.mpr ⟨x, h1, decide_eq_true h2⟩, rfl⟩
  rw [show PyData.tuple [.tuple (l.1.map .int), .int l.2] = lineD l from rfl] at ip
  simp [startE, ip, i0, i1, ai, is_integer_ok, dEq_int, hl]
  rw [cm]
  simp only [mkL_some, wpR_ok]
  simp only [vDs_cons, vDs_nil, Option.map_some, d1_at, dAny_l, bo, R.opt_some, wpR_ok, an, exitV_d]
  simp
theorem is_book_ok {n m : Nat} {ls : List Ln} (k : PageOk n m ls) : F_is_book [.d (pageD n ls)] h = .ok (.d (.bool true)) h := by
  have hm := k.many
  have hp := k.pos
  refine wpR_eq ?_
  unfold F_is_book G_is_book
  rw [wpR_mkF]
  refine ⟨rfl, ?_⟩
  have ip := is_pair_ok (h := h) (.int n) (.tuple (ls.map lineD))
  have i0 : dIx (pageD n ls) (.int 0) = some (.int n) := rfl
  have i1 : dIx (pageD n ls) (.int 1) = some (.tuple (ls.map lineD)) := rfl
  rw [show PyData.tuple [.int (n : Int), .tuple (ls.map lineD)] = pageD n ls from rfl] at ip
  have cm := compR_map (h := h) (g := []) (gt := gN 1) (fe := eCall F_is_question (aCons (eIx (eVar 0) (eC (.int 0))) (aCons (eVar 1) aNil))) (ρ := [some (.d (pageD n ls)), none])
    lineD (fun _ => .bool true) (l := ls) (Chk_nil _) (sz_le (by omega)) (fun l hl => by simp [i0, is_question_ok (k.line l hl) k.le])
  have cd := compDR_fold (h := h) (g := []) (gt := gN 1) (fk := eCall F_ground_of (aCons (eVar 1) aNil)) (fe := eC (.bool true)) (ρ := [some (.d (pageD n ls)), none])
    lineD (fun l => (ground (rowL l)).map .inl) (fun l => .tuple ((ground (rowL l)).map .int)) (fun _ => .bool true) (l := ls) (acc := []) (Chk_nil _) (by rw [List.length_nil, Nat.zero_add]; exact sz_le (by omega))
    (fun l hl => keysI_ints (ground_con (k.line l hl))) (fun l hl => by
      have b := k.bitsLe
      have le := k.le
      have kl := k.line l hl
      simp [ground_of_ok kl.row kl.bits (by omega) (by rw [kl.len]; exact le)])
  rw [fold_new _ _ _ (fun l hl => keysE_ints _) (fun p m => by cases m) (by
    rw [show (ls.map fun l => (ground (rowL l)).map (Sum.inl : Int → Key)) = (ls.map fun l => ground (rowL l)).map (List.map Sum.inl) by rw [List.map_map]; rfl]
    refine List.Pairwise.map _ ?_ k.nodup
    intro a b hab e
    exact hab ((List.map_inj_right (fun x y z => Sum.inl.inj z)).mp e))] at cd
  have hp' : ¬ (n : Int) < 1 := by omega
  simp [startE, ip, i0, i1, is_integer_ok, hp', cm, boolsOf_true]
  simp at cd
  rw [cd]
  simp [vS, vD, dEq_int, i1]
theorem check_book_ok {n m : Nat} {ls : List Ln} (k : PageOk n m ls) : F_check_book [.d (pageD n ls)] h = .ok (.d .none) h := by
  refine wpR_eq ?_
  unfold F_check_book G_check_book
  rw [wpR_mkF]
  refine ⟨rfl, ?_⟩
  simp [startE, is_book_ok k]
theorem check_index_ok {n : Nat} {ls : List Ln} {i : Nat} (hi : i < ls.length) : F_check_index [.d (pageD n ls), .d (.int i)] h = .ok (.d .none) h := by
  refine wpR_eq ?_
  unfold F_check_index G_check_index
  rw [wpR_mkF]
  refine ⟨rfl, ?_⟩
  have i1 : dIx (pageD n ls) (.int 1) = some (.tuple (ls.map lineD)) := rfl
  simp [startE, is_integer_ok, i1, hi]
end

end W_k28

set_option maxHeartbeats 400000
namespace W_k28
open PySem PySem.Spec PyProof.Rows L2 DL
/-! ### rows of points, wishes -/
structure SpotOk (n m b : Nat) (qs : List Rat) : Prop where
  len : qs.length = n
  bd : ∀ q ∈ qs, Bd b q
  size : m + 1 + b ≤ 4400 ∧ n * (m + 1 + b + 1) + (m + 1 + b) ≤ 200000
def rowI (ls : List Ln) (qs : List Rat) : List Int := ls.map fun l => ansq l qs
def intsD (s : List Int) : D := .tuple (s.map .int)
def wD : Option Int → D
  | none => .none
  | some i => .int i
def wishD (ws : List (Option Int)) : D := .tuple (ws.map wD)
def WishOk (ws : List (Option Int)) : Prop := ∀ w ∈ ws, ∀ i, w = some i → i = -1 ∨ i = 0 ∨ i = 1
def fit1 (p : Int × Option Int) : Bool := match p.2 with
  | none => true
  | some w => decide (p.1 = w)
def fitB (as : List Int) (ws : List (Option Int)) : Bool := (as.zip ws).all fit1
def turnL (l : Ln) : Ln := (l.1.map fun x => -x, -l.2)
section
variable {h : Hs} {n m b : Nat} {ls : List Ln} {qs : List Rat}
theorem cut_lo (xs : List D) (i : Nat) : DL.cutD xs none (some (i : Int)) = xs.take i := by
  unfold DL.cutD
  rw [HT.sIx_nat, HT.sIx_none, List.drop_zero, Nat.sub_zero]
  by_cases e : i ≤ xs.length
  · rw [Nat.min_eq_left e]
  · rw [Nat.min_eq_right (by omega), List.take_length, List.take_of_length_le (by omega)]
theorem cut_hi (xs : List D) (i : Nat) : DL.cutD xs (some (i : Int)) none = xs.drop i := by
  unfold DL.cutD
  rw [HT.sIx_nat, HT.sIx_none]
  by_cases e : i ≤ xs.length
  · rw [Nat.min_eq_left e, List.take_of_length_le (by rw [List.length_drop]; omega)]
  · rw [Nat.min_eq_right (by omega), List.drop_length, List.drop_of_length_le (by omega)]; simp
end

end W_k28

set_option maxHeartbeats 400000
namespace W_k28
open PySem PySem.Spec PyProof.Rows L2 DL
/-! ### wishes and what fits them -/
section
variable {h : Hs} {n m b : Nat} {ls : List Ln} {qs : List Rat}
theorem isNone_wD (w : Option Int) : isNone (.d (wD w)) = w.isNone := by cases w <;> rfl
theorem boolsOf_f {γ : Type} (f : γ → Bool) (l : List γ) : boolsOf (l.map fun p => PyData.bool (f p)) = some (l.map f) := by
  have := boolsOf_map (l.map f)
  rw [List.map_map] at this
  exact this
theorem all_map_id {γ : Type} (f : γ → Bool) (l : List γ) : (l.map f).all id = l.all f := by rw [List.all_map]; rfl
end
/-! ### a question turned -/
theorem gcdL_neg (row : List Int) : gcdL (row.map fun x => -x) = gcdL row := by
  unfold gcdL
  rw [List.foldl_map]
  congr 1
  funext g x
  rw [Int.natAbs_neg]
theorem lead_neg {row : List Int} (h : ∃ x ∈ row, x ≠ 0) : lead (row.map fun x => -x) = -lead row := by
  have e : (row.map fun x => -x).filter (fun x => decide (x ≠ 0)) = (row.filter fun x => decide (x ≠ 0)).map fun x => -x := by
    clear h
    induction row with
    | nil => rfl
    | cons x row ih =>
      rw [List.map_cons, List.filter_cons, List.filter_cons, ih]
      by_cases hx : x = 0
      · simp [hx]
      · simp [hx]
  obtain ⟨y, r, e1, e2, _, _⟩ := lead_some h
  rw [e2]
  unfold lead
  rw [e, e1]; rfl
theorem ground_neg {row : List Int} (h : ∃ x ∈ row, x ≠ 0) : ground (row.map fun x => -x) = ground row := by
  obtain ⟨y, r, e1, e2, e3, e4⟩ := lead_some h
  unfold ground
  rw [gcdL_neg, lead_neg h, e2, List.map_map, List.map_map]
  have dv : ∀ x ∈ row, (gcdL row : Int) ∣ x := fun x m => gcdL_dvd m
  by_cases hp : 0 < y
  · rw [if_neg (by omega), if_pos hp]
    refine List.map_congr_left fun x m => ?_
    show -(-x / (gcdL row : Int)) = _
    rw [Int.neg_ediv_of_dvd (dv x m), Int.neg_neg]
  · rw [if_pos (by omega), if_neg hp]
    refine List.map_congr_left fun x m => ?_
    show -x / (gcdL row : Int) = _
    rw [Int.neg_ediv_of_dvd (dv x m)]
theorem rowL_turn (l : Ln) : rowL (turnL l) = (rowL l).map fun x => -x := by simp [rowL, turnL]
theorem LineOk.turn {n m : Nat} {l : Ln} (k : LineOk n m l) : LineOk n m (turnL l) := by
  refine ⟨by simp [turnL, k.len], ?_, fun x hx => ?_⟩
  · obtain ⟨x, h1, h2⟩ := k.some_
    exact ⟨-x, List.mem_map_of_mem h1, by omega⟩
  · rw [rowL_turn] at hx
    obtain ⟨y, hy, rfl⟩ := List.mem_map.mp hx
    exact (k.bits y hy).neg
theorem PageOk.turn {n m : Nat} {ls : List Ln} (k : PageOk n m ls) {i : Nat} (hi : i < ls.length) : PageOk n m (ls.set i (turnL ls[i])) := by
  refine ⟨k.pos, k.le, by rw [List.length_set]; exact k.many, fun l hl => ?_, ?_, k.bitsLe⟩
  · rcases List.mem_or_eq_of_mem_set hl with h1 | h1
    · exact k.line l h1
    · rw [h1]; exact (k.line _ (List.getElem_mem hi)).turn
  · have e : (ls.set i (turnL ls[i])).map (fun l => ground (rowL l)) = ls.map fun l => ground (rowL l) := by
      rw [List.map_set, rowL_turn, ground_neg (k.line _ (List.getElem_mem hi)).row]
      apply List.ext_getElem?
      intro j
      rw [List.getElem?_set]
      by_cases e : i = j
      · subst e; simp [hi]
      · rw [if_neg e]
    rw [e]
    exact k.nodup
theorem qsum_eq : ∀ (qs : List Rat) (a : Rat), qs.foldl (· + ·) a = a + qsum qs
  | [], a => by simp [qsum, Rat.add_zero]
  | q :: qs, a => by
    unfold qsum
    rw [List.foldl_cons, List.foldl_cons, qsum_eq qs (a + q), qsum_eq qs (0 + q)]
    grind
theorem qsum_cons (q : Rat) (qs : List Rat) : qsum (q :: qs) = q + qsum qs := by
  show (q :: qs).foldl (· + ·) 0 = _
  rw [List.foldl_cons, qsum_eq]
  grind
theorem dotq_neg : ∀ (s : List Int) (qs : List Rat), dotq (s.map fun x => -x) qs = -dotq s qs
  | [], qs => by simp [dotq, qsum]
  | x :: s, [] => by simp [dotq, qsum]
  | x :: s, q :: qs => by
    have ih := dotq_neg s qs
    unfold dotq at *
    rw [List.map_cons, List.zip_cons_cons, List.zip_cons_cons, List.map_cons, List.map_cons, qsum_cons, qsum_cons, ih]
    simp only [Rat.intCast_neg]
    grind
theorem sign_num_neg (q : Rat) : (-q).num.sign = -q.num.sign := by rw [Rat.neg_num, Int.sign_neg]
theorem ansq_turn (l : Ln) (qs : List Rat) : ansq (turnL l) qs = -ansq l qs := by
  unfold ansq turnL
  rw [dotq_neg, ← sign_num_neg]
  congr 2
  simp only [Rat.intCast_neg]
  grind

end W_k28

set_option maxHeartbeats 400000
namespace W_k28
open PySem PySem.Spec PyProof.Rows L2 DL
/-! ### the law's own draws -/
def DeckAt (i : Nat) (h : Hs) : Prop := ∃ a b : Int, h[i]? = some (.lst [.int a, .int b]) ∧ 0 ≤ b ∧ b < 18446744073709551616
structure Dk (i : Nat) (h h' : Hs) : Prop where
  len : h'.length = h.length
  oth : ∀ j, j ≠ i → h'[j]? = h[j]?
  deck : DeckAt i h'
theorem Dk.trans {i : Nat} {h h1 h2 : Hs} (a : Dk i h h1) (b : Dk i h1 h2) : Dk i h h2 := ⟨b.len.trans a.len, fun j n => (b.oth j n).trans (a.oth j n), b.deck⟩
theorem Dk.refl {i : Nat} {h : Hs} (d : DeckAt i h) : Dk i h h := ⟨rfl, fun _ _ => rfl, d⟩
theorem DeckAt.lt {i : Nat} {h : Hs} (d : DeckAt i h) : i < h.length := by
  obtain ⟨a, b, e, _⟩ := d
  exact (List.getElem?_eq_some_iff.mp e).1
theorem DeckAt.app {i : Nat} {h : Hs} (d : DeckAt i h) (r : Hs) : DeckAt i (h ++ r) := by
  have lt := d.lt
  obtain ⟨a, b, e, z⟩ := d
  exact ⟨a, b, by rw [List.getElem?_append_left lt]; exact e, z⟩
theorem DeckAt.take {i n : Nat} {h : Hs} (d : DeckAt i h) (hn : i < n) : DeckAt i (h.take n) := by
  obtain ⟨a, b, e, z⟩ := d
  exact ⟨a, b, by rw [List.getElem?_take_of_lt hn]; exact e, z⟩
/-- a store that grew, cut again -/
theorem Dk.cut {i n : Nat} {h h' r : Hs} (d : Dk i (h ++ r) h') (hn : n = h.length) (hi : i < n) : Dk i h (h'.take n) := by
  subst hn
  refine ⟨by rw [List.length_take, d.len, List.length_append]; omega, fun j nj => ?_, d.deck.take hi⟩
  by_cases hj : j < h.length
  · rw [List.getElem?_take_of_lt hj, d.oth j nj, List.getElem?_append_left hj]
  · rw [List.getElem?_eq_none (by rw [List.length_take]; omega), List.getElem?_eq_none (by omega)]
theorem ixN0 {n : Nat} : ixN (n + 1) 0 = some 0 := by
  have : (0 : Int) < ((n + 1 : Nat) : Int) := by omega
  unfold ixN
  rw [if_pos (by omega), if_pos this]; rfl
theorem ixN1 {n : Nat} : ixN (n + 2) 1 = some 1 := by
  have : (1 : Int) < ((n + 2 : Nat) : Int) := by omega
  unfold ixN
  rw [if_pos (by omega), if_pos this]; rfl
theorem atI_one {α : Type} (a b : α) (as : List α) : atI (a :: b :: as) 1 = some b := DL.atI_nat (a :: b :: as) 1
theorem vS_r {i : Nat} {h : Hs} {ds : List D} (e : h[i]? = some (.lst ds)) : vS (.r i) h = some (.list ds) := by
  show vD (.r i) h = _
  simp only [vD, e]
theorem vD_r {i : Nat} {h : Hs} {ds : List D} (e : h[i]? = some (.lst ds)) : vD (.r i) h = some (.list ds) := by
  simp only [vD, e]
section
variable {h : Hs} {E : DL.EP} {Q : Val → Hs → Prop}
end

end W_k28

set_option maxHeartbeats 400000
namespace W_k28
open PySem PySem.Spec PyProof.Rows L2 DL
/-! ### the law's own sums -/
section
variable {h : Hs}
def worthq (l : Ln) (qs : List Rat) : Rat := ((l.1.zip qs).map fun p => (p.1 : Rat) * p.2).foldl (· + ·) (-(l.2 : Rat))
theorem worthq_eq (l : Ln) (qs : List Rat) : worthq l qs = dotq l.1 qs - (l.2 : Rat) := by
  unfold worthq dotq
  rw [qsum_eq]
  grind
theorem qD_neg_int (i : Int) : PyData.tuple [.int (-i), .int 1] = qD (-(i : Rat)) := by
  rw [← qD_int, Rat.intCast_neg]
theorem Bd.worth {m b : Nat} {l : Ln} {qs : List Rat} (hs : ∀ x ∈ rowL l, Lt2 m x) (hq : ∀ q ∈ qs, Bd b q) : Bd (1 + qs.length * (m + 1 + b + 1) + (m + 1) + 1) (worthq l qs) := by
  rw [worthq_eq, Rat.sub_eq_add_neg]
  have hl : (l.1.zip qs).length ≤ qs.length := by rw [List.length_zip]; exact Nat.min_le_right _ _
  have z := qsum_bd (n := m + 1 + b) (qs := (l.1.zip qs).map fun p => (p.1 : Rat) * p.2) (fun q hq' => by
    obtain ⟨p, hp, rfl⟩ := List.mem_map.mp hq'
    obtain ⟨h1, h2⟩ := List.of_mem_zip hp
    exact (Bd.int (hs _ (List.mem_append_left _ h1))).mul (hq _ h2))
  rw [List.length_map] at z
  have := Nat.mul_le_mul_right (m + 1 + b + 1) hl
  exact (z.add (Bd.int (hs _ (by simp [rowL]))).neg).mono (by omega)
theorem ten_bits (i : Nat) : Lt2 (4 * i + 1) ((10 : Int) ^ i) := by
  unfold Lt2
  rw [Int.natAbs_pow]
  have a : (Int.natAbs 10) ^ i ≤ 16 ^ i := Nat.pow_le_pow_left (by decide) i
  have b : 16 ^ i = 2 ^ (4 * i) := by rw [Nat.pow_mul]
  have c : 2 ^ (4 * i) < 2 ^ (4 * i + 1) := Nat.pow_lt_pow_right (by omega) (by omega)
  omega
theorem small_nat {k : Nat} (hk : k ≤ 100000) : smallI (k : Int) = true := smallI_of (by
  rw [Int.natAbs_natCast]
  exact Nat.lt_of_le_of_lt hk (by decide))
end

end W_k28

set_option maxHeartbeats 400000
namespace W_k28
open PySem PySem.Spec PyProof.Rows L2 DL
/-! ### the law's own answers -/
theorem rng0 (n : Nat) : rng 0 n = (List.range n).map fun i : Nat => PyData.int (i : Int) := by simp [rng]
theorem shaped_ints (s : List Int) : SeqAt.shaped (.list (s.map .int)) = true := by
  have c : ∀ s : List Int, PyData.canLayAll0 (s.map .int) = true := by
    intro s
    induction s with
    | nil => rfl
    | cons x s ih =>
      show (true && PyData.canLayAll0 (s.map .int)) = true
      rw [ih]; rfl
  have d : ∀ s : List Int, PyData.depthAll (s.map .int) ≤ 1 := by
    intro s
    induction s with
    | nil => decide
    | cons x s ih =>
      show max _ (PyData.depthAll (s.map .int)) ≤ 1
      exact Nat.max_le.mpr ⟨by simp [PyData.depth], ih⟩
  unfold SeqAt.shaped
  rw [Bool.and_eq_true]
  refine ⟨c s, decide_eq_true ?_⟩
  show PyData.depthAll (s.map .int) + 1 ≤ 64
  have := d s
  omega
theorem eqv_ints : ∀ s t : List Int, PyData.eqv (.list (s.map .int)) (.list (t.map .int)) = decide (s = t)
  | [], [] => by simp [PyData.eqv, PyData.eqvAll]
  | [], _ :: _ => by simp [PyData.eqv, PyData.eqvAll]
  | _ :: _, [] => by simp [PyData.eqv, PyData.eqvAll]
  | x :: s, y :: t => by
    have ih := eqv_ints s t
    simp only [PyData.eqv] at ih
    simp only [PyData.eqv, List.map_cons, PyData.eqvAll, ih]
    by_cases e : x = y <;> by_cases f : s = t <;> simp [e, f]
theorem dEq_ints (s t : List Int) : dEq (.list (s.map .int)) (.list (t.map .int)) = some (.bool (decide (s = t))) := by
  unfold dEq
  rw [if_pos ⟨shaped_ints s, shaped_ints t⟩, eqv_ints]
theorem dNe_ints (s t : List Int) : dNe (.list (s.map .int)) (.list (t.map .int)) = some (.bool (decide (s ≠ t))) := by
  unfold dNe
  rw [if_pos ⟨shaped_ints s, shaped_ints t⟩, eqv_ints]
  by_cases e : s = t <;> simp [e]
section
variable {h : Hs} {n m b : Nat} {ls : List Ln} {qs : List Rat}
theorem ansq_worth (l : Ln) (qs : List Rat) : (worthq l qs).num.sign = ansq l qs := by rw [worthq_eq]; rfl
theorem sign_form (i : Int) : (if 0 < i then (1 : Int) else 0) - (if i < 0 then (1 : Int) else 0) = i.sign := by
  rcases Int.lt_trichotomy i 0 with z | z | z
  · rw [if_neg (by omega), if_pos z, Int.sign_eq_neg_one_of_neg z]; rfl
  · subst z; rfl
  · rw [if_pos z, if_neg (by omega), Int.sign_eq_one_of_pos z]; rfl
def okD : Nat → D → Prop
  | 0, _ => False
  | k + 1, d => match d with
    | .none => True
    | .int _ => True
    | .bool _ => True
    | .tuple xs => xs.length ≤ 4096 ∧ ∀ x ∈ xs, okD k x
    | .list xs => xs.length ≤ 4096 ∧ ∀ x ∈ xs, okD k x
    | _ => False
theorem dEq_bool (i j : Bool) : dEq (.bool i) (.bool j) = some (.bool (i == j)) := rfl
theorem dNe_bool (i j : Bool) : dNe (.bool i) (.bool j) = some (.bool (!(i == j))) := rfl
end

end W_k28

set_option maxHeartbeats 400000
namespace W_k28
open PySem PySem.Spec PyProof.Rows L2 DL
/-! ### points drawn -/
theorem okD_lay : ∀ (k : Nat) (d : D), okD k d → d.canLay0 = true ∧ d.depth ≤ k
  | 0, _, e => e.elim
  | k + 1, d, e => by
    have go : ∀ xs : List D, (∀ x ∈ xs, okD k x) → PyData.canLayAll0 xs = true ∧ PyData.depthAll xs ≤ k := by
      intro xs
      induction xs with
      | nil => exact fun _ => ⟨rfl, by simp [PyData.depthAll]⟩
      | cons x xs ih =>
        intro hx
        obtain ⟨a, b⟩ := okD_lay k x (hx x List.mem_cons_self)
        obtain ⟨c, d⟩ := ih fun y m => hx y (List.mem_cons_of_mem _ m)
        refine ⟨?_, ?_⟩
        · show (x.canLay0 && PyData.canLayAll0 xs) = true
          rw [a, c]; rfl
        · show max x.depth (PyData.depthAll xs) ≤ k
          exact Nat.max_le.mpr ⟨b, d⟩
    match d, e with
    | .none, _ => exact ⟨rfl, by simp [PyData.depth]⟩
    | .int i, _ => exact ⟨rfl, by simp [PyData.depth]⟩
    | .bool c, _ => exact ⟨rfl, by simp [PyData.depth]⟩
    | .tuple xs, ⟨_, hx⟩ =>
      obtain ⟨a, b⟩ := go xs hx
      exact ⟨a, by show PyData.depthAll xs + 1 ≤ k + 1; omega⟩
    | .list xs, ⟨_, hx⟩ =>
      obtain ⟨a, b⟩ := go xs hx
      exact ⟨a, by show PyData.depthAll xs + 1 ≤ k + 1; omega⟩
theorem shaped_ok {k : Nat} {d : D} (e : okD k d) (hk : k ≤ 64) : SeqAt.shaped d = true := by
  obtain ⟨a, b⟩ := okD_lay k d e
  unfold SeqAt.shaped
  rw [a, Bool.true_and]
  exact decide_eq_true (by omega)
theorem dNe_nilT {k : Nat} {xs : List D} (e : okD k (.tuple xs)) (hk : k ≤ 64) : dNe (.tuple xs) (.tuple []) = some (.bool (!xs.isEmpty)) := by
  unfold dNe
  rw [if_pos ⟨shaped_ok e hk, rfl⟩]
  cases xs <;> simp [PyData.eqv, PyData.eqvAll]
theorem dNe_nilL {k : Nat} {xs : List D} (e : okD k (.list xs)) (hk : k ≤ 64) : dNe (.list xs) (.list []) = some (.bool (!xs.isEmpty)) := by
  unfold dNe
  rw [if_pos ⟨shaped_ok e hk, rfl⟩]
  cases xs <;> simp [PyData.eqv, PyData.eqvAll]
theorem okD_line {l : Ln} (hl : l.1.length ≤ 4000) : okD 3 (lineD l) := by
  refine ⟨by simp, fun x hx => ?_⟩
  have : x = .tuple (l.1.map .int) ∨ x = .int l.2 := by simpa [lineD] using hx
  rcases this with rfl | rfl
  · refine ⟨by simp; omega, fun y hy => ?_⟩
    obtain ⟨i, _, rfl⟩ := List.mem_map.mp hy
    exact True.intro
  · exact True.intro
theorem okD_lines {n m : Nat} {ls : List Ln} (hn : n ≤ 4000) (hm : ls.length ≤ 1000) (k : ∀ l ∈ ls, LineOk n m l) : okD 4 (.tuple (ls.map lineD)) ∧ okD 4 (.list (ls.map lineD)) := by
  have z : ∀ x ∈ ls.map lineD, okD 3 x := fun x hx => by
    obtain ⟨l, hl, rfl⟩ := List.mem_map.mp hx
    exact okD_line (by rw [(k l hl).len]; exact hn)
  exact ⟨⟨by simp; omega, z⟩, ⟨by simp; omega, z⟩⟩
/-- the store h and more, the deck at i of it moved on -/
structure Dl (i : Nat) (h h2 : Hs) : Prop where
  len : h.length ≤ h2.length
  oth : ∀ j, j < h.length → j ≠ i → h2[j]? = h[j]?
  deck : DeckAt i h2
theorem Dl.of {i : Nat} {h h2 : Hs} (d : Dk i h h2) : Dl i h h2 := ⟨by rw [d.len]; exact Nat.le_refl _, fun j _ n => d.oth j n, d.deck⟩
theorem Dl.start {i : Nat} {h : Hs} (d : DeckAt i h) : Dl i h h := .of (.refl d)
theorem Dl.step {i : Nat} {h h2 h3 : Hs} (d : Dl i h h2) (e : Dk i h2 h3) : Dl i h h3 := ⟨by rw [e.len]; exact d.len, fun j hj n => (e.oth j n).trans (d.oth j hj n), e.deck⟩
theorem Dl.push {i : Nat} {h h2 : Hs} (d : Dl i h h2) (r : Hs) : Dl i h (h2 ++ r) := ⟨by rw [List.length_append]; have := d.len; omega, fun j hj n => by
  rw [List.getElem?_append_left (by have := d.len; omega)]
  exact d.oth j hj n, d.deck.app r⟩
theorem Dl.set {i k : Nat} {h h2 : Hs} (d : Dl i h h2) (hi : i < h.length) (hk : h.length ≤ k) (x : MO) : Dl i h (h2.set k x) := ⟨by rw [List.length_set]; exact d.len, fun j hj n => by
  rw [List.getElem?_set_ne (by omega)]
  exact d.oth j hj n, by
  obtain ⟨a, b, e, z⟩ := d.deck
  exact ⟨a, b, by rw [List.getElem?_set_ne (by omega)]; exact e, z⟩⟩
theorem Dl.cut {i : Nat} {h h2 : Hs} (d : Dl i h h2) (hi : i < h.length) : Dk i h (h2.take h.length) := ⟨by rw [List.length_take]; have := d.len; omega, fun j n => by
  by_cases hj : j < h.length
  · rw [List.getElem?_take_of_lt hj]
    exact d.oth j hj n
  · rw [List.getElem?_eq_none (by rw [List.length_take]; omega), List.getElem?_eq_none (by omega)], d.deck.take hi⟩
theorem log_small {n : Nat} (hn : n ≤ 100000) : ((n : Nat) : Int).natAbs.log2 < 9000 := by
  rw [Int.natAbs_natCast]
  by_cases e : n = 0
  · rw [e]; decide
  · have : n.log2 < 17 := (Nat.log2_lt e).mpr (by omega)
    omega
theorem unit_q {a b : Int} (ha : a.natAbs = 1) (hb : 0 < b) : PyData.tuple [.int a, .int b] = qD (Rat.divInt a b) := by
  have g : b.gcd a = 1 := by
    unfold Int.gcd
    rw [ha, Nat.gcd_one_right]
  unfold qD
  rw [Rat.num_divInt, Rat.den_divInt, if_neg (by omega), g, Nat.div_one, Int.sign_eq_one_of_pos hb, Int.one_mul, show ((1 : Nat) : Int) = 1 from rfl, Int.ediv_one, show ((b.natAbs : Nat) : Int) = b by omega]
section
variable {h : Hs} {E : DL.EP} {Q : Val → Hs → Prop} {n m b : Nat} {ls : List Ln} {qs : List Rat}
theorem places_ok {l : Ln} {ρ : DL.Env} (hρ : ρ[5]? = some (some (.d (lineD l)))) (hl : l.1.length ≤ 4000) (h9 : 9 < ρ.length) : compR [] (gN 9) (tVal (eOp dNe (eIx (eIx (eVar 5) (eC (.int 0))) (eVar 9)) (eC (.int 0)))) (eVar 9) ρ (rng 0 l.1.length) h [] = some (((List.range l.1.length).filter fun j => !decide (l.1[j]? = some 0)).map fun j : Nat => PyData.int (j : Int), h) := by
  rw [rng0]
  have i0 : dIx (lineD l) (.int 0) = some (.tuple (l.1.map .int)) := rfl
  have z := compR_fm (h := h) (g := []) (gt := gN 9) (ft := tVal (eOp dNe (eIx (eIx (eVar 5) (eC (.int 0))) (eVar 9)) (eC (.int 0)))) (fe := eVar 9) (ρ := ρ) (acc := []) (fun j : Nat => PyData.int (j : Int)) (fun j => PyData.int (j : Int)) (fun j => !decide (l.1[j]? = some 0)) (l := List.range l.1.length) (Chk_nil _) (sz_le (by simp; omega)) (fun j hj => by
    have lt : j < l.1.length := by simpa using hj
    have r5 : (ρ.set 9 (some (.d (.int (j : Int)))))[5]? = some (some (.d (lineD l))) := by rw [List.getElem?_set_ne (by omega)]; exact hρ
    have r9 : (ρ.set 9 (some (.d (.int (j : Int)))))[9]? = some (some (.d (.int (j : Int)))) := by rw [List.getElem?_set_self h9]
    have e2 : atI (l.1.map PyData.int) (j : Int) = some (.int l.1[j]) := by rw [DL.atI_nat]; simp [lt]
    simp [r5, r9, i0, e2, dNe_int, lt])
  rw [z, List.nil_append]
theorem fr_fold {K : Nat} {D : Int} (h0 : D ≠ 0) : ∀ (xs : List Rat) (a : Rat) (j : Nat), (∀ x ∈ xs, Fr K D x) → Fr (K + j) D a → Fr (K + j + xs.length) D (xs.foldl (· + ·) a)
  | [], a, j, _, ha => ha
  | x :: xs, a, j, hx, ha => by
    have z := fr_fold h0 xs (a + x) (j + 1) (fun y m => hx y (List.mem_cons_of_mem _ m)) ((ha.add (hx x List.mem_cons_self) h0).mono (by omega))
    exact z.mono (by rw [List.length_cons]; omega)
theorem worth_fr {m B : Nat} {D : Int} {l : Ln} {qs : List Rat} (hs : ∀ x ∈ rowL l, Lt2 m x) (h0 : D ≠ 0) (hD : Lt2 B D) (hq : ∀ q ∈ qs, Fr B D q) : Fr (m + B + qs.length) D (worthq l qs) := by
  have hl : (l.1.zip qs).length ≤ qs.length := by rw [List.length_zip]; exact Nat.min_le_right _ _
  refine (fr_fold (K := m + B) h0 _ _ 0 (fun x hx => ?_) ?_).mono (by rw [List.length_map]; omega)
  · obtain ⟨p, hp, rfl⟩ := List.mem_map.mp hx
    obtain ⟨h1, h2⟩ := List.of_mem_zip hp
    exact Fr.imul (hs _ (List.mem_append_left _ h1)) (hq _ h2) h0
  · exact (Fr.int (hs _ (by simp [rowL])) h0 hD).neg
theorem fr_divi {B : Nat} {D x : Int} {q : Rat} (f : Fr B D q) (h0 : D ≠ 0) (hx : x ≠ 0) : Fr B (D * x) (q / (x : Rat)) := by
  obtain ⟨k, rfl, hk⟩ := f
  refine ⟨k, ?_, hk⟩
  have a := ic0 h0
  have b := ic0 hx
  rw [Rat.intCast_mul]
  grind
theorem rest_div (r : Rat) (x : Int) (hx : x ≠ 0) : Rat.divInt (-r.num) (r.den * x) = -(r / (x : Rat)) := by
  have a : (r.den : Rat) ≠ 0 := by have := r.den_nz; exact_mod_cast this
  have b := ic0 hx
  have e : r = (r.num : Rat) / (r.den : Rat) := by
    have := Rat.num_divInt_den r
    rw [Rat.divInt_eq_div] at this
    exact_mod_cast this.symm
  rw [Rat.divInt_eq_div, Rat.intCast_mul, Rat.intCast_neg]
  have e2 : ((r.den : Int) : Rat) = (r.den : Rat) := rfl
  rw [e2]
  generalize (r.num : Rat) = u at e
  generalize (r.den : Rat) = v at e a
  rw [e]
  grind
theorem spot_one {n a : Nat} {D x : Int} {q0 : List Rat} {l : Ln} (hn : n ≤ 3) (l1 : q0.length = n) (hs : ∀ x ∈ rowL l, Lt2 4 x) (alt : a < q0.length) (hx : x ≠ 0) (bx : Lt2 4 x) (h0 : D ≠ 0) (h1 : Lt2 421 D) (h2 : ∀ q ∈ q0, Fr 421 D q) :
    D * x ≠ 0 ∧ Lt2 425 (D * x) ∧ ∀ q ∈ q0.set a (q0[a] + Rat.divInt (-(worthq l q0).num) ((worthq l q0).den * x)), Fr 430 (D * x) q := by
  refine ⟨Int.mul_ne_zero h0 hx, h1.mul bx, fun q hq => ?_⟩
  have w := worth_fr hs h0 h1 h2
  have all : ∀ q ∈ q0, Fr 425 (D * x) q := fun q hq => (h2 q hq).scale h0 hx bx
  rcases List.mem_or_eq_of_mem_set hq with hq | hq
  · exact (all q hq).mono (by omega)
  · rw [hq, rest_div _ _ hx]
    exact ((all _ (List.getElem_mem alt)).add (Fr.neg (fr_divi w h0 hx)) (Int.mul_ne_zero h0 hx)).mono (by omega)
end

end W_k28

set_option maxHeartbeats 400000
namespace W_k28
open PySem PySem.Spec PyProof.Rows L2 DL
/-! ### wishes drawn -/
theorem okD_wish (ws : List (Option Int)) (hl : ws.length ≤ 4000) : okD 2 (.list (ws.map wD)) := by
  refine ⟨by simp; omega, fun x hx => ?_⟩
  obtain ⟨w, _, rfl⟩ := List.mem_map.mp hx
  cases w <;> exact True.intro
theorem WishOk.snoc {ws : List (Option Int)} (k : WishOk ws) {w : Option Int} (hw : ∀ i, w = some i → i = -1 ∨ i = 0 ∨ i = 1) : WishOk (ws ++ [w]) := fun v hv => by
  rcases List.mem_append.mp hv with hv | hv
  · exact k v hv
  · have : v = w := by simpa using hv
    rw [this]; exact hw
theorem WishOk.set {ws : List (Option Int)} (k : WishOk ws) {w : Option Int} (j : Nat) (hw : ∀ i, w = some i → i = -1 ∨ i = 0 ∨ i = 1) : WishOk (ws.set j w) := fun v hv => by
  rcases List.mem_or_eq_of_mem_set hv with hv | hv
  · exact k v hv
  · rw [hv]; exact hw
section
variable {h : Hs} {E : DL.EP} {Q : Val → Hs → Prop} {n m b : Nat} {ls : List Ln} {qs : List Rat}
def Signs (cells : List Int) : Prop := ∀ c ∈ cells, c = -1 ∨ c = 0 ∨ c = 1
theorem other_two {c t : Int} {cells : List Int} {a : Nat} (hc : c = -1 ∨ c = 0 ∨ c = 1) (t0 : 0 ≤ t) (t1 : t < 2) (ρ : DL.Env) (hc5 : 5 < ρ.length) (r1 : ρ[1]? = some (some (.d (.tuple (cells.map .int))))) (r4 : ρ[4]? = some (some (.d (.int (a : Int))))) (ix : atI (cells.map PyData.int) (a : Int) = some (.int c)) :
    ∃ w, compR [] (gN 5) (tVal (eOp dNe (eVar 5) (eIx (eVar 1) (eVar 4)))) (eVar 5) ρ [.int (-1), .int 0, .int 1] h [] = some (([-1, 0, 1].filter fun x : Int => !decide (x = c)).map .int, h) ∧ atI (([-1, 0, 1].filter fun x : Int => !decide (x = c)).map PyData.int) t = some (.int w) ∧ (w = -1 ∨ w = 0 ∨ w = 1) := by
  have cm := compR_fm (h := h) (g := []) (gt := gN 5) (ft := tVal (eOp dNe (eVar 5) (eIx (eVar 1) (eVar 4)))) (fe := eVar 5) (ρ := ρ) (acc := []) (fun p : Int => .int p) (fun p => .int p) (fun x => !decide (x = c)) (l := [-1, 0, 1]) (Chk_nil _) (sz_le (by simp)) (fun p hp => by
    have r5 : (ρ.set 5 (some (.d (.int p))))[5]? = some (some (.d (.int p))) := by rw [List.getElem?_set_self hc5]
    simp [r5, r1, r4, ix, dNe_int])
  rw [List.nil_append] at cm
  have tt : t = 0 ∨ t = 1 := by omega
  rcases hc with rfl | rfl | rfl <;> rcases tt with rfl | rfl
  · exact ⟨0, cm, rfl, .inr (.inl rfl)⟩
  · exact ⟨1, cm, rfl, .inr (.inr rfl)⟩
  · exact ⟨-1, cm, rfl, .inl rfl⟩
  · exact ⟨1, cm, rfl, .inr (.inr rfl)⟩
  · exact ⟨-1, cm, rfl, .inl rfl⟩
  · exact ⟨0, cm, rfl, .inr (.inl rfl)⟩
end

end W_k28

set_option maxHeartbeats 400000
namespace W_k28
open PySem PySem.Spec PyProof.Rows L2 DL
/-! ### questions drawn -/
theorem wpS_cut {P : Po} {g1 g2 : MS} {ρ : DL.Env} {h : Hs} (Mid : DL.Env → Hs → Prop) (w : DL.wpS (g1 ρ h) ⟨Mid, fun _ _ => False, fun _ _ _ _ => False, fun _ _ => False, fun _ _ => False⟩) (k : ∀ ρ' h', Mid ρ' h' → DL.wpS (g2 ρ' h') P) : DL.wpS (sSeq g1 g2 ρ h) P := by
  rw [wpS_sSeq]
  exact DL.wpS_mono w k (fun _ _ z => z.elim) (fun _ _ _ _ z => z.elim) (fun _ _ z => z.elim) (fun _ _ z => z.elim)
theorem intsOf_map (l : List Int) : intsOf (l.map .int) = some l := by
  induction l with
  | nil => rfl
  | cons x l ih => simp only [List.map_cons, intsOf, ih, Option.map_some]
theorem dMax_ints {l : List Int} (hl : l ≠ []) : dMax (.list (l.map .int)) = some (.int (maxL l)) := by
  unfold dMax
  simp only [intsOf_map]
  first
    | rfl
    | (cases l with
       | nil => exact absurd rfl hl
       | cons _ _ => rfl)
theorem maxL_ge {l : List Int} {x : Int} (m : x ∈ l) : x ≤ maxL l := (foldmax_spec l _).2.2 x m
theorem flatten_one (n : Nat) (x : D) : (List.replicate n [x]).flatten = List.replicate n x := by
  induction n with
  | zero => rfl
  | succ n ih => rw [List.replicate_succ, List.flatten_cons, ih]; rfl
theorem map_zeros (n : Nat) : List.replicate n (PyData.int 0) = (List.replicate n (0 : Int)).map .int := by simp
section
variable {h : Hs} {E : DL.EP} {Q : Val → Hs → Prop} {n : Nat} {ls : List Ln}
/-- the sides and the wall so far -/
def LMid (i n p : Nat) (h : Hs) (ls : List Ln) (way : Int) (ok : List Int → Int → Prop) (ρ : DL.Env) (h' : Hs) : Prop := ∃ (s : List Int) (w far : Int) (sp : Nat) (x7 x8 x9 : Option Val),
  ρ = [some (.r i), some (.d (.int n)), some (.r p), some (.d (.int far)), some (.d (.int way)), some (.r sp), some (.d (.int w)), x7, x8, x9, none, none, none] ∧ s.length = n ∧ h'[sp]? = some (.lst (s.map .int)) ∧ Dl i h h' ∧ h'[p]? = some (.lst (ls.map lineD)) ∧ ok s w
end

end W_k28

set_option maxHeartbeats 400000
namespace W_k28
open PySem PySem.Spec PyProof.Rows L2 DL
/-! ### books drawn -/
def keyL (l : Ln) : List Key := (ground (rowL l)).map .inl
def pairL (l : Ln) : D × D := (.tuple ((ground (rowL l)).map .int), .bool true)
theorem keyL_inj {a b : Ln} : keyL a = keyL b ↔ ground (rowL a) = ground (rowL b) := List.map_inj_right (fun x y z => Sum.inl.inj z)
theorem look_none {l : Ln} : ∀ {ls : List Ln}, (∀ x ∈ ls, ground (rowL x) ≠ ground (rowL l)) → lookBy keysE (ls.map pairL) (keyL l) = none
  | [], _ => rfl
  | x :: ls, hx => by
    have ih := look_none (ls := ls) fun y m => hx y (List.mem_cons_of_mem _ m)
    have ne : ¬ keysE (pairL x).1 = some (keyL l) := fun e => by
      have e2 : some (keyL x) = some (keyL l) := (keysE_ints _).symm.trans e
      exact hx x List.mem_cons_self (keyL_inj.mp (Option.some.inj e2))
    unfold lookBy at *
    rw [List.map_cons, List.find?_cons, decide_eq_false ne]
    exact ih
theorem look_some {l : Ln} : ∀ {ls : List Ln}, (∃ x ∈ ls, ground (rowL x) = ground (rowL l)) → (lookBy keysE (ls.map pairL) (keyL l)).isSome = true
  | [], ⟨x, m, _⟩ => by cases m
  | y :: ls, ⟨x, m, e⟩ => by
    unfold lookBy
    rw [List.map_cons, List.find?_cons]
    by_cases ey : keysE (pairL y).1 = some (keyL l)
    · rw [decide_eq_true ey]; rfl
    · rw [decide_eq_false ey]
      refine look_some (ls := ls) ⟨x, ?_, e⟩
      rcases List.mem_cons.mp m with rfl | m
      · exact absurd ((keysE_ints _).trans (congrArg some (keyL_inj.mpr e))) ey
      · exact m
/-- the lines so far, at pl, and what they stand for, at pl + 1 -/
def PMid (i n pl : Nat) (h : Hs) (j : Nat) (ρ : DL.Env) (h' : Hs) : Prop := ∃ (ls : List Ln) (x5 x6 : Option Val), ρ = [some (.r i), some (.d (.int 6)), some (.d (.int (1 + (n : Int)))), some (.r pl), some (.r (pl + 1)), x5, x6] ∧ Dl i h h' ∧ h'[pl]? = some (.lst (ls.map lineD)) ∧ h'[pl + 1]? = some (.dic true (ls.map pairL)) ∧ (∀ l ∈ ls, LineOk (1 + n) 4 l) ∧ (ls.map fun l => ground (rowL l)).Nodup ∧ ls.length ≤ j
section
variable {h : Hs} {E : DL.EP} {Q : Val → Hs → Prop} {n : Nat} {ls : List Ln}
end

end W_k28

set_option maxHeartbeats 400000
namespace W_k28
open PySem PySem.Spec PyProof.Rows L2 DL
/-! ### one page tried, all -/
theorem okD_ints (s : List Int) (k : Nat) (hl : s.length ≤ 4096) : okD (k + 2) (intsD s) := by
  refine ⟨by simpa using hl, fun x hx => ?_⟩
  obtain ⟨i, _, rfl⟩ := List.mem_map.mp hx
  exact True.intro
theorem okD_two {k : Nat} {a b : D} (ha : okD k a) (hb : okD k b) : okD (k + 1) (.list [a, b]) := ⟨by simp, fun x hx => by
  have : x = a ∨ x = b := by simpa using hx
  rcases this with rfl | rfl
  · exact ha
  · exact hb⟩
theorem rowI_len (ls : List Ln) (qs : List Rat) : (rowI ls qs).length = ls.length := by simp [rowI]
theorem rowI_get {ls : List Ln} {qs : List Rat} {i : Nat} (hi : i < ls.length) : atI ((rowI ls qs).map PyData.int) (i : Int) = some (.int (ansq ls[i] qs)) := by
  rw [DL.atI_nat]
  simp [rowI, hi]
theorem sign_cases (q : Rat) : q.num.sign = -1 ∨ q.num.sign = 0 ∨ q.num.sign = 1 := by
  rcases Int.lt_trichotomy q.num 0 with z | z | z
  · exact .inl (Int.sign_eq_neg_one_of_neg z)
  · exact .inr (.inl (by rw [z]; rfl))
  · exact .inr (.inr (Int.sign_eq_one_of_pos z))
theorem rowI_signs (ls : List Ln) (qs : List Rat) : Signs (rowI ls qs) := fun c hc => by
  obtain ⟨l, _, rfl⟩ := List.mem_map.mp hc
  exact sign_cases _
theorem rowI_turn {ls : List Ln} {qs : List Rat} {i : Nat} (hi : i < ls.length) : rowI (ls.set i (turnL ls[i])) qs = (rowI ls qs).set i (-ansq ls[i] qs) := by
  unfold rowI
  rw [List.map_set, ansq_turn]
theorem fitB_none (as : List Int) : ∀ k : Nat, fitB as (List.replicate k none) = true := fun k => by
  unfold fitB
  rw [List.all_eq_true]
  intro p hp
  have m := (List.of_mem_zip hp).2
  have := List.eq_of_mem_replicate m
  simp [fit1, this]
theorem flatten_none (k : Nat) : (List.replicate k [PyData.none]).flatten = (List.replicate k (none : Option Int)).map wD := by
  induction k with
  | zero => rfl
  | succ k ih =>
    rw [List.replicate_succ, List.flatten_cons, ih, List.replicate_succ]; rfl

end W_k28

set_option maxHeartbeats 400000
namespace W_k28
open PySem PySem.Spec PyProof.Rows L2 DL
-- at 05
/-! ### points between two points -/
def btwq (qs ts : List Rat) (p : Rat) : List Rat := (qs.zip ts).map fun x => x.1 + p * (x.2 - x.1)
theorem btw_len {qs ts : List Rat} {p : Rat} (h : ts.length = qs.length) : (btwq qs ts p).length = qs.length := by simp [btwq, h]
section
variable {h : Hs} {n m b : Nat} {ls : List Ln} {qs ts : List Rat} {p : Rat}
theorem zip_bd {b c : Nat} (hq : ∀ q ∈ qs, Bd b q) (ht : ∀ q ∈ ts, Bd c q) {x : Rat × Rat} (hx : x ∈ qs.zip ts) : Bd b x.1 ∧ Bd c x.2 := by
  obtain ⟨h1, h2⟩ := List.of_mem_zip hx
  exact ⟨hq _ h1, ht _ h2⟩
/-- a row put ahead of another -/
def aheadI (s t : List Int) : List Int := (s.zip t).map fun x => if x.1 ≠ 0 then x.1 else x.2
end
/-! ### the law's own points between -/
section
variable {h : Hs} {E : DL.EP} {Q : Val → Hs → Prop} {n m b : Nat} {ls : List Ln} {qs ts : List Rat} {p : Rat}
theorem zip_take {α β : Type} (xs : List α) (ys : List β) (i : Nat) : (xs.zip ys).take i = (xs.take i).zip (ys.take i) := List.take_zipWith
theorem neg_q (q : Rat) : PyData.tuple [.int (-q.num), .int q.den] = qD (-q) := by simp [qD, Rat.neg_num, Rat.neg_den]
end

end W_k28

set_option maxHeartbeats 400000
namespace W_k28
open PySem PySem.Spec PyProof.Rows L2 DL
-- at 05
/-! ### dicts of what questions stand for -/
theorem dict_has {n m : Nat} {l : Ln} {ls : List Ln} (ol : LineOk n m l) (hx : ∃ x ∈ ls, ground (rowL x) = ground (rowL l)) : ∃ o, dGetD true (ls.map pairL) (.tuple ((ground (rowL l)).map .int)) = some (some o) := by
  have ki := keysI_ints (ground_con ol)
  have sm := look_some hx
  obtain ⟨o, ho⟩ := Option.isSome_iff_exists.mp sm
  refine ⟨o, ?_⟩
  unfold dGetD
  rw [if_pos rfl, ki]
  exact congrArg some ho
theorem dict_not {n m : Nat} {l : Ln} {ls : List Ln} (ol : LineOk n m l) (hx : ∀ x ∈ ls, ground (rowL x) ≠ ground (rowL l)) : dGetD true (ls.map pairL) (.tuple ((ground (rowL l)).map .int)) = some none := by
  have ki := keysI_ints (ground_con ol)
  unfold dGetD
  rw [if_pos rfl, ki]
  exact congrArg some (look_none hx)
theorem dict_put {n m : Nat} {l : Ln} {ls : List Ln} (ol : LineOk n m l) (hx : ∀ x ∈ ls, ground (rowL x) ≠ ground (rowL l)) (hl : ls.length ≤ 4000) : dPutD true (ls.map pairL) (.tuple ((ground (rowL l)).map .int)) (.bool true) = some ((ls ++ [l]).map pairL) := by
  have ki := keysI_ints (ground_con ol)
  unfold dPutD
  rw [if_pos (Nat.lt_of_le_of_lt (show (ls.map pairL).length ≤ 4000 by rw [List.length_map]; exact hl) (by rw [sizeLine_eq]; omega)), if_pos rfl, ki]
  refine congrArg some ?_
  show putBy keysE (ls.map pairL) (keyL l) _ _ = _
  rw [putBy_new]
  · simp [pairL]
  · intro p hp e
    obtain ⟨x, mx, rfl⟩ := List.mem_map.mp hp
    have e2 : some (keyL x) = some (keyL l) := (keysE_ints _).symm.trans e
    exact hx x mx (keyL_inj.mp (Option.some.inj e2))
theorem nodup_snoc {ls : List Ln} {l : Ln} (nd : (ls.map fun l => ground (rowL l)).Nodup) (hx : ∀ x ∈ ls, ground (rowL x) ≠ ground (rowL l)) : ((ls ++ [l]).map fun l => ground (rowL l)).Nodup := by
  rw [List.map_append, List.nodup_append]
  refine ⟨nd, by simp, fun a ha b hb => ?_⟩
  obtain ⟨x, mx, rfl⟩ := List.mem_map.mp ha
  have : b = ground (rowL l) := by simpa using hb
  rw [this]
  exact hx x mx
/-! ### shares -/
section
variable {h : Hs} {E : DL.EP} {Q : Val → Hs → Prop} {n m b : Nat} {ls : List Ln} {qs ts : List Rat} {p : Rat}
end

end W_k28

set_option maxHeartbeats 400000
namespace W_k28
open PySem PySem.Spec PyProof.Rows L2 DL
-- at 06
/-! ### what questions stand for, times an integer -/
theorem gcdL_mul (a : Int) (row : List Int) : gcdL (row.map (a * ·)) = a.natAbs * gcdL row := by
  have go : ∀ (row : List Int) (g : Nat), (row.map (a * ·)).foldl (fun g x => Nat.gcd g x.natAbs) (a.natAbs * g) = a.natAbs * row.foldl (fun g x => Nat.gcd g x.natAbs) g := by
    intro row
    induction row with
    | nil => exact fun g => rfl
    | cons x row ih =>
      intro g
      rw [List.map_cons, List.foldl_cons, List.foldl_cons, Int.natAbs_mul, Nat.gcd_mul_left, ih]
  exact go row 0
theorem lead_mul {a : Int} (ha : a ≠ 0) (row : List Int) : lead (row.map (a * ·)) = a * lead row := by
  have e : (row.map (a * ·)).filter (fun x => decide (x ≠ 0)) = (row.filter fun x => decide (x ≠ 0)).map (a * ·) := by
    induction row with
    | nil => rfl
    | cons x row ih =>
      rw [List.map_cons, List.filter_cons, List.filter_cons, ih]
      by_cases hx : x = 0
      · simp [hx]
      · simp [hx, ha]
  unfold lead
  rw [e]
  cases row.filter fun x => decide (x ≠ 0) with
  | nil => simp
  | cons y r => rfl
theorem ground_mul {a : Int} (ha : a ≠ 0) {row : List Int} (h : ∃ x ∈ row, x ≠ 0) : ground (row.map (a * ·)) = ground row := by
  have pos : ∀ (a : Int), 0 < a → ground (row.map (a * ·)) = ground row := by
    intro a ha
    unfold ground
    rw [gcdL_mul, lead_mul (by omega)]
    have e : ∀ x : Int, (a * x) / ((a.natAbs * gcdL row : Nat) : Int) = x / (gcdL row : Int) := fun x => by
      rw [Int.natCast_mul, show ((a.natAbs : Nat) : Int) = a by omega, Int.mul_ediv_mul_of_pos _ _ ha]
    have c : 0 < a * lead row ↔ 0 < lead row := by
      constructor
      · intro h
        rcases Int.lt_trichotomy (lead row) 0 with z | z | z
        · have := Int.mul_neg_of_pos_of_neg ha z; omega
        · rw [z] at h; omega
        · exact z
      · exact Int.mul_pos ha
    simp only [List.map_map, Function.comp_def, e, c]
  rcases Int.lt_trichotomy a 0 with z | z | z
  · have p := pos (-a) (by omega)
    have n := ground_neg (row := row.map (-a * ·)) (by
      obtain ⟨x, hx, x0⟩ := h
      exact ⟨-a * x, List.mem_map_of_mem hx, Int.mul_ne_zero (by omega) x0⟩)
    rw [List.map_map] at n
    rw [← p, ← n]
    exact congrArg ground (List.map_congr_left fun x _ => by show a * x = -(-a * x); rw [Int.neg_mul, Int.neg_neg])
  · exact absurd z ha
  · exact pos a z
theorem ground_fac {row : List Int} (h : ∃ x ∈ row, x ≠ 0) : ∃ c : Int, c ≠ 0 ∧ row = (ground row).map (c * ·) := by
  have gp := gcdL_pos h
  have dd : ∀ x ∈ row, (gcdL row : Int) ∣ x := fun x m => gcdL_dvd m
  unfold ground
  by_cases hl : 0 < lead row
  · refine ⟨(gcdL row : Int), by omega, ?_⟩
    rw [if_pos hl, List.map_map]
    conv => lhs; rw [← List.map_id row]
    exact List.map_congr_left fun x m => (Int.mul_ediv_cancel' (dd x m)).symm
  · refine ⟨-(gcdL row : Int), by omega, ?_⟩
    rw [if_neg hl, List.map_map]
    conv => lhs; rw [← List.map_id row]
    refine List.map_congr_left fun x m => ?_
    have := Int.mul_ediv_cancel' (dd x m)
    show x = -(gcdL row : Int) * -(x / (gcdL row : Int))
    rw [Int.neg_mul_neg, this]
theorem ground_iff {r s : List Int} (hr : ∃ x ∈ r, x ≠ 0) (hs : ∃ x ∈ s, x ≠ 0) : ground r = ground s ↔ ∃ a b : Int, a ≠ 0 ∧ b ≠ 0 ∧ r.map (a * ·) = s.map (b * ·) := by
  constructor
  · intro e
    obtain ⟨c, c0, ec⟩ := ground_fac hr
    obtain ⟨d, d0, ed⟩ := ground_fac hs
    refine ⟨d, c, d0, c0, ?_⟩
    rw [← e] at ed
    generalize ground r = G at ec ed
    rw [ec, ed, List.map_map, List.map_map]
    refine List.map_congr_left fun x m => ?_
    show d * (c * x) = c * (d * x)
    rw [← Int.mul_assoc, Int.mul_comm d c, Int.mul_assoc]
  · rintro ⟨a, b, a0, b0, e⟩
    rw [← ground_mul a0 hr, e, ground_mul b0 hs]
/-! ### questions moved -/
def vq (l : Ln) (qs : List Rat) : Rat := (l.2 : Rat) + dotq l.1 qs
def mrow (qs : List Rat) (l : Ln) : List Int := l.1.map (· * ((vq l qs).den : Int)) ++ [(vq l qs).num]
def movedL (qs : List Rat) (l : Ln) : Ln := (l.1.map fun x => x * ((vq l qs).den : Int) / (gcdL (mrow qs l) : Int), (vq l qs).num / (gcdL (mrow qs l) : Int))
theorem mrow_ne {n m : Nat} {l : Ln} (qs : List Rat) (k : LineOk n m l) : ∃ x ∈ mrow qs l, x ≠ 0 := by
  obtain ⟨x, hx, x0⟩ := k.some_
  exact ⟨x * ((vq l qs).den : Int), List.mem_append_left _ (List.mem_map_of_mem hx), Int.mul_ne_zero x0 (dn _)⟩
theorem rowL_moved (qs : List Rat) (l : Ln) : rowL (movedL qs l) = (mrow qs l).map (· / (gcdL (mrow qs l) : Int)) := by
  simp [rowL, movedL, mrow, List.map_map, Function.comp_def]
theorem ground_div {r : List Int} (h : ∃ x ∈ r, x ≠ 0) : ground (r.map (· / (gcdL r : Int))) = ground r := by
  have gp := gcdL_pos h
  have g0 : (gcdL r : Int) ≠ 0 := by omega
  have dd : ∀ x ∈ r, (gcdL r : Int) ∣ x := fun x m => gcdL_dvd m
  have e : (r.map (· / (gcdL r : Int))).map ((gcdL r : Int) * ·) = r := by
    rw [List.map_map]
    conv => rhs; rw [← List.map_id r]
    exact List.map_congr_left fun x m => Int.mul_ediv_cancel' (dd x m)
  have ne : ∃ x ∈ r.map (· / (gcdL r : Int)), x ≠ 0 := by
    obtain ⟨x, hx, x0⟩ := h
    exact ⟨_, List.mem_map_of_mem hx, (div_ne (dd x hx) gp).mpr x0⟩
  have := ground_mul g0 ne
  rw [e] at this
  exact this.symm
theorem dot_scale (f : Int → Int) (c : Rat) : ∀ (s : List Int) (qs : List Rat), (∀ x ∈ s, ((f x : Int) : Rat) = c * (x : Rat)) → dotq (s.map f) qs = c * dotq s qs
  | [], qs, _ => by simp [dotq, qsum]
  | x :: s, [], _ => by simp [dotq, qsum]
  | x :: s, q :: qs, h => by
    have ih := dot_scale f c s qs fun y m => h y (List.mem_cons_of_mem _ m)
    have hx := h x List.mem_cons_self
    unfold dotq at *
    rw [List.map_cons, List.zip_cons_cons, List.zip_cons_cons, List.map_cons, List.map_cons, qsum_cons, qsum_cons, ih, hx]
    generalize qsum ((s.zip qs).map fun p => (p.1 : Rat) * p.2) = a
    grind
theorem num_of (v : Rat) : (v.num : Rat) = ((v.den : Int) : Rat) * v := by
  have a := Rat.num_divInt_den v
  have b := ic0 (dn v)
  rw [Rat.divInt_eq_div] at a
  generalize (v.num : Rat) = x at *
  generalize ((v.den : Int) : Rat) = y at *
  rw [← a]
  grind
theorem moved_inj {n m k : Nat} {l l' : Ln} (qs : List Rat) (h : LineOk n m l) (h' : LineOk n k l') (e : ground (rowL (movedL qs l)) = ground (rowL (movedL qs l'))) : ground (rowL l) = ground (rowL l') := by
  rw [rowL_moved, rowL_moved, ground_div (mrow_ne qs h), ground_div (mrow_ne qs h')] at e
  obtain ⟨a, b, a0, b0, eq⟩ := (ground_iff (mrow_ne qs h) (mrow_ne qs h')).mp e
  unfold mrow at eq
  rw [List.map_append, List.map_append] at eq
  obtain ⟨e1, e2⟩ := List.append_inj' eq rfl
  rw [List.map_map, List.map_map] at e1
  simp at e2
  have d1 := dn (vq l qs)
  have d2 := dn (vq l' qs)
  have dA := Int.mul_ne_zero a0 d1
  have dB := Int.mul_ne_zero b0 d2
  refine (ground_iff h.row h'.row).mpr ⟨a * ((vq l qs).den : Int), b * ((vq l' qs).den : Int), dA, dB, ?_⟩
  have es : l.1.map ((a * ((vq l qs).den : Int)) * ·) = l'.1.map ((b * ((vq l' qs).den : Int)) * ·) := by
    have q1 : l.1.map ((a * ·) ∘ (· * ((vq l qs).den : Int))) = l.1.map ((a * ((vq l qs).den : Int)) * ·) := List.map_congr_left fun x _ => by
      show a * (x * _) = a * _ * x
      rw [Int.mul_comm x, Int.mul_assoc]
    have q2 : l'.1.map ((b * ·) ∘ (· * ((vq l' qs).den : Int))) = l'.1.map ((b * ((vq l' qs).den : Int)) * ·) := List.map_congr_left fun x _ => by
      show b * (x * _) = b * _ * x
      rw [Int.mul_comm x, Int.mul_assoc]
    rw [← q1, ← q2]
    exact e1
  have t1 := dot_scale ((a * ((vq l qs).den : Int)) * ·) ((a * ((vq l qs).den : Int) : Int) : Rat) l.1 qs (fun x _ => Rat.intCast_mul _ _)
  have t2 := dot_scale ((b * ((vq l' qs).den : Int)) * ·) ((b * ((vq l' qs).den : Int) : Int) : Rat) l'.1 qs (fun x _ => Rat.intCast_mul _ _)
  rw [es] at t1
  have t3 := t1.symm.trans t2
  have v1 := num_of (vq l qs)
  have v2 := num_of (vq l' qs)
  have e2' : (a : Rat) * ((vq l qs).num : Rat) = (b : Rat) * ((vq l' qs).num : Rat) := by rw [← Rat.intCast_mul, ← Rat.intCast_mul, e2]
  have w1 : vq l qs = (l.2 : Rat) + dotq l.1 qs := rfl
  have w2 : vq l' qs = (l'.2 : Rat) + dotq l'.1 qs := rfl
  have ew : a * ((vq l qs).den : Int) * l.2 = b * ((vq l' qs).den : Int) * l'.2 := by
    apply Rat.intCast_inj.mp
    simp only [Rat.intCast_mul] at t3 ⊢
    rw [v1, v2] at e2'
    generalize ((vq l qs).den : Int) = x at *
    generalize ((vq l' qs).den : Int) = y at *
    rw [w1, w2] at e2'
    generalize dotq l.1 qs = da at *
    generalize dotq l'.1 qs = db at *
    grind
  unfold rowL
  rw [List.map_append, List.map_append, es]
  simp [ew]
theorem sub_of_div {g x : Int} (hg : 0 < g) (hd : g ∣ x) : ((x / g : Int) : Rat) = (x : Rat) / (g : Rat) := by
  obtain ⟨k, rfl⟩ := hd
  have a := ic0 (show g ≠ 0 by omega)
  rw [Int.mul_ediv_cancel_left _ (by omega), Rat.intCast_mul]
  grind
theorem div_le_abs {g : Nat} {x : Int} {n : Nat} (h : Lt2 n x) : Lt2 n (x / (g : Int)) := by
  unfold Lt2 at *
  have := Int.natAbs_ediv_le_natAbs x (g : Int)
  omega
theorem moved_line {n m c : Nat} {l : Ln} {qs : List Rat} (k : LineOk n m l) (hv : Bd c (vq l qs)) : LineOk n (m + c) (movedL qs l) := by
  have gp := gcdL_pos (mrow_ne qs k)
  have dd : ∀ x ∈ mrow qs l, (gcdL (mrow qs l) : Int) ∣ x := fun x mm => gcdL_dvd mm
  refine ⟨by simp [movedL, k.len], ?_, ?_⟩
  · obtain ⟨x, hx, x0⟩ := k.some_
    have m1 : x * ((vq l qs).den : Int) ∈ mrow qs l := List.mem_append_left _ (List.mem_map_of_mem hx)
    exact ⟨_, List.mem_map_of_mem hx, (div_ne (dd _ m1) gp).mpr (Int.mul_ne_zero x0 (dn _))⟩
  · rw [rowL_moved]
    intro y hy
    obtain ⟨x, hx, rfl⟩ := List.mem_map.mp hy
    refine div_le_abs ?_
    rcases List.mem_append.mp hx with hx | hx
    · obtain ⟨z, hz, rfl⟩ := List.mem_map.mp hx
      exact (k.bits z (List.mem_append_left _ hz)).mul (Lt2.den hv)
    · have : x = (vq l qs).num := by simpa using hx
      rw [this]
      exact hv.1.mono (by omega)
theorem moved_page {n m c : Nat} {ls : List Ln} {qs : List Rat} (k : PageOk n m ls) (hv : ∀ l ∈ ls, Bd c (vq l qs)) (hc : m + c ≤ 4000) : PageOk n (m + c) (ls.map (movedL qs)) := by
  refine ⟨k.pos, k.le, by simpa using k.many, fun l hl => ?_, ?_, hc⟩
  · obtain ⟨x, hx, rfl⟩ := List.mem_map.mp hl
    exact moved_line (k.line x hx) (hv x hx)
  · have nd := k.nodup
    unfold List.Nodup at *
    rw [List.pairwise_map] at nd
    rw [List.pairwise_map, List.pairwise_map]
    exact nd.imp_of_mem fun ha hb hne e => hne (moved_inj qs (k.line _ ha) (k.line _ hb) e)
/-- the points moved along -/
def addq (xs qs : List Rat) : List Rat := (xs.zip qs).map fun x => x.1 + x.2
theorem dot_add : ∀ (s : List Int) (xs qs : List Rat), xs.length = qs.length → dotq s (addq xs qs) = dotq s xs + dotq s qs
  | [], xs, qs, _ => by simp [dotq, qsum]; grind
  | _ :: _, [], [], _ => by simp [dotq, addq, qsum]; grind
  | x :: s, q :: qs, t :: ts, h => by
    have ih := dot_add s qs ts (by simpa using h)
    unfold dotq addq at *
    simp only [List.zip_cons_cons, List.map_cons, qsum_cons] at *
    rw [ih]
    generalize qsum ((s.zip qs).map fun p => (p.1 : Rat) * p.2) = a
    generalize qsum ((s.zip ts).map fun p => (p.1 : Rat) * p.2) = b
    grind
  | _ :: _, [], _ :: _, h => by simp at h
  | _ :: _, _ :: _, [], h => by simp at h
theorem sign_mul_pos {c q : Rat} (hc : 0 < c) : (c * q).num.sign = q.num.sign := by
  rcases (show 0 < q ∨ q < 0 ∨ q = 0 by grind) with h | h | h
  · rw [sign_pos h, sign_pos (Rat.mul_pos hc h)]
  · have := Rat.mul_pos hc (show 0 < -q by grind)
    rw [sign_neg' h, sign_neg' (show c * q < 0 by grind)]
  · rw [h, Rat.mul_zero]
theorem moved_ans {n m : Nat} {l : Ln} {xs qs : List Rat} (k : LineOk n m l) (hl : xs.length = qs.length) : ansq (movedL qs l) (addq xs qs) = ansq l xs := by
  have gp := gcdL_pos (mrow_ne qs k)
  have dd : ∀ x ∈ mrow qs l, (gcdL (mrow qs l) : Int) ∣ x := fun x mm => gcdL_dvd mm
  have g0 := ic0 (show (gcdL (mrow qs l) : Int) ≠ 0 by omega)
  have b0 := ic0 (dn (vq l qs))
  have hb : (0 : Rat) < ((vq l qs).den : Int) := by
    have := (vq l qs).den_pos
    exact Rat.intCast_pos.mpr (by omega)
  have hg : (0 : Rat) < ((gcdL (mrow qs l) : Int) : Rat) := Rat.intCast_pos.mpr (by omega)
  have sc := dot_scale (fun x => x * ((vq l qs).den : Int) / (gcdL (mrow qs l) : Int)) (((vq l qs).den : Int) / ((gcdL (mrow qs l) : Int) : Rat)) l.1 (addq xs qs) (fun x hx => by
    rw [sub_of_div (by omega) (dd _ (List.mem_append_left _ (List.mem_map_of_mem hx))), Rat.intCast_mul]
    grind)
  have nv := num_of (vq l qs)
  have wv : vq l qs = (l.2 : Rat) + dotq l.1 qs := rfl
  have e2 : (((vq l qs).num / (gcdL (mrow qs l) : Int) : Int) : Rat) = (((vq l qs).den : Int) / ((gcdL (mrow qs l) : Int) : Rat)) * ((l.2 : Rat) + dotq l.1 qs) := by
    rw [sub_of_div (by omega) (dd _ (List.mem_append_right _ (by simp))), nv, ← wv]
    generalize (((vq l qs).den : Int) : Rat) = x at *
    grind
  have hc : (0 : Rat) < ((vq l qs).den : Int) / ((gcdL (mrow qs l) : Int) : Rat) := by
    rw [Rat.div_def]
    exact Rat.mul_pos hb (Rat.inv_pos.mpr hg)
  unfold ansq
  show (dotq (l.1.map fun x => x * ((vq l qs).den : Int) / (gcdL (mrow qs l) : Int)) (addq xs qs) - (((vq l qs).num / (gcdL (mrow qs l) : Int) : Int) : Rat)).num.sign = _
  rw [sc, e2, dot_add _ _ _ hl, ← sign_mul_pos (c := ((vq l qs).den : Int) / ((gcdL (mrow qs l) : Int) : Rat)) (q := dotq l.1 xs - (l.2 : Rat)) hc]
  congr 2
  generalize (((vq l qs).den : Int) : Rat) / ((gcdL (mrow qs l) : Int) : Rat) = c
  grind
theorem moved_row {n m : Nat} {ls : List Ln} {xs qs : List Rat} (k : ∀ l ∈ ls, LineOk n m l) (hl : xs.length = qs.length) : rowI (ls.map (movedL qs)) (addq xs qs) = rowI ls xs := by
  unfold rowI
  rw [List.map_map]
  exact List.map_congr_left fun l hm => moved_ans (k l hm) hl

end W_k28

set_option maxHeartbeats 400000
namespace W_k28
open PySem PySem.Spec PyProof.Rows L2 DL
-- at 06
/-! ### books without a question, moved -/
theorem atI_last {α : Type} (xs : List α) (x : α) : atI (xs ++ [x]) (-1) = some x := by
  unfold atI ixN
  rw [if_neg (by decide), List.length_append, List.length_singleton, if_pos (by omega)]
  rw [show ((-1 : Int) + ((xs.length + 1 : Nat) : Int)).toNat = xs.length by omega]
  simp
theorem cut_last (xs : List D) (x : D) : DL.cutD (xs ++ [x]) none (some (-1)) = xs := by
  unfold DL.cutD
  have e : HT.sIx (xs ++ [x]).length (xs ++ [x]).length (some (-1)) = xs.length := by
    show (if (-1 : Int) < 0 then ((-1 : Int) + (((xs ++ [x]).length : Nat) : Int)).toNat else min (-1 : Int).toNat (xs ++ [x]).length) = _
    rw [if_pos (by decide), List.length_append, List.length_singleton]
    omega
  rw [e, HT.sIx_none, List.drop_zero, Nat.sub_zero, List.take_left]
def cutL {α : Type} (ls : List α) (i : Nat) : List α := ls.take i ++ ls.drop (i + 1)
theorem cutL_sub {α : Type} (ls : List α) (i : Nat) : (cutL ls i).Sublist ls := by
  unfold cutL
  rw [← List.eraseIdx_eq_take_drop_succ]
  exact List.eraseIdx_sublist _ _
theorem PageOk.cut {n m : Nat} {ls : List Ln} (k : PageOk n m ls) (i : Nat) : PageOk n m (cutL ls i) := by
  have s := cutL_sub ls i
  exact ⟨k.pos, k.le, Nat.le_trans s.length_le k.many, fun l hl => k.line l (s.subset hl), (s.map _).nodup k.nodup, k.bitsLe⟩
theorem dSl_lo (xs : List D) (i : Nat) : dSl (.tuple xs) none (some (i : Int)) = some (.tuple (xs.take i)) := by
  show some (PyData.tuple (DL.cutD _ none (some (i : Int)))) = _
  rw [cut_lo]
theorem dSl_hi (xs : List D) (i : Nat) : dSl (.tuple xs) (some ((i : Int) + 1)) none = some (.tuple (xs.drop (i + 1))) := by
  have := cut_hi xs (i + 1)
  show some (PyData.tuple (DL.cutD _ (some ((i : Int) + 1)) none)) = _
  rw [show ((i : Int) + 1) = ((i + 1 : Nat) : Int) by omega, this]
theorem dAdd_t {xs ys : List D} (hh : xs.length + ys.length ≤ 4000) : dAdd (.tuple xs) (.tuple ys) = some (.tuple (xs ++ ys)) := by
  show (if _ then _ else _) = _
  rw [if_pos (sz_le (by omega))]
theorem rowI_cut (ls : List Ln) (qs : List Rat) (i : Nat) : rowI (cutL ls i) qs = cutL (rowI ls qs) i := by simp [rowI, cutL, List.map_take, List.map_drop]
section
variable {h : Hs} {n m b c : Nat} {ls : List Ln} {qs ts : List Rat}
theorem question_of_row_ok {s : List Int} {w : Int} (hx : ∃ x ∈ s ++ [w], x ≠ 0) (hb : ∀ x ∈ s ++ [w], Lt2 b x) (hn : b ≤ 8000) (hl : s.length ≤ 4000) : F_question_of_row [.d (.tuple ((s ++ [w]).map .int))] h = .ok (.d (lineD (s.map (· / (gcdL (s ++ [w]) : Int)), w / (gcdL (s ++ [w]) : Int)))) h := by
  have dv := divided_ok (h := h) hx hb hn (by simp; omega)
  generalize gcdL (s ++ [w]) = g at *
  refine wpR_eq ?_
  unfold F_question_of_row G_question_of_row
  rw [wpR_mkF]
  refine ⟨rfl, ?_⟩
  have e : (((s ++ [w]).map (· / (g : Int))).map PyData.int) = (s.map fun x => PyData.int (x / (g : Int))) ++ [.int (w / (g : Int))] := by simp
  have sl : dSl (.tuple ((s.map fun x => PyData.int (x / (g : Int))) ++ [.int (w / (g : Int))])) none (some (-1)) = some (.tuple (s.map fun x => PyData.int (x / (g : Int)))) := by
    show some (PyData.tuple (DL.cutD _ none (some (-1)))) = _
    rw [cut_last]
  rw [e] at dv
  have e0 : (s ++ [w]).map PyData.int = s.map PyData.int ++ [.int w] := by simp
  rw [e0] at dv ⊢
  simp [startE, dv, sl, atI_last, sz_le, lineD]
theorem vq_bd {B : Nat} {l : Ln} (kb : ∀ x ∈ rowL l, Lt2 m x) (sd : SpotD B qs) : Bd (m + B + qs.length) (vq l qs) := by
  obtain ⟨D, h0, l0, aD⟩ := sd.ex
  have hs : ∀ x ∈ rowL (l.1, -l.2), Lt2 m x := fun x hx => by
    rcases List.mem_append.mp hx with hx | hx
    · exact kb x (List.mem_append_left _ hx)
    · have : x = -l.2 := by simpa using hx
      rw [this]
      exact (kb _ (by simp [rowL])).neg
  have w := worth_fr (l := (l.1, -l.2)) hs h0 l0 aD
  rw [worthq_eq] at w
  have e : dotq l.1 qs - ((-l.2 : Int) : Rat) = vq l qs := by
    unfold vq
    rw [Rat.intCast_neg]
    grind
  rw [e] at w
  exact (w.bd h0 l0).mono (by omega)
theorem add_bd {b c : Nat} (hq : ∀ q ∈ qs, Bd b q) (ht : ∀ q ∈ ts, Bd c q) : ∀ q ∈ addq qs ts, Bd (b + c + 1) q := by
  intro q hq'
  obtain ⟨x, hx, rfl⟩ := List.mem_map.mp hq'
  obtain ⟨h1, h2⟩ := List.of_mem_zip hx
  exact (hq _ h1).add (ht _ h2)
end

end W_k28

set_option maxHeartbeats 400000
namespace W_k28
open PySem PySem.Spec PyProof.Rows L2 DL
-- at 02
/-! ### the law's own moved books -/
theorem div_same {a b : Int} {r s : List Int} (ha : 0 < a) (hb : 0 < b) (hr : ∃ x ∈ r, x ≠ 0) (hs : ∃ x ∈ s, x ≠ 0) (e : r.map (a * ·) = s.map (b * ·)) : r.map (· / (gcdL r : Int)) = s.map (· / (gcdL s : Int)) := by
  have one : ∀ {a : Int} {r : List Int}, 0 < a → (∃ x ∈ r, x ≠ 0) → (r.map (a * ·)).map (· / (gcdL (r.map (a * ·)) : Int)) = r.map (· / (gcdL r : Int)) := by
    intro a r ha hr
    rw [gcdL_mul, List.map_map]
    refine List.map_congr_left fun x _ => ?_
    show a * x / ((a.natAbs * gcdL r : Nat) : Int) = _
    rw [Int.natCast_mul, show ((a.natAbs : Nat) : Int) = a by omega, Int.mul_ediv_mul_of_pos _ _ ha]
  rw [← one ha hr, e, one hb hs]
theorem rowL_inj {l l' : Ln} (h : rowL l = rowL l') : l = l' := by
  obtain ⟨s, w⟩ := l
  obtain ⟨s', w'⟩ := l'
  obtain ⟨h1, h2⟩ := List.append_inj' h rfl
  simp at h1 h2
  rw [h1, h2]
theorem dot_zero (s : List Int) : ∀ n : Nat, dotq s (List.replicate n 0) = 0 := by
  induction s with
  | nil => intro n; simp [dotq, qsum]
  | cons x s ih =>
    intro n
    cases n with
    | zero => simp [dotq, qsum]
    | succ n =>
      have := ih n
      unfold dotq at *
      rw [List.replicate_succ, List.zip_cons_cons, List.map_cons, qsum_cons, this]
      grind
theorem dot_negq (s : List Int) : ∀ qs : List Rat, dotq s (qs.map fun q => -q) = -dotq s qs := by
  induction s with
  | nil => intro qs; simp [dotq, qsum]
  | cons x s ih =>
    intro qs
    cases qs with
    | nil => simp [dotq, qsum]
    | cons q qs =>
      have := ih qs
      unfold dotq at *
      rw [List.map_cons, List.zip_cons_cons, List.zip_cons_cons, List.map_cons, List.map_cons, qsum_cons, qsum_cons, this]
      grind
theorem moved_back {n m : Nat} {l : Ln} {qs : List Rat} (k : LineOk n m l) (j : Nat) : movedL (qs.map fun q => -q) (movedL qs l) = movedL (List.replicate j 0) l := by
  have gp := gcdL_pos (mrow_ne qs k)
  have dd : ∀ x ∈ mrow qs l, (gcdL (mrow qs l) : Int) ∣ x := fun x mm => gcdL_dvd mm
  have g0 := ic0 (show (gcdL (mrow qs l) : Int) ≠ 0 by omega)
  have b0 := ic0 (dn (vq l qs))
  have nv := num_of (vq l qs)
  have wv : vq l qs = (l.2 : Rat) + dotq l.1 qs := rfl
  have bp : (0 : Int) < ((vq l qs).den : Int) := by have := (vq l qs).den_pos; omega
  have es : ∀ x ∈ l.1, ((x * ((vq l qs).den : Int) / (gcdL (mrow qs l) : Int) : Int) : Rat) = (((vq l qs).den : Int) / ((gcdL (mrow qs l) : Int) : Rat)) * (x : Rat) := fun x hx => by
    rw [sub_of_div (by omega) (dd _ (List.mem_append_left _ (List.mem_map_of_mem hx))), Rat.intCast_mul]
    grind
  have e2 : (((vq l qs).num / (gcdL (mrow qs l) : Int) : Int) : Rat) = (((vq l qs).den : Int) / ((gcdL (mrow qs l) : Int) : Rat)) * ((l.2 : Rat) + dotq l.1 qs) := by
    rw [sub_of_div (by omega) (dd _ (List.mem_append_right _ (by simp))), nv, ← wv]
    generalize (((vq l qs).den : Int) : Rat) = x at *
    grind
  have v2 : vq (movedL qs l) (qs.map fun q => -q) = (((vq l qs).den : Int) / ((gcdL (mrow qs l) : Int) : Rat)) * (l.2 : Rat) := by
    have sc := dot_scale _ _ l.1 (qs.map fun q => -q) es
    show (((vq l qs).num / (gcdL (mrow qs l) : Int) : Int) : Rat) + dotq (l.1.map fun x => x * ((vq l qs).den : Int) / (gcdL (mrow qs l) : Int)) _ = _
    rw [sc, e2, dot_negq]
    generalize (((vq l qs).den : Int) : Rat) / ((gcdL (mrow qs l) : Int) : Rat) = c
    grind
  have v3 : vq l (List.replicate j 0) = (l.2 : Rat) := by
    unfold vq
    rw [dot_zero]
    grind
  have n2 := num_of (vq (movedL qs l) (qs.map fun q => -q))
  have d2 := (vq (movedL qs l) (qs.map fun q => -q)).den_pos
  have k2 : ∃ x ∈ mrow (qs.map fun q => -q) (movedL qs l), x ≠ 0 := by
    obtain ⟨x, hx, x0⟩ := k.some_
    have m1 : x * ((vq l qs).den : Int) ∈ mrow qs l := List.mem_append_left _ (List.mem_map_of_mem hx)
    have y0 := (div_ne (dd _ m1) gp).mpr (Int.mul_ne_zero x0 (dn _))
    have y : x * ((vq l qs).den : Int) / (gcdL (mrow qs l) : Int) ∈ (movedL qs l).1 := List.mem_map_of_mem hx
    exact ⟨_, List.mem_append_left _ (List.mem_map_of_mem y), Int.mul_ne_zero y0 (dn _)⟩
  apply rowL_inj
  rw [rowL_moved, rowL_moved]
  have r3 : mrow (List.replicate j 0) l = rowL l := by
    unfold mrow rowL
    rw [v3]
    simp
  have hr := k.row
  rw [r3]
  refine div_same (a := (gcdL (mrow qs l) : Int)) (b := ((vq (movedL qs l) (qs.map fun q => -q)).den : Int) * ((vq l qs).den : Int)) (by omega) (Int.mul_pos (by omega) bp) k2 hr ?_
  have m2 : mrow (qs.map fun q => -q) (movedL qs l) = (l.1.map fun x => x * ((vq l qs).den : Int) / (gcdL (mrow qs l) : Int)).map (· * ((vq (movedL qs l) (qs.map fun q => -q)).den : Int)) ++ [(vq (movedL qs l) (qs.map fun q => -q)).num] := rfl
  have m1 : rowL l = l.1 ++ [l.2] := rfl
  rw [m2, m1]
  have dd1 : ∀ x ∈ l.1, (gcdL (mrow qs l) : Int) ∣ x * ((vq l qs).den : Int) := fun x hx => dd _ (List.mem_append_left _ (List.mem_map_of_mem hx))
  clear m2 m1 r3 k2 hr es e2 nv dd
  generalize gcdL (mrow qs l) = g at *
  generalize vq (movedL qs l) (qs.map fun q => -q) = v' at *
  rw [List.map_append, List.map_append, List.map_map]
  congr 1
  · rw [List.map_map]
    refine List.map_congr_left fun x hx => ?_
    show (g : Int) * (x * ((vq l qs).den : Int) / (g : Int) * _) = _
    rw [← Int.mul_assoc, Int.mul_ediv_cancel' (dd1 x hx)]
    generalize (v'.den : Int) = u
    generalize ((vq l qs).den : Int) = v
    rw [Int.mul_comm u v, Int.mul_comm x v, Int.mul_assoc, Int.mul_assoc, Int.mul_comm x u]
  · simp only [List.map_cons, List.map_nil, List.cons.injEq, and_true]
    apply Rat.intCast_inj.mp
    rw [Rat.intCast_mul, Rat.intCast_mul, Rat.intCast_mul, n2]
    generalize ((v'.den : Int) : Rat) = u at *
    rw [v2]
    generalize (((vq l qs).den : Int) : Rat) = x at *
    generalize ((g : Int) : Rat) = y at *
    clear n2 v2 v3 wv
    grind
section
variable {h : Hs} {E : DL.EP} {Q : Val → Hs → Prop} {n m b c : Nat} {ls : List Ln} {qs ts : List Rat}
end

end W_k28

set_option maxHeartbeats 400000
namespace W_k28
open PySem PySem.Spec PyProof.Rows L2 DL
-- at 02
/-! ### one page tried, all -/
theorem okD_page {n m : Nat} {ls : List Ln} (k : PageOk n m ls) (j : Nat) : okD (j + 5) (pageD n ls) := by
  have z := (okD_lines k.le k.many k.line).1
  refine ⟨by simp, fun x hx => ?_⟩
  have : x = .int n ∨ x = .tuple (ls.map lineD) := by simpa using hx
  rcases this with rfl | rfl
  · exact True.intro
  · have up : ∀ {i : Nat} {d : D}, okD i d → okD (i + 1) d := by
      intro i
      induction i with
      | zero => intro d e; exact e.elim
      | succ i ih =>
        intro d e
        match d, e with
        | .none, _ => exact True.intro
        | .int _, _ => exact True.intro
        | .bool _, _ => exact True.intro
        | .tuple xs, e => exact ⟨e.1, fun x hx => ih (e.2 x hx)⟩
        | .list xs, e => exact ⟨e.1, fun x hx => ih (e.2 x hx)⟩
    have go : ∀ j, okD (j + 4) (.tuple (ls.map lineD)) := fun j => by
      induction j with
      | zero => exact z
      | succ j ih => exact up ih
    exact go j
theorem okD_list {k : Nat} {xs : List D} (hl : xs.length ≤ 4096) (h : ∀ x ∈ xs, okD k x) : okD (k + 1) (.list xs) := ⟨hl, h⟩
theorem cut_m1 (xs : List D) : DL.cutD xs none (some (-1)) = xs.take (xs.length - 1) := by
  unfold DL.cutD
  have e : HT.sIx xs.length xs.length (some (-1)) = xs.length - 1 := by
    show (if (-1 : Int) < 0 then ((-1 : Int) + ((xs.length : Nat) : Int)).toNat else min (-1 : Int).toNat xs.length) = _
    rw [if_pos (by decide)]
    omega
  rw [e, HT.sIx_none, List.drop_zero, Nat.sub_zero]
theorem atI_m1 {α : Type} (xs : List α) (h : 0 < xs.length) : atI xs (-1) = some (xs[xs.length - 1]'(by omega)) := by
  unfold atI ixN
  rw [if_neg (by decide), if_pos (by omega)]
  have : ((-1 : Int) + (xs.length : Int)).toNat = xs.length - 1 := by omega
  rw [this]
  simp
section
variable {h : Hs} {E : DL.EP} {Q : Val → Hs → Prop} {n m b c : Nat} {ls : List Ln} {qs ts : List Rat}
theorem is_book_any (k : PageOk n m ls) : F_is_book [.d (pageD n ls)] h = .ok (.d (.bool true)) h := is_book_ok k
theorem turn_d (l : Ln) : PyData.tuple [.tuple (l.1.map fun x => .int (-x)), .int (-l.2)] = lineD (turnL l) := by simp [lineD, turnL, Function.comp_def]
end

end W_k28

set_option maxHeartbeats 400000
namespace W_k28
open PySem PySem.Spec PyProof.Rows L2 DL
-- at 28
/-! ### the law's own draws -/
def PotAt (i B : Nat) (h : Hs) : Prop := ∃ a b c : Int, h[i]? = some (.lst [.int a, .int b, .int c]) ∧ b.natAbs < 2 ^ 94 ∧ c.natAbs < 2 ^ B ∧ 0 ≤ c
structure Pk (i B : Nat) (h h' : Hs) : Prop where
  len : h'.length = h.length
  oth : ∀ j, j ≠ i → h'[j]? = h[j]?
  pot : PotAt i B h'
theorem PotAt.mono {i B C : Nat} {h : Hs} (p : PotAt i B h) (l : B ≤ C) : PotAt i C h := by
  obtain ⟨a, b, c, e, x, y, z⟩ := p
  exact ⟨a, b, c, e, x, Nat.lt_of_lt_of_le y (Nat.pow_le_pow_right (by omega) l), z⟩
theorem Pk.mono {i B C : Nat} {h h' : Hs} (p : Pk i B h h') (l : B ≤ C) : Pk i C h h' := ⟨p.len, p.oth, p.pot.mono l⟩
theorem Pk.trans {i B C : Nat} {h h1 h2 : Hs} (a : Pk i B h h1) (b : Pk i C h1 h2) : Pk i C h h2 := ⟨b.len.trans a.len, fun j n => (b.oth j n).trans (a.oth j n), b.pot⟩
theorem Pk.refl {i B : Nat} {h : Hs} (d : PotAt i B h) : Pk i B h h := ⟨rfl, fun _ _ => rfl, d⟩
theorem PotAt.lt {i B : Nat} {h : Hs} (d : PotAt i B h) : i < h.length := by
  obtain ⟨a, b, c, e, _⟩ := d
  exact (List.getElem?_eq_some_iff.mp e).1
theorem PotAt.app {i B : Nat} {h : Hs} (d : PotAt i B h) (r : Hs) : PotAt i B (h ++ r) := by
  have lt := d.lt
  obtain ⟨a, b, c, e, z⟩ := d
  exact ⟨a, b, c, by rw [List.getElem?_append_left lt]; exact e, z⟩
theorem PotAt.take {i n B : Nat} {h : Hs} (d : PotAt i B h) (hn : i < n) : PotAt i B (h.take n) := by
  obtain ⟨a, b, c, e, z⟩ := d
  exact ⟨a, b, c, by rw [List.getElem?_take_of_lt hn]; exact e, z⟩
/-- the store h and more, the pot at i of it drawn from -/
structure Pl (i B : Nat) (h h2 : Hs) : Prop where
  len : h.length ≤ h2.length
  oth : ∀ j, j < h.length → j ≠ i → h2[j]? = h[j]?
  pot : PotAt i B h2
theorem Pl.of {i B : Nat} {h h2 : Hs} (d : Pk i B h h2) : Pl i B h h2 := ⟨by rw [d.len]; exact Nat.le_refl _, fun j _ n => d.oth j n, d.pot⟩
theorem Pl.start {i B : Nat} {h : Hs} (d : PotAt i B h) : Pl i B h h := .of (.refl d)
theorem Pl.step {i B C : Nat} {h h2 h3 : Hs} (d : Pl i B h h2) (e : Pk i C h2 h3) : Pl i C h h3 := ⟨by rw [e.len]; exact d.len, fun j hj n => (e.oth j n).trans (d.oth j hj n), e.pot⟩
theorem Pl.mono {i B C : Nat} {h h2 : Hs} (d : Pl i B h h2) (l : B ≤ C) : Pl i C h h2 := ⟨d.len, d.oth, d.pot.mono l⟩
theorem Pl.push {i B : Nat} {h h2 : Hs} (d : Pl i B h h2) (r : Hs) : Pl i B h (h2 ++ r) := ⟨by rw [List.length_append]; have := d.len; omega, fun j hj n => by
  rw [List.getElem?_append_left (by have := d.len; omega)]
  exact d.oth j hj n, d.pot.app r⟩
theorem Pl.set {i k B : Nat} {h h2 : Hs} (d : Pl i B h h2) (hi : i < h.length) (hk : h.length ≤ k) (x : MO) : Pl i B h (h2.set k x) := ⟨by rw [List.length_set]; exact d.len, fun j hj n => by
  rw [List.getElem?_set_ne (by omega)]
  exact d.oth j hj n, by
  obtain ⟨a, b, c, e, z⟩ := d.pot
  exact ⟨a, b, c, by rw [List.getElem?_set_ne (by omega)]; exact e, z⟩⟩
theorem Pl.cut {i B : Nat} {h h2 : Hs} (d : Pl i B h h2) (hi : i < h.length) : Pk i B h (h2.take h.length) := ⟨by rw [List.length_take]; have := d.len; omega, fun j n => by
  by_cases hj : j < h.length
  · rw [List.getElem?_take_of_lt hj]
    exact d.oth j hj n
  · rw [List.getElem?_eq_none (by rw [List.length_take]; omega), List.getElem?_eq_none (by omega)], d.pot.take hi⟩
theorem ixN2 {n : Nat} : ixN (n + 3) 2 = some 2 := by
  have : (2 : Int) < ((n + 3 : Nat) : Int) := by omega
  unfold ixN
  rw [if_pos (by omega), if_pos this]; rfl
theorem atI_two {α : Type} (a b c : α) (as : List α) : atI (a :: b :: c :: as) 2 = some c := DL.atI_nat (a :: b :: c :: as) 2
theorem p18 : gPow 10 18 = some (.int 1000000000000000000) := (DL.gPow_small (by decide) (by decide) (by decide)).trans rfl
theorem p26 : gPow 10 26 = some (.int 100000000000000000000000000) := (DL.gPow_small (by decide) (by decide) (by decide)).trans rfl
theorem p27 : gPow 10 27 = some (.int 1000000000000000000000000000) := (DL.gPow_small (by decide) (by decide) (by decide)).trans rfl
theorem p28 : gPow 10 28 = some (.int 10000000000000000000000000000) := (DL.gPow_small (by decide) (by decide) (by decide)).trans rfl
theorem gPow_lt {n : Nat} {i : Int} {j : Int} (h : Lt2 n i) (h0 : 0 ≤ j) (h1 : j ≤ 1000) (hn : n < 100000) : gPow i j = some (.int (i ^ j.toNat)) := DL.gPow_small h0 h1 (Nat.lt_of_le_of_lt h.log hn)
section
variable {h : Hs} {E : DL.EP} {Q : Val → Hs → Prop}
theorem pick_wp {i B : Nat} {m : Int} (d : PotAt i B h) (hB : B ≤ 9000) (hm : 0 < m) (hb : m.natAbs.log2 < 9000) (q : ∀ t h', 0 ≤ t → t < m → Pk i (B + 1) h h' → Q (.d (.int t)) h') : wpR (F__law_pick [.r i, .d (.int m)] h) Q E := by
  have lt := d.lt
  obtain ⟨a, b, c, e, lb, lc, c0⟩ := d
  have m0 : m ≠ 0 := by omega
  have take_set : ∀ x : MO, (h.set i x).take h.length = h.set i x := fun x => List.take_of_length_le (by simp)
  have oth : ∀ (x : MO) (j : Nat), j ≠ i → (h.set i x)[j]? = h[j]? := fun x j n => List.getElem?_set_ne (Ne.symm n)
  have own : ∀ x : MO, (h.set i x)[i]? = some x := fun x => by rw [List.getElem?_set_self lt]
  unfold F__law_pick G__law_pick
  rw [wpR_mkF]
  refine ⟨rfl, ?_⟩
  by_cases ha : 0 < a
  · simp [startE, vS_r e, vD_r e, atI_zero, ha, gMod, gFdivN, m0, hb, ixN0, e, take_set]
    exact q _ _ (Int.fmod_nonneg_of_pos _ hm) (Int.fmod_lt_of_pos _ hm) ⟨by simp, oth _, _, _, _, own _, lb, Nat.lt_of_lt_of_le lc (Nat.pow_le_pow_right (by omega) (by omega)), c0⟩
  · have c1 : Lt2 (B + 1) (c + 1) := by
      unfold Lt2
      rw [Nat.pow_succ]
      omega
    have b94 : Lt2 94 b := lb
    have dm1 := dMul_of (i := 7368787) (n := 23) (show Int.natAbs 7368787 < 2 ^ 23 by decide) c1 (by omega)
    have s1 : Lt2 (94 + (23 + (B + 1)) + 1) (b + 7368787 * (c + 1)) := b94.add (Lt2.mul (n := 23) (show Int.natAbs 7368787 < 2 ^ 23 by decide) c1)
    have g1 : gPow (b + 7368787 * (c + 1)) 3 = some (.int ((b + 7368787 * (c + 1)) ^ 3)) := gPow_lt (j := 3) s1 (by decide) (by decide) (by omega)
    have hm1 : (0 : Int) < 1000000000000000000000000103 := by decide
    have n1 := Int.fmod_nonneg_of_pos ((b + 7368787 * (c + 1)) ^ 3) hm1
    have u1 := Int.fmod_lt_of_pos ((b + 7368787 * (c + 1)) ^ 3) hm1
    simp [startE, vS_r e, vD_r e, atI_zero, atI_two, ha, e, ixN2, own, vS_r (own _), atI_one, dm1, g1, p27, gMod, ixN0]
    generalize ((b + 7368787 * (c + 1)) ^ 3).fmod 1000000000000000000000000103 = x at n1 u1
    have x94 : Lt2 94 x := by unfold Lt2; omega
    have dm2 := dMul_of (i := 15485863) (n := 24) (show Int.natAbs 15485863 < 2 ^ 24 by decide) c1 (by omega)
    have m2 : Lt2 (24 + (B + 1)) (15485863 * (c + 1)) := Lt2.mul (n := 24) (show Int.natAbs 15485863 < 2 ^ 24 by decide) c1
    have dm3 := dMul_of m2 c1 (by omega)
    have s2 : Lt2 (94 + (24 + (B + 1) + (B + 1)) + 1) (x + 15485863 * (c + 1) * (c + 1)) := x94.add (m2.mul c1)
    have g2 : gPow (x + 15485863 * (c + 1) * (c + 1)) 2 = some (.int ((x + 15485863 * (c + 1) * (c + 1)) ^ 2)) := gPow_lt (j := 2) s2 (by decide) (by decide) (by omega)
    simp [vS_r (own _), atI_two, dm2, dm3, g2, p26, gMod, gFdivN, m0]
    have l16 : Nat.log2 65536 < 9000 := by decide
    simp [l16, take_set, gMod, m0]
    exact q _ _ (Int.fmod_nonneg_of_pos _ hm) (Int.fmod_lt_of_pos _ hm) ⟨by simp, oth _, _, _, _, own _, lb, c1, by omega⟩
theorem stock_wp {ns : List Int} {at_ : Nat} (ha : at_ ≤ 100) (hl : ns.length ≤ 63) (hbits : ∀ z ∈ ns, PySem.Builtin.Int.intBits z ≤ 1048576) (q : ∀ h', PotAt h.length 1 h' → h'.length = h.length + 1 → (∀ j, j < h.length → h'[j]? = h[j]?) → Q (.r h.length) h') : wpR (F__law_stock [.s ns, .d (.int at_)] h) Q E := by
  have vl : ∀ h, vS (.s ns) h = some (.list (ns.map .int)) := fun _ => rfl
  have ex : ∀ m : MO, exitV true h.length (.r h.length) (h ++ [m]) = .ok (.r h.length) (h ++ [m]) := fun m => by simp [exitV]
  have lit : ∀ n : Nat, n ≤ 100 → Lt2 7 (n : Int) := fun n hn => by unfold Lt2; rw [Int.natAbs_natCast]; omega
  have d1 := dMul_of (i := 5003) (n := 13) (show Int.natAbs 5003 < 2 ^ 13 by decide) (lit at_ ha) (by omega)
  have d2 := dMul_of (i := 271) (n := 9) (show Int.natAbs 271 < 2 ^ 9 by decide) (lit ns.length (by omega)) (by omega)
  have d3 := dMul_of (j := 15487469) (m := 24) (lit at_ ha) (show Int.natAbs 15487469 < 2 ^ 24 by decide) (by omega)
  have go : ∀ cell : Int, Lt2 1048577 cell → DL.wpS (sSeq (sSet 3 (eIf (tVal (eOp (dInt2 (gCmp fun i j => decide (j ≤ i))) (eVar 2) (eOp (dInt2 gPow) (eC (.int 10)) (eC (.int 18))))) (eOp (dInt2 DL.gSub) (eVar 2) (eOp (dInt2 gPow) (eC (.int 10)) (eC (.int 18)))) (eC (.int 0))))
      (sRet (eLstM (aCons (eVar 3) (aCons (eOp (dInt2 gMod) (eCallB (DL.d1 dInt) (aCons (eOp dAdd (eOp dAdd (eOp dMul (eVar 2) (eC (.int 1299709))) (eOp dMul (eVar 1) (eC (.int 15487469)))) (eC (.int 4241))) aNil)) (eOp dAdd (eOp (dInt2 gPow) (eC (.int 10)) (eC (.int 28))) (eC (.int 331)))) (aCons (eC (.int 0)) aNil))))) [some (.s ns), some (.d (.int at_)), some (.d (.int cell)), none] h)
      ⟨fun _ h' => Q (.d .none) (h'.take h.length), fun v h' => wpR (exitV true h.length v h') Q E, fun c v _ h' => E c v (h'.take h.length), fun _ _ => False, fun _ _ => False⟩ := by
    intro cell lc
    have d4 := dMul_of (j := 1299709) (m := 21) lc (show Int.natAbs 1299709 < 2 ^ 21 by decide) (by omega)
    have hm1 : (0 : Int) < 10000000000000000000000000331 := by decide
    have n1 := Int.fmod_nonneg_of_pos (cell * 1299709 + at_ * 15487469 + 4241) hm1
    have u1 := Int.fmod_lt_of_pos (cell * 1299709 + at_ * 15487469 + 4241) hm1
    have fin : ∀ a : Int, Q (.r h.length) (h ++ [.lst [.int a, .int ((cell * 1299709 + at_ * 15487469 + 4241).fmod 10000000000000000000000000331), .int 0]]) := fun a =>
      q _ ⟨a, (cell * 1299709 + at_ * 15487469 + 4241).fmod 10000000000000000000000000331, 0, by simp, by omega, by decide, by decide⟩ (by simp) (fun j hj => List.getElem?_append_left hj)
    by_cases hc : 1000000000000000000 ≤ cell
    · simp [hc, p18, p28, gMod, d3, d4, sz_le, ex]
      exact fin _
    · simp [hc, p18, p28, gMod, d3, d4, sz_le, ex]
      exact fin _
  unfold F__law_stock G__law_stock
  rw [wpR_mkF]
  refine ⟨rfl, ?_⟩
  simp only [startE, List.map_cons, List.map_nil, List.length_cons, List.length_nil, List.cons_append, List.nil_append, List.replicate]
  refine wpS_cut (fun ρ h2 => ∃ cell : Int, Lt2 1048577 cell ∧ ρ = [some (.s ns), some (.d (.int at_)), some (.d (.int cell)), none] ∧ h2 = h) ?_ ?_
  · by_cases hl : at_ < ns.length
    · have ix : atI (ns.map PyData.int) (at_ : Int) = some (.int ns[at_]) := by rw [DL.atI_nat]; simp [hl]
      have hb := hbits _ (List.getElem_mem hl)
      simp [vl, hl, ix]
      unfold Lt2
      unfold PySem.Builtin.Int.intBits at hb
      by_cases z : ns[at_] = 0
      · rw [z]; exact Nat.pow_pos (by decide)
      · have : ¬ (ns[at_] == 0) = true := by simpa using z
        rw [if_neg this] at hb
        refine (Nat.log2_lt (by omega)).mp (by omega)
    · simp [vl, hl, d1, d2]
      unfold Lt2
      have : (5003 * (at_ : Int) + 271 * (ns.length : Int) + 11).natAbs < 2 ^ 30 := by omega
      exact Nat.lt_of_lt_of_le this (Nat.pow_le_pow_right (by omega) (by omega))
  · rintro ρ h2 ⟨cell, lc, rfl, rfl⟩
    exact go cell lc
end

end W_k28

set_option maxHeartbeats 400000
namespace W_k28
open PySem PySem.Spec PyProof.Rows L2 DL
-- at 28
/-! ### the law's own likeness -/
theorem zip_dup (xs : List D) : List.zipWith (fun a b => PyData.tuple [a, b]) xs xs = xs.map fun x => .tuple [x, x] := by
  induction xs with
  | nil => rfl
  | cons x xs ih => rw [List.zipWith_cons_cons, ih]; rfl
theorem alike_all : ∀ (k : Nat) (d : D), okD k d → ∀ h, R__law_alike k [.d d, .d d] h = .ok (.d (.bool true)) h
  | 0, _, e, _ => e.elim
  | k + 1, d, e, h => by
    have ih := alike_all k
    refine wpR_eq ?_
    unfold R__law_alike G__law_alike
    rw [wpR_mkF]
    refine ⟨rfl, ?_⟩
    have sq : ∀ xs : List D, xs.length ≤ 4096 → (∀ x ∈ xs, okD k x) → ∀ (ρ : DL.Env) (Q : Val → Hs → Prop) (E : DL.EP), ρ.length = 4 → Q (.d (.list (xs.map fun _ => .bool true))) h →
        wpR (mkL (compR [] (gT (gsCons (gN 2) (gsCons (gN 3) gsNil))) tYesD (eCall (R__law_alike k) (aCons (eVar 2) (aCons (eVar 3) aNil))) ρ (xs.map fun a => PyData.tuple [a, a]) h [])) Q E := by
      intro xs hl hx ρ Q E hρ q
      refine wp_lc_map (fun x : D => .tuple [x, x]) (fun _ => .bool true) rfl (Chk_nil _) (sz_le hl) (fun x m => ?_) q
      match ρ, hρ with
      | [a, b, c, d], _ => simp [ih x (hx x m)]
    match d, e with
    | .none, _ => simp [startE, isNone]
    | .int i, _ => simp [startE, isNone, dEq_int]
    | .bool c, _ => simp [startE, isNone, isBool, dEq_bool]
    | .tuple xs, e =>
      have q := sq xs e.1 e.2
      simp [startE, isNone, isBool, DL.isInt, isStr, isTuple, isList, dEq_int]
      refine q [_, _, _, _] _ _ rfl ?_
      simp [boolsOf_true]
    | .list xs, e =>
      have q := sq xs e.1 e.2
      simp [startE, isNone, isBool, DL.isInt, isStr, isTuple, isList, dEq_int]
      refine q [_, _, _, _] _ _ rfl ?_
      simp [boolsOf_true]
theorem alike_ok {h : Hs} (d : D) (e : okD 12 d) : F__law_alike [.d d, .d d] h = .ok (.d (.bool true)) h := alike_all 12 d e h

end W_k28

set_option maxHeartbeats 400000
namespace W_k28
open PySem PySem.Spec PyProof.Rows L2 DL
-- at 28
/-! ### rows in steps -/
theorem getD_lt {α : Type} (l : List α) (i : Nat) (d : α) (h : i < l.length) : l.getD i d = l[i] := by simp [List.getD, h]
theorem getD_ge {α : Type} (l : List α) (i : Nat) (d : α) (h : l.length ≤ i) : l.getD i d = d := by simp [List.getD, h]
theorem zipIdx_range {α : Type} (l : List α) (d : α) : l.zipIdx = (List.range l.length).map fun p => (l.getD p d, p) := by
  apply List.ext_getElem?
  intro i
  rw [List.getElem?_zipIdx, List.getElem?_map]
  by_cases h : i < l.length
  · rw [List.getElem?_range h, List.getElem?_eq_getElem h]
    simp [h]
  · rw [List.getElem?_eq_none (by omega), List.getElem?_eq_none (by simp; omega)]; rfl
def crossL (own : List Int) (j : Nat) (r : List Int) : List Int := (List.range r.length).map fun k => r.getD k 0 * own.getD j 0 - own.getD k 0 * r.getD j 0
def stepC (s : List (List Int) × List (List Int)) (j : Nat) : List (List Int) × List (List Int) :=
  match (List.range s.1.length).filter (fun p => decide ((s.1.getD p []).getD j 0 ≠ 0)) with
  | [] => s
  | p :: _ => ((cutL s.1 p).map (crossL (s.1.getD p []) j), s.2 ++ [s.1.getD p []])
def clearC (rows : List (List Int)) (w : Nat) : List (List Int) × List (List Int) := (List.range w).foldl stepC (rows, [])
def rowD (r : List Int) : D := .list (r.map .int)
def rowsD (rs : List (List Int)) : D := .list (rs.map rowD)
/-- rows of so many places, of so many bits -/
def RowsOk (L B : Nat) (rs : List (List Int)) : Prop := ∀ r ∈ rs, r.length = L ∧ ∀ x ∈ r, Lt2 B x
theorem cross_ok {L B : Nat} {own r : List Int} (j : Nat) (ho : own.length = L ∧ ∀ x ∈ own, Lt2 B x) (hr : r.length = L ∧ ∀ x ∈ r, Lt2 B x) : (crossL own j r).length = L ∧ ∀ x ∈ crossL own j r, Lt2 (2 * B + 1) x := by
  have g : ∀ (s : List Int), (∀ x ∈ s, Lt2 B x) → ∀ k, Lt2 B (s.getD k 0) := fun s hs k => by
    by_cases h : k < s.length
    · rw [getD_lt _ _ _ h]; exact hs _ (List.getElem_mem h)
    · rw [getD_ge _ _ _ (by omega)]
      exact Nat.pow_pos (by decide)
  refine ⟨by simp [crossL, hr.1], fun x hx => ?_⟩
  obtain ⟨k, _, rfl⟩ := List.mem_map.mp hx
  have a := (g r hr.2 k).mul (g own ho.2 j)
  have b := (g own ho.2 k).mul (g r hr.2 j)
  rw [Int.sub_eq_add_neg]
  exact (a.add2 b.neg).mono (by omega)
theorem step_ok {L B : Nat} {s : List (List Int) × List (List Int)} (j : Nat) (h : RowsOk L B s.1) : RowsOk L (2 * B + 1) (stepC s j).1 ∧ (stepC s j).1.length ≤ s.1.length ∧ (stepC s j).2.length ≤ s.2.length + 1 := by
  unfold stepC
  split
  · exact ⟨fun r hr => ⟨(h r hr).1, fun x hx => ((h r hr).2 x hx).mono (by omega)⟩, Nat.le_refl _, by omega⟩
  · rename_i p _ hp
    have pm : p ∈ (List.range s.1.length).filter (fun p => decide ((s.1.getD p []).getD j 0 ≠ 0)) := by rw [hp]; exact List.mem_cons_self
    have lt : p < s.1.length := by simpa using (List.mem_filter.mp pm).1
    refine ⟨fun r hr => ?_, ?_, by simp⟩
    · obtain ⟨q, hq, rfl⟩ := List.mem_map.mp hr
      have ho := h _ (List.getElem_mem lt)
      rw [getD_lt _ _ _ lt]
      exact cross_ok j ho (h q ((cutL_sub s.1 p).subset hq))
    · rw [List.length_map]; exact (cutL_sub s.1 p).length_le
theorem clear_snoc (rows : List (List Int)) (w : Nat) : clearC rows (w + 1) = stepC (clearC rows w) w := by
  unfold clearC
  rw [List.range_succ, List.foldl_append]; rfl
/-- bits behind so many columns -/
def bitsC (B : Nat) : Nat → Nat
  | 0 => B
  | w + 1 => 2 * bitsC B w + 1
theorem clear_ok' {L B : Nat} {rows : List (List Int)} (h : RowsOk L B rows) : ∀ w, RowsOk L (bitsC B w) (clearC rows w).1 ∧ (clearC rows w).1.length ≤ rows.length ∧ (clearC rows w).2.length ≤ w
  | 0 => ⟨h, Nat.le_refl _, Nat.le_refl _⟩
  | w + 1 => by
    obtain ⟨a, b, c⟩ := clear_ok' h w
    rw [clear_snoc]
    obtain ⟨d, e, f⟩ := step_ok w a
    exact ⟨d, Nat.le_trans e b, by omega⟩
theorem take_app {h x : Hs} {n : Nat} (e : n ≤ h.length) : (h ++ x).take n = h.take n := List.take_append_of_le_length e
theorem take_set' {h : Hs} {n k : Nat} {x : MO} (e : n ≤ k) : (h.set k x).take n = h.take n := by
  apply List.ext_getElem?
  intro i
  by_cases hi : i < n
  · rw [List.getElem?_take_of_lt hi, List.getElem?_take_of_lt hi, List.getElem?_set_ne (by omega)]
  · rw [List.getElem?_eq_none (by rw [List.length_take]; omega), List.getElem?_eq_none (by rw [List.length_take]; omega)]
theorem getD_ix {r : List Int} {k : Nat} (h : k < r.length) : atI (r.map PyData.int) (k : Int) = some (.int (r.getD k 0)) := by
  rw [DL.atI_nat, getD_lt _ _ _ h]
  simp [h]
theorem atI_rows {rs : List (List Int)} {p : Nat} (h : p < rs.length) : atI (rs.map rowD) (p : Int) = some (rowD (rs.getD p [])) := by
  rw [DL.atI_nat, getD_lt _ _ _ h]
  simp [h]
section
variable {h : Hs} {E : DL.EP} {Q : Val → Hs → Prop} {L B : Nat}
/-- the state of the clearing: the rows at p, what is found behind the first of its own places -/
def CMid (w : Nat) (h : Hs) (s : List (List Int) × List (List Int)) (ρ : DL.Env) (h' : Hs) : Prop := ∃ (p : Nat) (x3 x4 x5 x6 x7 : Option Val), ρ = [some (.r p), some (.d (.int w)), some (.r (h.length + 1)), x3, x4, x5, x6, x7, none, none] ∧
  h.length ≤ p ∧ p ≠ h.length + 1 ∧ h.length ≤ h'.length ∧ h'.take h.length = h ∧ h'[p]? = some (.lst (s.1.map rowD)) ∧ h'[h.length + 1]? = some (.lst (s.2.map rowD))
theorem law_clear_ok {v : Val} {g : List (Nat × List D)} {rows : List (List Int)} {w : Nat} {ds : List D} (hv : seqOf v h = some (ds, g)) (hc : Chk g h) (hd : ds = rows.map (fun r => .tuple (r.map .int)) ∨ ds = rows.map rowD) (ok : RowsOk L B rows) (hw : w ≤ L) (hL : L ≤ 100) (hn : rows.length ≤ 1000) (hB : bitsC B w ≤ 1000000) :
    F__law_clear [v, .d (.int w)] h = .ok (.d (.tuple [rowsD (clearC rows w).2, rowsD (clearC rows w).1])) h := by
  refine wpR_eq ?_
  unfold F__law_clear G__law_clear
  rw [wpR_mkF]
  refine ⟨rfl, ?_⟩
  simp [startE, hv]
  have toD : ∀ r : List Int, dList (.tuple (r.map .int)) = some (rowD r) ∧ dList (rowD r) = some (rowD r) := fun r => ⟨rfl, rfl⟩
  have fin0 : ∀ Q : Val → Hs → Prop, ∀ E : DL.EP, ∀ ρ : DL.Env, 7 < ρ.length → Q (.r h.length) (h ++ [.lst (rows.map rowD)]) → wpR (mkLM (compR g (gN 7) tYesD (eCallB (d1 dList) (aCons (eVar 7) aNil)) ρ ds h [])) Q E := by
    intro Q E ρ h7 q
    rcases hd with hd | hd
    · refine wp_lcM_map (fun r : List Int => .tuple (r.map .int)) rowD hd hc (sz_le (by omega)) (fun r hr => ?_) q
      have r7 : (ρ.set 7 (some (.d (.tuple (r.map PyData.int)))))[7]? = some (some (.d (.tuple (r.map .int)))) := by rw [List.getElem?_set_self h7]
      simp [r7, rowD]
    · refine wp_lcM_map rowD rowD hd hc (sz_le (by omega)) (fun r hr => ?_) q
      have r7 : (ρ.set 7 (some (.d (rowD r))))[7]? = some (some (.d (rowD r))) := by rw [List.getElem?_set_self h7]
      simp [r7, toD]
  refine fin0 _ _ _ (by simp) ?_
  simp [sz_le, small_nat (show w ≤ 100000 by omega)]
  refine wp_for0 (fun j ρ h' => CMid w h (clearC rows j) ρ h') (fun _ _ _ _ => Chk_nil _) ⟨h.length, none, none, none, none, none, rfl, Nat.le_refl _, by omega, by simp, by simp, by simp [clearC], by simp [clearC]⟩ ?_ ?_
  · rintro j dd ρ h1 hd ⟨p, x3, x4, x5, x6, x7, rfl, pl, pn, hl, tk, at1, at2⟩
    obtain ⟨hj, rfl⟩ := rng_get hd
    obtain ⟨ok1, ln1, fl1⟩ := clear_ok' ok j
    rw [clear_snoc]
    generalize clearC rows j = s at *
    have bj : bitsC B j ≤ 1000000 := by
      have mono : ∀ n, bitsC B j ≤ bitsC B (j + n) := fun n => by
        induction n with
        | zero => exact Nat.le_refl _
        | succ n ih => show _ ≤ 2 * bitsC B (j + n) + 1; omega
      have := mono (w - j)
      rw [show j + (w - j) = w by omega] at this
      omega
    have en : enumOfG (.r p) h1 = some (s.1.zipIdx.map (fun q : List Int × Nat => .tuple [.int (q.2 : Nat), rowD q.1]), [(p, s.1.map rowD)]) := by
      rw [enumOfG_at]
      simp only [seqOf, at1]
      rw [enum_map]
    simp [en]
    have hck : Chk [(p, s.1.map rowD)] h1 := fun pr hpr => by
      have e : pr = (p, s.1.map rowD) := by simpa using hpr
      rw [e]
      exact at1
    refine wp_lc_fm (fun q : List Int × Nat => .tuple [.int (q.2 : Nat), rowD q.1]) (fun q => .int (q.2 : Nat)) (fun q => decide (q.1.getD j 0 ≠ 0)) rfl hck (sz_le (by simp; omega)) (fun q hq => ?_) ?_
    · obtain ⟨r, k⟩ := q
      have hr : r ∈ s.1 := (List.mem_zipIdx hq).2.2 ▸ List.getElem_mem _
      have ix : dIx (rowD r) (.int (j : Int)) = some (.int (r.getD j 0)) := getD_ix (by rw [(ok1 r hr).1]; omega)
      simp [ix, dNe_int]
    have ef : ((s.1.zipIdx.filter fun q : List Int × Nat => decide (q.1.getD j 0 ≠ 0)).map fun q => PyData.int (q.2 : Nat)) = ((List.range s.1.length).filter (fun p => decide ((s.1.getD p []).getD j 0 ≠ 0))).map fun p : Nat => PyData.int (p : Int) := by
      rw [zipIdx_range s.1 [], List.filter_map, List.map_map]; rfl
    rw [ef]
    unfold stepC
    have ne : ∀ l : List Nat, l.length ≤ 4096 → dNe (.list (l.map fun p : Nat => PyData.int (p : Int))) (.list []) = some (.bool (!l.isEmpty)) := fun l hl => by
      have := dNe_nilL (k := 3) (xs := l.map fun p : Nat => PyData.int (p : Int)) ⟨by simpa using hl, fun x hx => by
        obtain ⟨a, _, rfl⟩ := List.mem_map.mp hx
        exact True.intro⟩ (by omega)
      simpa using this
    have ne := ne ((List.range s.1.length).filter (fun p => decide ((s.1.getD p []).getD j 0 ≠ 0))) (Nat.le_trans (List.length_filter_le _ _) (by simp; omega))
    cases hf : (List.range s.1.length).filter (fun p => decide ((s.1.getD p []).getD j 0 ≠ 0)) with
    | nil =>
      rw [hf] at ne
      simp at ne
      simp [ne]
      exact ⟨p, _, _, _, _, _, rfl, pl, pn, hl, tk, at1, at2⟩
    | cons a rest =>
      rw [hf] at ne
      simp at ne
      have am : a ∈ (List.range s.1.length).filter (fun p => decide ((s.1.getD p []).getD j 0 ≠ 0)) := by rw [hf]; exact List.mem_cons_self
      have alt : a < s.1.length := by simpa using (List.mem_filter.mp am).1
      have own := ok1 _ (List.getElem_mem alt)
      rw [← getD_lt s.1 a [] alt] at own
      have ix := atI_rows alt
      have sl1 : dSl (.list (s.1.map rowD)) none (some (a : Int)) = some (.list ((s.1.map rowD).take a)) := by
        show some (PyData.list (DL.cutD _ none (some (a : Int)))) = _
        rw [cut_lo]
      have sl2 : dSl (.list (s.1.map rowD)) (some ((a : Int) + 1)) none = some (.list ((s.1.map rowD).drop (a + 1))) := by
        have := cut_hi (s.1.map rowD) (a + 1)
        show some (PyData.list (DL.cutD _ (some ((a : Int) + 1)) none)) = _
        rw [show ((a : Int) + 1) = ((a + 1 : Nat) : Int) by omega, this]
      have ad : dAdd (.list ((s.1.map rowD).take a)) (.list ((s.1.map rowD).drop (a + 1))) = some (.list ((cutL s.1 a).map rowD)) := by
        show (if _ then _ else _) = _
        rw [if_pos (sz_le (by simp; omega))]
        simp [cutL, List.map_take, List.map_drop]
      have okr : ∀ r ∈ cutL s.1 a, r.length = L ∧ ∀ x ∈ r, Lt2 (bitsC B j) x := fun r hr => ok1 r ((cutL_sub s.1 a).subset hr)
      have cl : (cutL s.1 a).length ≤ 1000 := Nat.le_trans (cutL_sub s.1 a).length_le (by omega)
      generalize hcl : cutL s.1 a = cs at *
      generalize hown : s.1.getD a [] = o at *
      have plt : p < h1.length := (List.getElem?_eq_some_iff.mp at1).1
      have qlt : h.length + 1 < h1.length := (List.getElem?_eq_some_iff.mp at2).1
      simp [ne, atI_zero, vS_r at1, vD_r at1, ix, sl1, sl2, ad, sz_le]
      obtain ⟨es, hes⟩ : ∃ es : List D, es = (cs.map (crossL o j)).map rowD := ⟨_, rfl⟩
      have el : es.length = cs.length := by rw [hes]; simp
      refine wp_for0 (fun i ρ h' => ∃ x7, ρ = [some (.r h1.length), some (.d (.int w)), some (.r (h.length + 1)), some (.d (.int j)), some (.d (.list ((a :: rest).map fun p : Nat => PyData.int (p : Int)))), some (.d (rowD o)), some (.d (.list (cs.map rowD))), x7, none, none] ∧ h' = h1 ++ [.lst (es.take i)]) (fun _ _ _ _ => Chk_nil _) ⟨_, rfl, rfl⟩ ?_ ?_
      · rintro i dd ρ h' hd ⟨y7, rfl, rfl⟩
        obtain ⟨r, hr, rfl⟩ : ∃ r, cs[i]? = some r ∧ rowD r = dd := by simpa using hd
        have hi : i < cs.length := (List.getElem?_eq_some_iff.mp hr).1
        have okk := okr r (List.mem_of_getElem? hr)
        have lr : r.length = L := okk.1
        have g1 : ∀ x : MO, (h1 ++ [x])[h1.length]? = some x := fun x => by simp
        have vr : ∀ (q : List Int) h, vS (.d (rowD q)) h = some (.list (q.map .int)) := fun _ _ => rfl
        simp [g1, vr, small_nat (show r.length ≤ 100000 by omega)]
        rw [rng0]
        refine wp_lc_map (fun k : Nat => .int (k : Int)) (fun k : Nat => .int (r.getD k 0 * o.getD j 0 - o.getD k 0 * r.getD j 0)) rfl (Chk_nil _) (sz_le (by simp; omega)) (fun k hk => ?_) ?_
        · have hk : k < L := by rw [← lr]; simpa using hk
          have gd : ∀ q : List Int, (q.length = L ∧ ∀ x ∈ q, Lt2 (bitsC B j) x) → ∀ m, m < L → atI (q.map PyData.int) (m : Int) = some (.int (q.getD m 0)) ∧ Lt2 (bitsC B j) (q.getD m 0) := fun q hq m hm => ⟨getD_ix (by omega), by
            rw [getD_lt _ _ _ (show m < q.length by omega)]
            exact hq.2 _ (List.getElem_mem _)⟩
          obtain ⟨a1, b1⟩ := gd r okk k hk
          obtain ⟨a2, b2⟩ := gd o own j (by omega)
          obtain ⟨a3, b3⟩ := gd o own k hk
          obtain ⟨a4, b4⟩ := gd r okk j (by omega)
          have m1 := dMul_of b1 b2 (by omega)
          have m2 := dMul_of b3 b4 (by omega)
          generalize r.getD k 0 = u1 at *
          generalize o.getD j 0 = u2 at *
          generalize o.getD k 0 = u3 at *
          generalize r.getD j 0 = u4 at *
          simp [vr, a1, a2, a3, a4, m1, m2]
        have e2 : es.take (i + 1) = es.take i ++ [rowD (crossL o j r)] := by
          rw [List.take_succ, hes]
          simp [hr]
        have gl : min i es.length < sizeLine := Nat.lt_of_le_of_lt (show _ ≤ 1000 by omega) (by rw [sizeLine_eq]; omega)
        have eD : PyData.list ((List.range r.length).map fun k : Nat => PyData.int (r.getD k 0 * o.getD j 0 - o.getD k 0 * r.getD j 0)) = rowD (crossL o j r) := by simp [rowD, crossL, Function.comp_def]
        rw [e2, eD]
        generalize rowD (crossL o j r) = dr
        simp [g1, gAppend, gl]
      · rintro ρ h' ⟨y7, rfl, rfl⟩
        rw [List.take_of_length_le (by simp [el])]
        have g2 : (h1 ++ [MO.lst es])[h.length + 1]? = some (.lst (s.2.map rowD)) := by rw [List.getElem?_append_left qlt]; exact at2
        have gl : s.2.length < sizeLine := Nat.lt_of_le_of_lt (show _ ≤ 1000 by omega) (by rw [sizeLine_eq]; omega)
        have sz2 : h.length + 1 < (h1 ++ [MO.lst es]).length := by simp; omega
        simp [g2, gAppend, gl]
        subst hes
        have hown' : s.1[a]?.getD [] = o := by rw [← hown]; simp
        refine ⟨h1.length, _, _, _, _, _, rfl, by omega, by omega, by simp; omega, ?_, ?_, ?_⟩
        · rw [take_set' (by omega), take_app (by omega)]; exact tk
        · rw [List.getElem?_set_ne (by omega)]
          simp [hcl, hown']
        · rw [List.getElem?_set_self sz2]
          simp [hown']
  · rintro ρ h1 ⟨p, x3, x4, x5, x6, x7, rfl, pl, pn, hl, tk, at1, at2⟩
    rw [rng_len] at at1 at2
    have np : ¬ p < h.length := by omega
    have fz : frz h.length h1 [.inr (h.length + 1), .inr p] = some [rowsD (clearC rows w).2, rowsD (clearC rows w).1] := by
      simp [frz, at1, at2, np, rowsD]
    simp [sz_le, fz, tk]
end

end W_k28

set_option maxHeartbeats 400000
namespace W_k28
open PySem PySem.Spec PyProof.Rows L2 DL
-- at 28
/-! ### the rank of two rows -/
theorem Chk_at {h : Hs} {p : Nat} {ds : List D} (e : h[p]? = some (.lst ds)) : Chk [(p, ds)] h := fun q hq => by
  have : q = (p, ds) := by simpa using hq
  rw [this]; exact e
theorem step2 (a b : List Int) (f : List (List Int)) (j : Nat) : stepC ([a, b], f) j = if a.getD j 0 ≠ 0 then ([crossL a j b], f ++ [a]) else if b.getD j 0 ≠ 0 then ([crossL b j a], f ++ [b]) else ([a, b], f) := by
  unfold stepC
  have e : List.range ([a, b], f).1.length = [0, 1] := rfl
  rw [e]
  by_cases ha : a.getD j 0 = 0 <;> by_cases hb : b.getD j 0 = 0 <;> simp at ha hb <;> simp [ha, hb, cutL]
theorem step1 (a : List Int) (f : List (List Int)) (j : Nat) : stepC ([a], f) j = if a.getD j 0 ≠ 0 then ([], f ++ [a]) else ([a], f) := by
  unfold stepC
  have e : List.range ([a], f).1.length = [0] := rfl
  rw [e]
  by_cases ha : a.getD j 0 = 0 <;> simp at ha <;> simp [ha, cutL]
theorem step0 (f : List (List Int)) (j : Nat) : stepC ([], f) j = ([], f) := rfl
def OfTwo (a b : List Int) (w : Nat) (c : List Int) : Prop := ∃ j, j < w ∧ ((c = crossL a j b ∧ a.getD j 0 ≠ 0) ∨ (c = crossL b j a ∧ a.getD j 0 = 0 ∧ b.getD j 0 ≠ 0))
theorem OfTwo.mono {a b c : List Int} {w v : Nat} (h : OfTwo a b w c) (e : w ≤ v) : OfTwo a b v c := by
  obtain ⟨j, hj, r⟩ := h
  exact ⟨j, by omega, r⟩
theorem getD_cross {own r : List Int} {j k : Nat} (hk : k < r.length) : (crossL own j r).getD k 0 = r.getD k 0 * own.getD j 0 - own.getD k 0 * r.getD j 0 := by
  rw [getD_lt _ _ _ (show k < (crossL own j r).length by simp [crossL]; exact hk)]
  simp [crossL]
theorem clear2 {a b : List Int} {L : Nat} (la : a.length = L) (lb : b.length = L) : ∀ w, w ≤ L →
    (clearC [a, b] w = ([a, b], []) ∧ ∀ k, k < w → a.getD k 0 = 0 ∧ b.getD k 0 = 0) ∨
    (∃ c x, clearC [a, b] w = ([c], [x]) ∧ OfTwo a b w c ∧ ∀ k, k < w → c.getD k 0 = 0) ∨
    (∃ c x y, clearC [a, b] w = ([], [x, y]) ∧ OfTwo a b w c ∧ ∃ k, k < w ∧ c.getD k 0 ≠ 0)
  | 0, _ => .inl ⟨rfl, fun k h => absurd h (by omega)⟩
  | w + 1, hw => by
    rw [clear_snoc]
    rcases clear2 la lb w (by omega) with ⟨e, h0⟩ | ⟨c, x, e, ho, h0⟩ | ⟨c, x, y, e, ho, k, hk, hc⟩
    · rw [e, step2]
      by_cases ha : a.getD w 0 = 0
      · by_cases hb : b.getD w 0 = 0
        · left
          refine ⟨by rw [if_neg (by simpa using ha), if_neg (by simpa using hb)], fun k hk => ?_⟩
          by_cases e : k = w
          · rw [e]; exact ⟨ha, hb⟩
          · exact h0 k (by omega)
        · right; left
          refine ⟨crossL b w a, b, by rw [if_neg (by simpa using ha), if_pos hb]; rfl, ⟨w, by omega, .inr ⟨rfl, ha, hb⟩⟩, fun k hk => ?_⟩
          rw [getD_cross (by omega)]
          by_cases e : k = w
          · rw [e, Int.mul_comm]; omega
          · rw [(h0 k (by omega)).1, (h0 k (by omega)).2, Int.zero_mul, Int.zero_mul]; rfl
      · right; left
        refine ⟨crossL a w b, a, by rw [if_pos ha]; rfl, ⟨w, by omega, .inl ⟨rfl, ha⟩⟩, fun k hk => ?_⟩
        rw [getD_cross (by omega)]
        by_cases e : k = w
        · rw [e, Int.mul_comm]; omega
        · rw [(h0 k (by omega)).1, (h0 k (by omega)).2, Int.zero_mul, Int.zero_mul]; rfl
    · rw [e, step1]
      by_cases hc : c.getD w 0 = 0
      · right; left
        refine ⟨c, x, by rw [if_neg (by simpa using hc)], ho.mono (by omega), fun k hk => ?_⟩
        by_cases e : k = w
        · rw [e]; exact hc
        · exact h0 k (by omega)
      · right; right
        exact ⟨c, x, c, by rw [if_pos hc]; rfl, ho.mono (by omega), w, by omega, hc⟩
    · right; right
      rw [e, step0]
      exact ⟨c, x, y, rfl, ho.mono (by omega), k, by omega, hc⟩
theorem some_getD {r : List Int} (h : ∃ x ∈ r, x ≠ 0) : ∃ k, k < r.length ∧ r.getD k 0 ≠ 0 := by
  obtain ⟨x, hx, x0⟩ := h
  obtain ⟨k, hk, e⟩ := List.mem_iff_getElem.mp hx
  exact ⟨k, hk, by rw [getD_lt _ _ _ hk, e]; exact x0⟩
theorem maps_eq {a b : List Int} {x y : Int} (l : a.length = b.length) (h : ∀ k, k < a.length → x * a.getD k 0 = y * b.getD k 0) : a.map (x * ·) = b.map (y * ·) := by
  apply List.ext_getElem (by simpa using l)
  intro k h1 h2
  have := h k (by simpa using h1)
  rw [getD_lt _ _ _ (by simpa using h1), getD_lt _ _ _ (by simpa using h2)] at this
  simpa using this
theorem eq_maps {a b : List Int} {x y : Int} (h : a.map (x * ·) = b.map (y * ·)) (k : Nat) : x * a.getD k 0 = y * b.getD k 0 := by
  have l : a.length = b.length := by simpa using congrArg List.length h
  by_cases hk : k < a.length
  · have := congrArg (fun l => l[k]?) h
    simp only [List.getElem?_map] at this
    rw [List.getElem?_eq_getElem hk, List.getElem?_eq_getElem (by omega)] at this
    rw [getD_lt _ _ _ hk, getD_lt _ _ _ (by omega)]
    simpa using this
  · rw [getD_ge _ _ _ (by omega), getD_ge _ _ _ (by omega)]; omega
theorem rank2 {a b : List Int} {L : Nat} (la : a.length = L) (lb : b.length = L) (ha : ∃ x ∈ a, x ≠ 0) (hb : ∃ x ∈ b, x ≠ 0) : (clearC [a, b] L).2.length < 2 ↔ ground a = ground b := by
  obtain ⟨ka, kl, ka0⟩ := some_getD ha
  obtain ⟨kb, kbl, kb0⟩ := some_getD hb
  rcases clear2 la lb L (Nat.le_refl _) with ⟨e, h0⟩ | ⟨c, x, e, ⟨j, hj, o⟩, h0⟩ | ⟨c, x, y, e, ⟨j, hj, o⟩, k, hk, hc⟩
  · exact absurd (h0 ka (by omega)).1 ka0
  · rw [e]
    refine iff_of_true (by decide : (1 : Nat) < 2) ?_
    rcases o with ⟨rfl, aj⟩ | ⟨rfl, aj, bj⟩
    · have all : ∀ k, k < L → b.getD k 0 * a.getD j 0 = a.getD k 0 * b.getD j 0 := fun k hk => by
        have := h0 k hk
        rw [getD_cross (by omega)] at this
        omega
      have bj : b.getD j 0 ≠ 0 := by
        intro z
        have := all kb (by omega)
        rw [z, Int.mul_zero] at this
        exact (Int.mul_ne_zero kb0 aj) this
      refine (ground_iff ha hb).mpr ⟨_, _, bj, aj, maps_eq (by omega) fun k hk => ?_⟩
      have := all k (by omega)
      rw [Int.mul_comm, ← this, Int.mul_comm]
    · have := h0 ka (by omega)
      rw [getD_cross (by omega), aj, Int.mul_zero, Int.sub_zero] at this
      exact absurd this (Int.mul_ne_zero ka0 bj)
  · rw [e]
    refine iff_of_false (by decide : ¬ (2 : Nat) < 2) fun g => ?_
    obtain ⟨u, v, u0, v0, em⟩ := (ground_iff ha hb).mp g
    have p := eq_maps em
    have cz : ∀ i, b.getD i 0 * a.getD j 0 = a.getD i 0 * b.getD j 0 := fun i => by
      have h1 := p i
      have h2 := p j
      have : u * (b.getD i 0 * a.getD j 0) = u * (a.getD i 0 * b.getD j 0) := by
        rw [Int.mul_left_comm, h2, ← Int.mul_assoc u, h1, ← Int.mul_assoc, Int.mul_comm (b.getD i 0)]
      exact Int.eq_of_mul_eq_mul_left u0 this
    apply hc
    rcases o with ⟨rfl, aj⟩ | ⟨rfl, aj, bj⟩
    · rw [getD_cross (by omega), cz k]; omega
    · rw [getD_cross (by omega), ← cz k]; omega
section
variable {h : Hs} {E : DL.EP} {Q : Val → Hs → Prop} {L B : Nat}
theorem law_rank_ok {v : Val} {g : List (Nat × List D)} {rows : List (List Int)} {w : Nat} {ds : List D} (hv : seqOf v h = some (ds, g)) (hc : Chk g h) (hd : ds = rows.map (fun r => .tuple (r.map .int)) ∨ ds = rows.map rowD) (ok : RowsOk L B rows) (hw : w ≤ L) (hL : L ≤ 100) (hn : rows.length ≤ 1000) (hB : bitsC B w ≤ 1000000) :
    F__law_rank [v, .d (.int w)] h = .ok (.d (.int ((clearC rows w).2.length : Nat))) h := by
  have cl := law_clear_ok hv hc hd ok hw hL hn hB
  refine wpR_eq ?_
  unfold F__law_rank G__law_rank
  rw [wpR_mkF]
  refine ⟨rfl, ?_⟩
  have len : ∀ h, vS (.d (rowsD (clearC rows w).2)) h = some (.list ((clearC rows w).2.map rowD)) := fun _ => rfl
  simp [startE, cl, len, atI_zero]
def rowD' (l : Ln) : D := .tuple ((rowL l).map .int)
theorem law_is_new_ok {n m : Nat} {l : Ln} {ls : List Ln} (kl : LineOk n m l) (kls : ∀ x ∈ ls, LineOk n m x) (hn : n ≤ 90) (hm : bitsC m (n + 1) ≤ 1000000) (hl : ls.length ≤ 1000) :
    F__law_is_new [.d (.tuple (ls.map lineD)), .d (lineD l), .d (.int n)] h = .ok (.d (.bool (decide (∀ x ∈ ls, ground (rowL x) ≠ ground (rowL l))))) h := by
  refine wpR_eq ?_
  unfold F__law_is_new G__law_is_new
  rw [wpR_mkF]
  refine ⟨rfl, ?_⟩
  have l0 : ∀ l : Ln, dIx (lineD l) (.int 0) = some (.tuple (l.1.map .int)) := fun l => rfl
  have l1 : ∀ l : Ln, dIx (lineD l) (.int 1) = some (.int l.2) := fun l => rfl
  have adl : ∀ l : Ln, l.1.length ≤ 1000 → dAdd (.tuple (l.1.map .int)) (.tuple [.int l.2]) = some (rowD' l) := fun l hl => by
    show (if _ then _ else _) = _
    rw [if_pos (sz_le (by simp; omega))]
    simp [rowD', rowL]
  have a1 := adl l (by rw [kl.len]; omega)
  simp [startE, l0, l1, a1, sz_le]
  refine wp_for0 (fun i ρ h' => ∃ x4 x5, (∃ t, h' = h ++ t) ∧ ρ = [some (.d (.tuple (ls.map lineD))), some (.d (lineD l)), some (.d (.int n)), some (.d (rowD' l)), x4, x5] ∧ ∀ x ∈ ls.take i, ground (rowL x) ≠ ground (rowL l)) (fun _ _ _ _ => Chk_nil _) ⟨none, none, ⟨[], by simp⟩, rfl, by simp⟩ ?_ ?_
  · rintro i d ρ h' hd ⟨x4, x5, ⟨t, rfl⟩, rfl, hx⟩
    obtain ⟨y, hy, rfl⟩ : ∃ y, ls[i]? = some y ∧ lineD y = d := by simpa using hd
    have ym := List.mem_of_getElem? hy
    have ky := kls y ym
    have a2 := adl y (by rw [ky.len]; omega)
    have lr : ∀ {l : Ln}, LineOk n m l → (rowL l).length = n + 1 ∧ ∀ x ∈ rowL l, Lt2 m x := fun k => ⟨by simp [rowL, k.len], k.bits⟩
    have rk := law_rank_ok (h := h ++ (t ++ [.lst [rowD' y, rowD' l]])) (v := .r (h ++ t).length) (g := [((h ++ t).length, [rowD' y, rowD' l])]) (rows := [rowL y, rowL l]) (w := n + 1) (ds := [rowD' y, rowD' l]) (L := n + 1) (B := m) (by simp [seqOf]) (Chk_at (by simp)) (.inl rfl) (fun r hr => by
      have : r = rowL y ∨ r = rowL l := by simpa using hr
      rcases this with rfl | rfl
      · exact lr ky
      · exact lr kl) (Nat.le_refl _) (by omega) (by simp) hm
    have r2 := rank2 (lr ky).1 (lr kl).1 ky.row kl.row
    have e1 : ((n + 1 : Nat) : Int) = (n : Int) + 1 := by omega
    rw [e1] at rk
    have cst : ∀ k : Nat, ((k : Int) < 2) ↔ k < 2 := fun k => by omega
    rw [List.take_succ, hy]
    simp at rk
    have yl : lineD y = .tuple [.tuple (y.1.map .int), .int y.2] := rfl
    rw [yl] at *
    simp [a2, sz_le, rk, cst, r2]
    by_cases hg : ground (rowL y) = ground (rowL l)
    · simp [hg]
      exact ⟨y.1, y.2, ym, hg⟩
    · simp [hg]
      intro a b m
      rcases m with m | m
      · exact hx (a, b) m
      · rw [m]; exact hg
  · rintro ρ h' ⟨x4, x5, ⟨t, rfl⟩, rfl, hx⟩
    have hx : ∀ x ∈ ls, ground (rowL x) ≠ ground (rowL l) := by simpa using hx
    simp
    exact fun a b m => hx (a, b) m
end

end W_k28

set_option maxHeartbeats 400000
namespace W_k28
open PySem PySem.Spec PyProof.Rows L2 DL
-- at 28
/-! ### questions drawn -/
section
variable {h : Hs} {E : DL.EP} {Q : Val → Hs → Prop} {n m : Nat}
/-- the sides drawn so far -/
def QMid (i n m B : Nat) (h : Hs) (ok : List Int → Prop) (ρ : DL.Env) (h' : Hs) : Prop := ∃ (s : List Int) (sp : Nat), ρ = [some (.r i), some (.d (.int n)), some (.d (.int m)), some (.r sp), none] ∧ s.length = n ∧ (∀ x ∈ s, x.natAbs ≤ m) ∧ sp ≠ i ∧ h.length ≤ sp ∧ h'[sp]? = some (.lst (s.map .int)) ∧ Pl i B h h' ∧ ok s
theorem question_wp {i B : Nat} (d : PotAt i B h) (hB : B ≤ 8000) (hn1 : 1 ≤ n) (hn : n ≤ 3) (hm1 : 1 ≤ m) (hm : m ≤ 9) (q : ∀ l h', LineOk n 4 l → l.2.natAbs ≤ 9 → Pk i (B + 10) h h' → Q (.d (lineD l)) h') : wpR (F__law_question [.r i, .d (.int n), .d (.int m)] h) Q E := by
  have lt := d.lt
  unfold F__law_question G__law_question
  rw [wpR_mkF]
  refine ⟨rfl, ?_⟩
  simp only [startE, List.map_cons, List.map_nil, List.length_cons, List.length_nil, List.cons_append, List.nil_append, List.replicate]
  have dm : dMul (.int 2) (.int m) = some (.int (2 * m)) := dMul_of (n := 2) (m := 4) (show Int.natAbs 2 < 2 ^ 2 by decide) (show (m : Int).natAbs < 2 ^ 4 by omega) (by omega)
  have lg : (2 * (m : Int) + 1).natAbs.log2 < 9000 := by
    have : (2 * (m : Int) + 1).natAbs.log2 < 10 := (Nat.log2_lt (by omega)).mpr (by omega)
    omega
  -- the sides
  refine wpS_cut (QMid i n m (B + 3) h fun _ => True) ?_ ?_
  · simp [small_nat (show n ≤ 100000 by omega)]
    refine wp_lcM_inv (fun j h' acc => ∃ s : List Int, acc = s.map .int ∧ s.length = j ∧ (∀ x ∈ s, x.natAbs ≤ m) ∧ Pk i (B + j) h h') (fun _ _ _ _ => Chk_nil _) ⟨[], rfl, rfl, (fun x hx => by cases hx), Pk.refl d⟩ ?_ ?_
    · rintro j dd h1 acc hd ⟨s, rfl, sl, sb, d1⟩ _
      obtain ⟨hj, rfl⟩ := rng_get hd
      have al : (s.map PyData.int).length < sizeLine := by rw [List.length_map, sizeLine_eq]; omega
      simp [dm]
      refine pick_wp d1.pot (by omega) (by omega) lg fun t h2 t0 t1 d2 => ?_
      simp at al
      simp [al]
      refine ⟨s ++ [t - m], by simp, by simp [sl], fun x hx => ?_, d1.trans (d2.mono (by omega))⟩
      rcases List.mem_append.mp hx with hx | hx
      · exact sb x hx
      · have : x = t - m := by simpa using hx
        omega
    · rintro es h1 ⟨s, rfl, sl, sb, d1⟩
      rw [rng_len] at sl d1
      have lh := d1.len
      simp
      exact ⟨s, h1.length, by simp, sl, sb, by omega, by omega, by simp, ((Pl.of d1).push _).mono (by omega), trivial⟩
  rintro ρ h1 ⟨s, sp, rfl, sl, sb, spi, hs, at1, d1, _⟩
  -- at times noughts
  refine wpS_cut (QMid i n m (B + 4) h fun _ => True) ?_ ?_
  · simp
    refine pick_wp d1.pot (by omega) (by decide) (by decide) fun t h2 t0 t1 d2 => ?_
    have n3 : n = 1 ∨ n = 2 ∨ n = 3 := by omega
    have dzm : dMulM (.list [.int 0]) (.int n) = some (List.replicate n (PyData.int 0)) := by
      show (if _ then _ else _) = _
      rw [if_pos ⟨by rcases n3 with rfl | rfl | rfl <;> decide, sz_le (by simp; omega)⟩, flatten_one]; rfl
    by_cases ht : t = 0
    · simp [ht, dEq_int, sz_le, dzm]
      have l2 := d2.len
      have l1 := d1.len
      exact ⟨List.replicate n 0, h2.length, by simp, by simp, fun x hx => by rw [List.eq_of_mem_replicate hx]; simp, by omega, by omega, by simp, ((d1.step d2).push _).mono (by omega), trivial⟩
    · simp [ht, dEq_int]
      exact ⟨s, sp, rfl, sl, sb, spi, hs, (d2.oth _ spi).trans at1, (d1.step d2).mono (by omega), trivial⟩
  clear d1 at1 hs spi sb sl sp s h1
  rintro ρ h1 ⟨s, sp, rfl, sl, sb, spi, hs, at1, d1, _⟩
  -- at least one
  refine wpS_cut (QMid i n m (B + 6) h fun s => ∃ x ∈ s, x ≠ 0) ?_ ?_
  · have n3 : n = 1 ∨ n = 2 ∨ n = 3 := by omega
    have dz : dMul (.list [.int 0]) (.int n) = some (.list (List.replicate n (PyData.int 0))) := by
      show (if _ then _ else _) = _
      rw [if_pos ⟨by rcases n3 with rfl | rfl | rfl <;> decide, sz_le (by simp; omega)⟩, flatten_one]; rfl
    have eqz := dEq_ints s (List.replicate n 0)
    rw [List.map_replicate] at eqz
    by_cases hz : s = List.replicate n 0
    · subst hz
      have dme : dEq (.list (List.replicate n (PyData.int 0))) (.list (List.replicate n (PyData.int 0))) = some (.bool true) := by simpa using eqz
      have l1 := d1.len
      rw [List.map_replicate] at at1
      simp [vD_r at1, sz_le, dz, dme]
      refine pick_wp d1.pot (by omega) (by omega) (log_small (by omega)) fun t2 h2 t20 t21 d2 => ?_
      have d2' := d1.step d2
      have at2 := (d2.oth _ spi).trans at1
      simp
      refine pick_wp d2.pot (by omega) (by omega) (log_small (by omega)) fun t h3 t0 t1 d3 => ?_
      have d3' := d2'.step d3
      have at3 := (d3.oth _ spi).trans at2
      obtain ⟨j, rfl⟩ : ∃ j : Nat, t = (j : Int) := ⟨t.toNat, by omega⟩
      have jn : j < n := by omega
      have ixn : ixN n (j : Int) = some j := by
        unfold ixN
        rw [if_pos (by omega), if_pos (by omega)]; rfl
      have l3 : sp < h3.length := (List.getElem?_eq_some_iff.mp at3).1
      have d4 := (d3'.set lt hs (.lst ((List.replicate n (PyData.int 0)).set j (.int (1 + t2)))))
      simp [at3, ixn]
      refine ⟨(List.replicate n (0 : Int)).set j (1 + t2), sp, rfl, by simp, fun x hx => ?_, spi, hs, by rw [List.getElem?_set_self l3, List.map_set, List.map_replicate], d4.mono (by omega), 1 + t2, List.mem_of_getElem? (i := j) (by rw [List.getElem?_set_self (by simpa using jn)]), by omega⟩
      rcases List.mem_or_eq_of_mem_set hx with hx | hx
      · rw [List.eq_of_mem_replicate hx]; simp
      · rw [hx]; omega
    · simp [vD_r at1, sz_le, dz, eqz, hz]
      refine ⟨s, sp, rfl, sl, sb, spi, hs, at1, d1.mono (by omega), ?_⟩
      refine Classical.byContradiction fun no => hz ?_
      refine List.eq_replicate_iff.mpr ⟨sl, fun x hx => ?_⟩
      exact Classical.byContradiction fun x0 => no ⟨x, hx, x0⟩
  clear d1 at1 hs spi sb sl sp s h1
  rintro ρ h1 ⟨s, sp, rfl, sl, sb, spi, hs, at1, d1, ex⟩
  have fin : ∀ (w : Int) h', w.natAbs ≤ 9 → Pl i (B + 8) h h' → Q (.d (lineD (s, w))) (h'.take h.length) := fun w h' hw d' => q (s, w) _ ⟨sl, ex, fun x hx => by
    have : x.natAbs ≤ 9 := by
      rcases List.mem_append.mp hx with hx | hx
      · have := sb x hx; omega
      · have : x = w := by simpa using hx
        rw [this]; exact hw
    show x.natAbs < 2 ^ 4
    omega⟩ hw ((d'.cut lt).mono (by omega))
  have vt : vDs [.r sp] h1 = some [.list (s.map .int)] := by simp [vDs, vD, at1]
  simp [vt]
  refine pick_wp (m := 3) d1.pot (by omega) (by decide) (by decide) fun t h2 t0 t1 d2 => ?_
  have d2' := d1.step d2
  by_cases ht : 0 < t
  · simp [ht, dm]
    refine pick_wp d2.pot (by omega) (by omega) lg fun t2 h3 t20 t21 d3 => ?_
    simp [sz_le]
    exact fin _ _ (by omega) ((d2'.step d3).mono (by omega))
  · simp [ht, sz_le]
    exact fin _ _ (by decide) (d2'.mono (by omega))
end

end W_k28

set_option maxHeartbeats 400000
namespace W_k28
open PySem PySem.Spec PyProof.Rows L2 DL
-- at 28
/-! ### books of webs drawn -/
def tieD (p : Nat × Nat) : D := .tuple [.int p.1, .int p.2]
def preT (j : Nat) : List (Nat × Nat) := (List.range j).flatMap fun i => (List.range (3 - i)).map fun k => (i, i + 1 + k)
theorem preT_succ (j : Nat) : preT (j + 1) = preT j ++ (List.range (3 - j)).map fun k => (j, j + 1 + k) := by
  unfold preT
  rw [List.range_succ, List.flatMap_append]; simp
def sixT : List (Nat × Nat) := [(0, 1), (0, 2), (0, 3), (1, 2), (1, 3), (2, 3)]
theorem preT_four : preT 4 = sixT := by decide
theorem preT_le (j : Nat) (h : j ≤ 4) : (preT j).length ≤ 6 := by
  have : j = 0 ∨ j = 1 ∨ j = 2 ∨ j = 3 ∨ j = 4 := by omega
  rcases this with rfl | rfl | rfl | rfl | rfl <;> decide
def tieL (p : Nat × Nat) (u : Int) : Ln := ((List.range 4).map (fun k : Nat => u * ((if k = p.1 then 1 else 0) - (if k = p.2 then 1 else 0))), 0)
def gndT (p : Nat × Nat) : List Int := rowL (tieL p 1)
theorem tie_facts : ∀ p ∈ sixT, ∀ u ∈ [(1 : Int), -1], ground (rowL (tieL p u)) = gndT p ∧ (tieL p u).1.length = 4 ∧ (∃ x ∈ (tieL p u).1, x ≠ 0) ∧ ∀ x ∈ rowL (tieL p u), x.natAbs < 2 ^ 4 := by decide +kernel
theorem six_nodup : (sixT.map gndT).Nodup := by decide +kernel
theorem tie_line {p : Nat × Nat} {u : Int} (hp : p ∈ sixT) (hu : u = 1 ∨ u = -1) : LineOk 4 4 (tieL p u) ∧ ground (rowL (tieL p u)) = gndT p := by
  obtain ⟨a, b, c, d⟩ := tie_facts p hp u (by simpa using hu)
  exact ⟨⟨b, c, d⟩, a⟩
theorem seqIndex_nat {j n : Nat} (h : j < n) : seqIndex? (j : Int) n = some j := by
  unfold seqIndex?
  simp
  omega
section
variable {h : Hs} {E : DL.EP} {Q : Val → Hs → Prop}
theorem okD_ties (ts : List (Nat × Nat)) (hl : ts.length ≤ 4096) : okD 3 (.list (ts.map tieD)) := by
  refine ⟨by simpa using hl, fun x hx => ?_⟩
  obtain ⟨p, _, rfl⟩ := List.mem_map.mp hx
  refine ⟨by simp, fun y hy => ?_⟩
  have : y = .int p.1 ∨ y = .int p.2 := by simpa using hy
  rcases this with rfl | rfl <;> exact True.intro
def WMid (i B : Nat) (h : Hs) (ts : List (Nat × Nat)) (ρ : DL.Env) (h' : Hs) : Prop := ∃ (tp : Nat) (x4 x5 : Option Val), ρ = [some (.r i), some (.d (.int 6)), some (.r tp), some (.d (.tuple [])), x4, x5, none, none] ∧ tp ≠ i ∧ h.length ≤ tp ∧ h'[tp]? = some (.lst (ts.map tieD)) ∧ Pl i B h h'
theorem web_wp {i B : Nat} (d : PotAt i B h) (hB : B ≤ 8000) (q : ∀ ls h', PageOk 4 4 ls → ls.length ≤ 6 → (∀ l ∈ ls, l.2 = 0) → Pk i (B + 20) h h' → Q (.d (pageD 4 ls)) h') : wpR (F__law_web [.r i, .d (.int 6)] h) Q E := by
  have lt := d.lt
  unfold F__law_web G__law_web
  rw [wpR_mkF]
  refine ⟨rfl, ?_⟩
  simp only [startE, List.map_cons, List.map_nil, List.length_cons, List.length_nil, List.cons_append, List.nil_append, List.replicate]
  have s4 : smallI 4 = true := small_nat (k := 4) (by omega)
  refine wpS_cut (WMid i B h (preT 0)) ?_ ?_
  · simp [sz_le]
    exact ⟨h.length, none, none, rfl, by omega, by omega, by simp [preT], (Pl.start d).push _⟩
  rintro ρ h1 hm
  -- all ties
  refine wpS_cut (WMid i B h sixT) ?_ ?_
  · simp [s4]
    refine wp_for0 (fun j ρ h' => WMid i B h (preT j) ρ h') (fun _ _ _ _ => Chk_nil _) hm ?_ ?_
    · rintro j dd ρ h2 hd ⟨tp, x4, x5, rfl, ti, tl, at1, d1⟩
      obtain ⟨hj, rfl⟩ := rng_get hd
      have hj4 : j < 4 := hj
      have sj : smallI ((j : Int) + 1) = true := small_nat (k := j + 1) (by omega)
      have e1 : (4 - ((j : Int) + 1)).toNat = 3 - j := by omega
      have er : rng ((j : Int) + 1) (3 - j) = (List.range (3 - j)).map fun k : Nat => PyData.int ((j : Int) + 1 + k) := rfl
      simp [sj, s4, e1, er]
      refine wp_lc_map (fun k : Nat => .int ((j : Int) + 1 + k)) (fun k : Nat => tieD (j, j + 1 + k)) rfl (Chk_nil _) (sz_le (by simp; omega)) (fun k hk => ?_) ?_
      · simp [sz_le, tieD]
      have pl := preT_le (j + 1) (by omega)
      have ep := preT_succ j
      have ad : dAddM (.list ((preT j).map tieD)) (.list ((List.range (3 - j)).map fun k : Nat => tieD (j, j + 1 + k))) = some ((preT (j + 1)).map tieD) := by
        rw [ep] at pl ⊢
        show (if _ then _ else _) = _
        rw [if_pos (sz_le (by simp at pl ⊢; omega))]
        simp
      have i2 := d1.pot.lt
      simp [vD_r at1, ad]
      exact ⟨h2.length, _, _, rfl, by omega, by have := d1.len; omega, by simp, d1.push _⟩
    · rintro ρ h2 hm
      rw [rng_len] at hm
      exact hm
  clear hm h1
  rintro ρ h1 hm
  -- some left out
  refine wpS_cut (fun ρ h' => ∃ ts, ts.Sublist sixT ∧ WMid i (B + 14) h ts ρ h') ?_ ?_
  · refine wp_while (fun n ρ h' => ∃ ts : List (Nat × Nat), n = ts.length ∧ ts.Sublist sixT ∧ WMid i (B + 2 * (6 - ts.length)) h ts ρ h') ⟨sixT, rfl, List.Sublist.refl _, by rw [show B + 2 * (6 - sixT.length) = B by simp [sixT]]; exact hm⟩ ?_
    rintro n ρ h2 ⟨ts, rfl, sub, tp, x4, x5, rfl, ti, tl, at1, d1⟩
    have l6 : ts.length ≤ 6 := sub.length_le
    have ne := dNe_nilL (okD_ties ts (by omega)) (by omega)
    have n6 : ¬ (6 : Int) < ts.length := by omega
    have n6' : ¬ 6 < ts.length := by omega
    simp [vS_r at1, vD_r at1, n6, n6', ne, sz_le]
    by_cases hz : ts = []
    · subst hz
      simp
      exact ⟨[], List.nil_sublist _, tp, x4, x5, rfl, ti, tl, at1, d1.mono (by omega)⟩
    · have lpos : 0 < ts.length := List.length_pos_iff.mpr hz
      simp [hz]
      refine pick_wp (m := 4) d1.pot (by omega) (by decide) (by decide) fun t h3 t0 t1 d2 => ?_
      have d2' := d1.step d2
      have at2 := (d2.oth _ ti).trans at1
      by_cases ht : t = 0
      · simp [dEq_int, ht, vS_r at2, at2]
        refine pick_wp (m := (ts.length : Int)) d2.pot (by omega) (by omega) (log_small (by omega)) fun t h4 t0 t1 d3 => ?_
        have d3' := d2'.step d3
        have at3 := (d3.oth _ ti).trans at2
        obtain ⟨j, rfl⟩ : ∃ j : Nat, t = (j : Int) := ⟨t.toNat, by omega⟩
        have jl : j < ts.length := by omega
        have gp : gPopAt (ts.map tieD) [.int j] = some ((ts.eraseIdx j).map tieD, tieD ts[j]) := by
          unfold gPopAt
          have l63 : (j : Int).natAbs.log2 < 63 := by
            rw [Int.natAbs_natCast]
            have := Nat.log2_le_self j
            omega
          simp only [if_pos l63, List.length_map, seqIndex_nat jl]
          simp [jl, List.eraseIdx_eq_take_drop_succ]
        have l3 : tp < h4.length := (List.getElem?_eq_some_iff.mp at3).1
        simp [at3, gp]
        refine ⟨(ts.eraseIdx j).length, by rw [List.length_eraseIdx, if_pos jl]; omega, ts.eraseIdx j, rfl, (List.eraseIdx_sublist _ _).trans sub, tp, _, _, rfl, ti, tl, by rw [List.getElem?_set_self l3], (d3'.set lt tl _).mono ?_⟩
        rw [List.length_eraseIdx, if_pos jl]; omega
      · simp [dEq_int, ht]
        exact ⟨ts, sub, tp, x4, x5, rfl, ti, tl, at2, d2'.mono (by omega)⟩
  clear hm h1
  rintro ρ h1 ⟨ts, sub, tp, x4, x5, rfl, ti, tl, at1, d1⟩
  have l6 : ts.length ≤ 6 := sub.length_le
  have sq : seqOf (.r tp) h1 = some (ts.map tieD, [(tp, ts.map tieD)]) := by simp [seqOf, at1]
  simp [sq]
  refine wp_for0 (fun j ρ h' => ∃ (ls : List Ln) (x4 x5 x6 x7 : Option Val), ρ = [some (.r i), some (.d (.int 6)), some (.r tp), some (.d (.tuple (ls.map lineD))), x4, x5, x6, x7] ∧ ls.length = j ∧ (∀ l ∈ ls, LineOk 4 4 l ∧ l.2 = 0) ∧ (ls.map fun l => ground (rowL l)) = (ts.take j).map gndT ∧ h'[tp]? = some (.lst (ts.map tieD)) ∧ Pl i (B + 14 + j) h h') (fun j ρ h' hI => by
    obtain ⟨ls, y4, y5, y6, y7, _, _, _, _, a, _⟩ := hI
    exact Chk_at a) ⟨[], _, _, _, _, rfl, rfl, (fun l hl => by cases hl), rfl, at1, d1⟩ ?_ ?_
  · rintro j dd ρ h2 hd ⟨ls, y4, y5, y6, y7, rfl, ll, lo, ge, at2, d2⟩
    obtain ⟨p, hp, rfl⟩ : ∃ p, ts[j]? = some p ∧ tieD p = dd := by simpa using hd
    have pm := sub.subset (List.mem_of_getElem? hp)
    have jl : j < ts.length := (List.getElem?_eq_some_iff.mp hp).1
    have td : tieD p = .tuple [.int p.1, .int p.2] := rfl
    rw [td]
    simp [-wpS_sSeq]
    refine wpS_cut (fun ρ h' => ∃ u : Int, (u = 1 ∨ u = -1) ∧ ρ = [some (.r i), some (.d (.int 6)), some (.r tp), some (.d (.tuple (ls.map lineD))), some (.d (.int p.1)), some (.d (.int p.2)), some (.d (.int u)), y7] ∧ h'[tp]? = some (.lst (ts.map tieD)) ∧ Pl i (B + 14 + (j + 1)) h h') ?_ ?_
    · simp
      refine pick_wp (m := 3) d2.pot (by omega) (by decide) (by decide) fun t h3 t0 t1 d3 => ?_
      have d3' := d2.step d3
      have at3 := (d3.oth _ ti).trans at2
      by_cases ht : t = 0
      · simp [ht, dEq_int]
        exact ⟨at3, d3'⟩
      · simp [ht, dEq_int]
        exact ⟨at3, d3'⟩
    rintro ρ h3 ⟨u, hu, rfl, at3, d3⟩
    have e2 : (ts.take (j + 1)).map gndT = (ts.take j).map gndT ++ [gndT p] := by rw [List.take_succ, hp]; simp
    have nxt : (∀ l ∈ ls ++ [tieL p u], LineOk 4 4 l ∧ l.2 = 0) ∧ ((ls ++ [tieL p u]).map fun l => ground (rowL l)) = (ts.take (j + 1)).map gndT := by
      obtain ⟨a, b⟩ := tie_line pm hu
      refine ⟨fun l hl => ?_, ?_⟩
      · rcases List.mem_append.mp hl with hl | hl
        · exact lo l hl
        · have : l = tieL p u := by simpa using hl
          rw [this]; exact ⟨a, rfl⟩
      · rw [e2, List.map_append, ge]
        simp [b]
    have rg : rng 0 4 = (List.range 4).map fun k : Nat => PyData.int (k : Int) := by simp [rng]
    have eqi : ∀ k l : Nat, dEq (.int (k : Int)) (.int (l : Int)) = some (.bool (decide (k = l))) := fun k l => by rw [dEq_int]; simp; omega
    have dmu : ∀ x : Int, (x = 0 ∨ x = 1 ∨ x = -1) → dMul (.int u) (.int x) = some (.int (u * x)) := fun x hx => dMul_of (n := 2) (m := 2) (by unfold Lt2; rcases hu with rfl | rfl <;> decide) (by unfold Lt2; rcases hx with rfl | rfl | rfl <;> decide) (by omega)
    simp [s4, rg]
    refine wp_lc_map (fun k : Nat => .int (k : Int)) (fun k : Nat => .int (u * ((if k = p.1 then 1 else 0) - (if k = p.2 then 1 else 0)))) rfl (Chk_nil _) (sz_le (by simp)) (fun k hk => ?_) ?_
    · have m := dmu ((if k = p.1 then 1 else 0) - (if k = p.2 then 1 else 0)) (by split <;> split <;> simp)
      simp [eqi, dInt, m]
    have e3 : PyData.tuple [.tuple ((List.range 4).map fun k : Nat => PyData.int (u * ((if k = p.1 then 1 else 0) - (if k = p.2 then 1 else 0)))), .int 0] = lineD (tieL p u) := by simp [lineD, tieL, Function.comp_def]
    have ad : dAdd (.tuple (ls.map lineD)) (.tuple [lineD (tieL p u)]) = some (.tuple ((ls ++ [tieL p u]).map lineD)) := by rw [dAdd_t (by simp; omega)]; simp
    simp [sz_le, e3, ad]
    exact ⟨ls ++ [tieL p u], by simp, by simp [ll], fun a b m => nxt.1 (a, b) m, by rw [nxt.2, List.map_take], at3, d3⟩
  · rintro ρ h2 ⟨ls, y4, y5, y6, y7, rfl, ll, lo, ge, at2, d2⟩
    rw [List.length_map] at ll ge d2
    simp [sz_le]
    refine q ls _ ⟨by omega, by omega, by omega, fun l hl => (lo l hl).1, ?_, by omega⟩ (by omega) (fun l hl => (lo l hl).2) ((d2.cut lt).mono (by omega))
    rw [ge, List.take_length]
    exact (sub.map _).nodup six_nodup
end

end W_k28

set_option maxHeartbeats 400000
namespace W_k28
open PySem PySem.Spec PyProof.Rows L2 DL
-- at 28
/-! ### books drawn -/
theorem pick_one {l : List Int} {t : Int} (h0 : 0 ≤ t) (h1 : t < l.length) : ∃ x ∈ l, atI (l.map PyData.int) t = some (.int x) := by
  obtain ⟨j, rfl⟩ : ∃ j : Nat, t = (j : Int) := ⟨t.toNat, by omega⟩
  have jl : j < l.length := by omega
  exact ⟨l[j], List.getElem_mem jl, by rw [DL.atI_nat]; simp [jl]⟩
theorem bits4 {n : Nat} (hn : n ≤ 4) : bitsC 4 (n + 1) ≤ 1000000 := by
  have : n = 0 ∨ n = 1 ∨ n = 2 ∨ n = 3 ∨ n = 4 := by omega
  rcases this with rfl | rfl | rfl | rfl | rfl <;> decide
section
variable {h : Hs} {E : DL.EP} {Q : Val → Hs → Prop} {n m : Nat}
/-- the book so far -/
def BMid (i n m B : Nat) (h : Hs) (j : Nat) (ρ : DL.Env) (h' : Hs) : Prop := ∃ (ls : List Ln) (x5 x6 x7 x8 : Option Val), ρ = [some (.r i), some (.d (.int 6)), some (.d (.int m)), some (.d (.int n)), some (.d (.tuple (ls.map lineD))), x5, x6, x7, x8] ∧ (∀ l ∈ ls, LineOk n 4 l ∧ l.2.natAbs ≤ 9) ∧ (ls.map fun l => ground (rowL l)).Nodup ∧ ls.length ≤ j ∧ Pk i (B + 14 * j) h h'
/-- the next question -/
def NMid (i n m B j : Nat) (h : Hs) (ls : List Ln) (ρ : DL.Env) (h' : Hs) : Prop := ∃ (l : Ln) (x7 x8 : Option Val), ρ = [some (.r i), some (.d (.int 6)), some (.d (.int m)), some (.d (.int n)), some (.d (.tuple (ls.map lineD))), some (.d (.int j)), some (.d (lineD l)), x7, x8] ∧ l.1.length = n ∧ (∃ x ∈ l.1, x ≠ 0) ∧ (∀ x ∈ l.1, x.natAbs < 2 ^ 4) ∧ -9 ≤ l.2 ∧ Pk i B h h'
theorem book_wp {i B : Nat} (d : PotAt i B h) (hB : B ≤ 7000) (hm1 : 1 ≤ m) (hm : m ≤ 9) (q : ∀ n ls h', n ≤ 4 → PageOk n 4 ls → ls.length ≤ 6 → Pk i (B + 100) h h' → Q (.d (pageD n ls)) h') : wpR (F__law_book [.r i, .d (.int 6), .d (.int m)] h) Q E := by
  have lt := d.lt
  unfold F__law_book G__law_book
  rw [wpR_mkF]
  refine ⟨rfl, ?_⟩
  simp [startE, -wpS_sSeq]
  rw [wpS_sSeq]
  simp [-wpS_sSeq]
  refine pick_wp (m := 6) d (by omega) (by decide) (by decide) fun t h1 t0 t1 d1 => ?_
  have tk : ∀ h' : Hs, h'.length = h.length → h'.take h.length = h' := fun h' e => List.take_of_length_le (by omega)
  by_cases ht : t = 0
  · simp [ht, dEq_int]
    refine web_wp d1.pot (by omega) fun ls h2 pk l6 _ d2 => ?_
    have l2 : h2.length = h.length := (d1.trans d2).len
    simp [tk _ l2]
    exact q 4 ls _ (by omega) pk l6 ((d1.trans d2).mono (by omega))
  · simp [ht, dEq_int, -wpS_sSeq]
    refine wpS_cut (fun ρ h' => ∃ n : Nat, 1 ≤ n ∧ n ≤ 3 ∧ BMid i n m (B + 2) h 0 ρ h') ?_ ?_
    · simp [sz_le]
      refine pick_wp (m := 4) d1.pot (by omega) (by decide) (by decide) fun t h2 t0 t1 d2 => ?_
      obtain ⟨x, hx, ex⟩ := pick_one (l := [1, 2, 2, 3]) t0 t1
      simp at ex
      simp [ex, sz_le]
      have x3 : x = 1 ∨ x = 2 ∨ x = 3 := by simp at hx; omega
      refine ⟨x.toNat, by omega, by omega, [], none, none, none, none, by simp; omega, (fun l hl => by cases hl), List.nodup_nil, Nat.le_refl _, (d1.trans d2).mono (by omega)⟩
    rintro ρ h2 ⟨n, n1, n3, ls, x5, x6, x7, x8, rfl, lo, nd, ll, d2⟩
    simp [sz_le]
    refine pick_wp (m := 7) d2.pot (by omega) (by decide) (by decide) fun t h3 t0 t1 d3 => ?_
    simp [sz_le]
    refine pick_wp (m := 4) d3.pot (by omega) (by decide) (by decide) fun t2 h4 t20 t21 d4 => ?_
    obtain ⟨x, hx, ex⟩ := pick_one (l := [6, 6, 5, t]) t20 t21
    have x6 : 0 ≤ x ∧ x ≤ 6 := by simp at hx; omega
    obtain ⟨k, rfl⟩ : ∃ k : Nat, x = (k : Int) := ⟨x.toNat, by omega⟩
    simp at ex
    simp [ex, small_nat (show k ≤ 100000 by omega)]
    refine wp_for0 (fun j ρ h' => BMid i n m (B + 4) h j ρ h') (fun _ _ _ _ => Chk_nil _) ⟨ls, _, _, _, _, rfl, lo, nd, ll, ((d2.trans d3).trans d4).mono (by omega)⟩ ?_ ?_
    · clear d4 d3 d2 ll nd lo ls
      rintro j dd ρ h5 hd ⟨ls, x5, x6, x7, x8, rfl, lo, nd, ll, d5⟩
      obtain ⟨hj, rfl⟩ := rng_get hd
      have j6 : j < 6 := by omega
      simp [-wpS_sSeq]
      rw [wpS_sSeq]
      simp [-wpS_sSeq]
      refine question_wp d5.pot (by omega) n1 n3 hm1 hm fun l h6 kl lw d6 => ?_
      simp [-wpS_sSeq]
      have d6' := (d5.trans d6)
      refine wpS_cut (NMid i n m (B + 4 + 14 * j + 13) j h ls) ?_ ?_
      · have ne := dNe_nilT (okD_lines (by omega : n ≤ 4000) (by omega) (fun l hl => (lo l hl).1)).1 (by omega)
        have b0 : ∀ x ∈ l.1, x.natAbs < 2 ^ 4 := fun x hx => kl.bits x (List.mem_append_left _ hx)
        simp [ne]
        by_cases hz : ls = []
        · simp [hz]
          exact ⟨l, _, _, rfl, kl.len, kl.some_, b0, by omega, d6'.mono (by omega)⟩
        · have lpos : 0 < ls.length := List.length_pos_iff.mpr hz
          simp [hz]
          refine pick_wp (m := 4) d6.pot (by omega) (by decide) (by decide) fun t h7 t0 t1 d7 => ?_
          by_cases ht : t = 0
          · simp [ht, dEq_int]
            refine pick_wp (m := (ls.length : Int)) d7.pot (by omega) (by omega) (log_small (by omega)) fun t h8 t0 t1 d8 => ?_
            obtain ⟨k, rfl⟩ : ∃ k : Nat, t = (k : Int) := ⟨t.toNat, by omega⟩
            have kl' : k < ls.length := by omega
            have ix : atI (ls.map lineD) (k : Int) = some (lineD ls[k]) := by rw [DL.atI_nat]; simp [kl']
            obtain ⟨ko, kw⟩ := lo _ (List.getElem_mem kl')
            have ll' : ∀ l : Ln, lineD l = .tuple [.tuple (l.1.map .int), .int l.2] := fun _ => rfl
            generalize ls[k] = g at *
            rw [ll' g] at ix
            simp [ix]
            refine pick_wp (m := (m : Int)) d8.pot (by omega) (by omega) (log_small (by omega)) fun t h9 t0 t1 d9 => ?_
            simp [sz_le]
            exact ⟨(g.1, g.2 + 1 + t), _, _, rfl, ko.len, ko.some_, fun x hx => ko.bits x (List.mem_append_left _ hx), by show -9 ≤ g.2 + 1 + t; omega, (((d6'.trans d7).trans d8).trans d9).mono (by omega)⟩
          · simp [ht, dEq_int]
            exact ⟨l, _, _, rfl, kl.len, kl.some_, b0, by omega, (d6'.trans d7).mono (by omega)⟩
      clear d6' d6 lw kl l h6
      rintro ρ h6 ⟨l, y7, y8, rfl, len, some_, b0, w9, d6⟩
      have i1 : dIx (lineD l) (.int 1) = some (.int l.2) := rfl
      have stay : BMid i n m (B + 4) h (j + 1) [some (.r i), some (.d (.int 6)), some (.d (.int m)), some (.d (.int n)), some (.d (.tuple (ls.map lineD))), some (.d (.int j)), some (.d (lineD l)), y7, y8] h6 := ⟨ls, _, _, _, _, rfl, lo, nd, by omega, d6.mono (by omega)⟩
      by_cases hw : l.2 < 10
      · have kl : LineOk n 4 l := ⟨len, some_, fun x hx => by
          rcases List.mem_append.mp hx with hx | hx
          · exact b0 x hx
          · have : x = l.2 := by simpa using hx
            rw [this]
            show l.2.natAbs < 2 ^ 4
            omega⟩
        have nw := fun h => law_is_new_ok (h := h) kl (fun x hx => (lo x hx).1) (by omega) (bits4 (by omega)) (by omega)
        by_cases hn : ∀ x ∈ ls, ground (rowL x) ≠ ground (rowL l)
        · rw [decide_eq_true hn] at nw
          have ad : dAdd (.tuple (ls.map lineD)) (.tuple [lineD l]) = some (.tuple ((ls ++ [l]).map lineD)) := by rw [dAdd_t (by simp; omega)]; simp
          have fin : BMid i n m (B + 4) h (j + 1) [some (.r i), some (.d (.int 6)), some (.d (.int m)), some (.d (.int n)), some (.d (.tuple ((ls ++ [l]).map lineD))), some (.d (.int j)), some (.d (lineD l)), y7, y8] h6 := ⟨ls ++ [l], _, _, _, _, rfl, fun x hx => by
            rcases List.mem_append.mp hx with hx | hx
            · exact lo x hx
            · have : x = l := by simpa using hx
              rw [this]
              exact ⟨kl, by omega⟩, nodup_snoc nd hn, by simp; omega, d6.mono (by omega)⟩
          simp [i1, hw, nw, sz_le, ad]
          simpa using fin
        · rw [decide_eq_false hn] at nw
          simp [i1, hw, nw]
          exact stay
      · simp [i1, hw]
        exact stay
    · rintro ρ h5 ⟨ls, x5, x6, x7, x8, rfl, lo, nd, ll, d5⟩
      rw [rng_len] at ll d5
      have l5 := d5.len
      simp [sz_le, tk _ l5]
      exact q n ls _ (by omega) ⟨by omega, by omega, by omega, fun l hl => (lo l hl).1, nd, by omega⟩ (by omega) (d5.mono (by omega))
end

end W_k28

set_option maxHeartbeats 400000
namespace W_k28
open PySem PySem.Spec PyProof.Rows L2 DL
-- at 28
/-! ### what merging comes to -/
def divL (l : Ln) : Ln := (l.1.map (· / (gcdL (rowL l) : Int)), l.2 / (gcdL (rowL l) : Int))
theorem rowL_div (l : Ln) : rowL (divL l) = (rowL l).map (· / (gcdL (rowL l) : Int)) := by simp [rowL, divL]
theorem ground_divL {l : Ln} (h : ∃ x ∈ rowL l, x ≠ 0) : ground (rowL (divL l)) = ground (rowL l) := by rw [rowL_div, ground_div h]
theorem LineOk.div {n m : Nat} {l : Ln} (k : LineOk n m l) : LineOk n m (divL l) := by
  have gp := gcdL_pos k.row
  refine ⟨by simp [divL, k.len], ?_, ?_⟩
  · obtain ⟨x, hx, x0⟩ := k.some_
    exact ⟨_, List.mem_map_of_mem hx, (div_ne (gcdL_dvd (List.mem_append_left _ hx)) gp).mpr x0⟩
  · rw [rowL_div]
    intro y hy
    obtain ⟨x, hx, rfl⟩ := List.mem_map.mp hy
    exact div_le_abs (k.bits x hx)
/-- a question behind others, left out if one of the same noughts is there -/
def putQ (acc : List Ln) (q : Ln) : List Ln := if ∀ x ∈ acc, ground (rowL x) ≠ ground (rowL q) then acc ++ [divL q] else acc
def bookQ (qs : List Ln) : List Ln := qs.foldl putQ []
theorem bookQ_ok {n m : Nat} : ∀ {qs acc : List Ln}, (∀ q ∈ qs, LineOk n m q) → (∀ l ∈ acc, LineOk n m l) → (acc.map fun l => ground (rowL l)).Nodup → (∀ l ∈ qs.foldl putQ acc, LineOk n m l) ∧ ((qs.foldl putQ acc).map fun l => ground (rowL l)).Nodup ∧ (qs.foldl putQ acc).length ≤ acc.length + qs.length
  | [], acc, _, ha, nd => ⟨ha, nd, by simp⟩
  | q :: qs, acc, hq, ha, nd => by
    have kq := hq q List.mem_cons_self
    rw [List.foldl_cons]
    have one : (∀ l ∈ putQ acc q, LineOk n m l) ∧ ((putQ acc q).map fun l => ground (rowL l)).Nodup ∧ (putQ acc q).length ≤ acc.length + 1 := by
      unfold putQ
      split
      · rename_i hx
        refine ⟨fun l hl => ?_, nodup_snoc nd fun x mx => by rw [ground_divL kq.row]; exact hx x mx, by simp⟩
        rcases List.mem_append.mp hl with hl | hl
        · exact ha l hl
        · have : l = divL q := by simpa using hl
          rw [this]; exact kq.div
      · exact ⟨ha, nd, by omega⟩
    obtain ⟨a, b, c⟩ := bookQ_ok (fun x m => hq x (List.mem_cons_of_mem _ m)) one.1 one.2.1
    exact ⟨a, b, by rw [List.length_cons]; omega⟩
def lastNZ (s : List Int) : Nat := ((List.range s.length).filter (fun k => decide (s.getD k 0 ≠ 0))).getLastD 0
def taken (l o : Ln) (p : Nat) : Ln :=
  (cutL ((l.1.zip o.1).map fun x => ((l.1.getD p 0).natAbs : Int) * x.2 - (if 0 < l.1.getD p 0 then o.1.getD p 0 else -o.1.getD p 0) * x.1) p,
   ((l.1.getD p 0).natAbs : Int) * o.2 - (if 0 < l.1.getD p 0 then o.1.getD p 0 else -o.1.getD p 0) * l.2)
def someB (q : Ln) : Bool := q.1.any fun x => decide (x ≠ 0)
def mergedL (ls : List Ln) (i : Nat) : List Ln :=
  bookQ (((cutL ls i).map fun o => taken (ls.getD i ([], 0)) o (lastNZ (ls.getD i ([], 0)).1)).filter someB)
theorem last_filter {n : Nat} {p : Nat → Bool} (h : ∃ k < n, p k = true) : ∃ (fs : List Nat) (k : Nat), (List.range n).filter p = fs ++ [k] ∧ k < n ∧ p k = true ∧ ∀ x ∈ fs, x < k := by
  induction n with
  | zero => obtain ⟨k, hk, _⟩ := h; omega
  | succ n ih =>
    rw [List.range_succ, List.filter_append]
    by_cases hp : p n = true
    · exact ⟨(List.range n).filter p, n, by simp [hp], by omega, hp, fun x hx => by simpa using (List.mem_filter.mp hx).1⟩
    · obtain ⟨k, hk, pk⟩ := h
      have : k ≠ n := fun e => hp (e ▸ pk)
      obtain ⟨fs, k, e, a, b, c⟩ := ih ⟨k, by omega, pk⟩
      exact ⟨fs, k, by simp [hp, e], by omega, b, c⟩
theorem last_spec {s : List Int} (h : ∃ x ∈ s, x ≠ 0) : ∃ fs : List Nat, (List.range s.length).filter (fun k => decide (s.getD k 0 ≠ 0)) = fs ++ [lastNZ s] ∧ lastNZ s < s.length ∧ s.getD (lastNZ s) 0 ≠ 0 ∧ ∀ x ∈ fs, x < lastNZ s := by
  obtain ⟨k, kl, k0⟩ := some_getD h
  obtain ⟨fs, j, e, a, b, c⟩ := last_filter (n := s.length) (p := fun k => decide (s.getD k 0 ≠ 0)) ⟨k, kl, by simpa using k0⟩
  have : lastNZ s = j := by unfold lastNZ; rw [e]; simp
  rw [this]
  exact ⟨fs, e, a, by simpa using b, c⟩
theorem getD_mem' {s : List Int} {p : Nat} (h : p < s.length) : s.getD p 0 ∈ s := by rw [getD_lt _ _ _ h]; exact List.getElem_mem _
theorem lt2_cross {m : Nat} {a b c d : Int} (ha : Lt2 m a) (hb : Lt2 m b) (hc : Lt2 m c) (hd : Lt2 m d) : Lt2 (2 * m + 1) (a * b - c * d) := by
  have h1 := ha.mul hb
  have h2 := hc.mul hd
  rw [Int.sub_eq_add_neg]
  exact (h1.add2 h2.neg).mono (by omega)
theorem lt2_abs {m : Nat} {a : Int} (h : Lt2 m a) : Lt2 m (a.natAbs : Int) := by unfold Lt2 at *; rw [Int.natAbs_natCast]; exact h
theorem taken_ok {n m p : Nat} {l o : Ln} (kl : LineOk n m l) (ko : LineOk n m o) (hp : p < n) : (taken l o p).1.length = n - 1 ∧ ∀ x ∈ rowL (taken l o p), Lt2 (2 * m + 1) x := by
  have a : Lt2 m (l.1.getD p 0) := kl.bits _ (List.mem_append_left _ (getD_mem' (s := l.1) (p := p) (by rw [kl.len]; exact hp)))
  have b : Lt2 m (o.1.getD p 0) := ko.bits _ (List.mem_append_left _ (getD_mem' (s := o.1) (p := p) (by rw [ko.len]; exact hp)))
  have c : Lt2 m (if 0 < l.1.getD p 0 then o.1.getD p 0 else -o.1.getD p 0) := by split; exact b; exact b.neg
  refine ⟨?_, fun x hx => ?_⟩
  · unfold taken cutL
    simp [kl.len, ko.len]; omega
  · rcases List.mem_append.mp hx with hx | hx
    · obtain ⟨y, hy, rfl⟩ := List.mem_map.mp ((cutL_sub _ p).subset hx)
      obtain ⟨h1, h2⟩ := List.of_mem_zip hy
      exact lt2_cross (lt2_abs a) (ko.bits _ (List.mem_append_left _ h2)) c (kl.bits _ (List.mem_append_left _ h1))
    · have : x = (taken l o p).2 := by simpa using hx
      rw [this]
      exact lt2_cross (lt2_abs a) (ko.bits _ (by simp [rowL])) c (kl.bits _ (by simp [rowL]))
theorem taken_line {n m p : Nat} {l o : Ln} (kl : LineOk n m l) (ko : LineOk n m o) (hp : p < n) (hs : someB (taken l o p) = true) : LineOk (n - 1) (2 * m + 1) (taken l o p) := by
  obtain ⟨a, b⟩ := taken_ok kl ko hp
  refine ⟨a, ?_, b⟩
  unfold someB at hs
  obtain ⟨x, hx, e⟩ := List.any_eq_true.mp hs
  exact ⟨x, hx, by simpa using e⟩
theorem PageOk.merged {n m i : Nat} {ls : List Ln} (k : PageOk n m ls) (hi : i < ls.length) (hn : 2 ≤ n) (hm : 2 * m + 1 ≤ 4000) : PageOk (n - 1) (2 * m + 1) (mergedL ls i) ∧ (mergedL ls i).length ≤ ls.length := by
  have kl := k.line _ (List.getElem_mem hi)
  have e : ls.getD i ([], 0) = ls[i] := getD_lt _ _ _ hi
  obtain ⟨fs, _, lt, _⟩ := last_spec kl.some_
  rw [kl.len] at lt
  have kq : ∀ q ∈ (((cutL ls i).map fun o => taken ls[i] o (lastNZ ls[i].1)).filter someB), LineOk (n - 1) (2 * m + 1) q := fun q hq => by
    obtain ⟨hq, hs⟩ := List.mem_filter.mp hq
    obtain ⟨o, ho, rfl⟩ := List.mem_map.mp hq
    exact taken_line kl (k.line o ((cutL_sub ls i).subset ho)) lt hs
  have z := bookQ_ok kq (acc := []) (fun l hl => by cases hl) List.nodup_nil
  have le : (mergedL ls i).length ≤ ls.length := by
    unfold mergedL
    rw [e]
    refine Nat.le_trans z.2.2 ?_
    have := List.length_filter_le someB ((cutL ls i).map fun o => taken ls[i] o (lastNZ ls[i].1))
    have := (cutL_sub ls i).length_le
    rw [List.length_map] at *
    simp
    omega
  have many := k.many
  have le4 := k.le
  refine ⟨⟨by omega, by omega, by omega, ?_, ?_, hm⟩, le⟩
  · unfold mergedL
    rw [e]
    exact z.1
  · unfold mergedL
    rw [e]
    exact z.2.1

end W_k28

set_option maxHeartbeats 400000
namespace W_k28
open PySem PySem.Spec PyProof.Rows L2 DL
-- at 28
/-! ### the program's merging -/
section
variable {h : Hs} {E : DL.EP} {Q : Val → Hs → Prop} {n m p i : Nat} {ls : List Ln}
theorem taken_out_ok {l o : Ln} (kl : LineOk n m l) (ko : LineOk n m o) (hp : p < n) (hn : n ≤ 1000) (hm : m ≤ 4000) : F_taken_out [.d (lineD l), .d (lineD o), .d (.int p)] h = .ok (.d (lineD (taken l o p))) h := by
  refine wpR_eq ?_
  unfold F_taken_out G_taken_out
  rw [wpR_mkF]
  refine ⟨rfl, ?_⟩
  have ll : ∀ l : Ln, lineD l = .tuple [.tuple (l.1.map .int), .int l.2] := fun _ => rfl
  have i1 : atI (l.1.map PyData.int) (p : Int) = some (.int (l.1.getD p 0)) := getD_ix (by rw [kl.len]; exact hp)
  have i2 : atI (o.1.map PyData.int) (p : Int) = some (.int (o.1.getD p 0)) := getD_ix (by rw [ko.len]; exact hp)
  have a : Lt2 m (l.1.getD p 0) := kl.bits _ (List.mem_append_left _ (getD_mem' (s := l.1) (p := p) (by rw [kl.len]; exact hp)))
  have b : Lt2 m (o.1.getD p 0) := ko.bits _ (List.mem_append_left _ (getD_mem' (s := o.1) (p := p) (by rw [ko.len]; exact hp)))
  have c : Lt2 m (if 0 < l.1.getD p 0 then o.1.getD p 0 else -o.1.getD p 0) := by split; exact b; exact b.neg
  have hz : (l.1.zip o.1).length = n := by rw [List.length_zip, kl.len, ko.len, Nat.min_self]
  have zi : ∀ h, zipOf (.d (.tuple (l.1.map .int))) (.d (.tuple (o.1.map .int))) h = some ((l.1.zip o.1).map (fun x : Int × Int => .tuple [.int x.1, .int x.2]), []) := fun h => by rw [zipOf_tup, zip_maps]
  have dm1 := dMul_of (lt2_abs a) (ko.bits o.2 (by simp [rowL])) (by omega)
  have dm2 := dMul_of c (kl.bits l.2 (by simp [rowL])) (by omega)
  rw [ll l, ll o]
  have fin : ∀ c', c' = (if 0 < l.1.getD p 0 then o.1.getD p 0 else -o.1.getD p 0) → DL.wpS ((sSeq (sSet 9 (eLc [10, 11] (iZip2 (aCons (eVar 3) (aCons (eVar 5) aNil))) (gT (gsCons (gN 10) (gsCons (gN 11) gsNil))) tYesD (eOp (dInt2 DL.gSub) (eOp dMul (eVar 7) (eVar 11)) (eOp dMul (eVar 8) (eVar 10)))))
    (sRet (eTup (aCons (eCallB (DL.d1 dTuple) (aCons (eOp dAdd (eSl (eVar 9) oNone (oSome (eVar 2))) (eSl (eVar 9) (oSome (eOp dAdd (eVar 2) (eC (.int 1)))) oNone)) aNil)) (aCons (eOp (dInt2 DL.gSub) (eOp dMul (eVar 7) (eVar 6)) (eOp dMul (eVar 8) (eVar 4))) aNil)))))
      [some (.d (.tuple [.tuple (l.1.map .int), .int l.2])), some (.d (.tuple [.tuple (o.1.map .int), .int o.2])), some (.d (.int p)), some (.d (.tuple (l.1.map .int))), some (.d (.int l.2)), some (.d (.tuple (o.1.map .int))), some (.d (.int o.2)), some (.d (.int ((l.1.getD p 0).natAbs : Int))), some (.d (.int c')), none, none, none] h)
      ⟨fun _ h' => (Val.d .none = .d (lineD (taken l o p)) ∧ h'.take h.length = h), fun v h' => wpR (exitV false h.length v h') (fun v h' => v = .d (lineD (taken l o p)) ∧ h' = h) noE, fun c v _ h' => noE c v (h'.take h.length), fun _ _ => False, fun _ _ => False⟩ := by
    rintro c' rfl
    have tk : taken l o p = (cutL ((l.1.zip o.1).map fun x => ((l.1.getD p 0).natAbs : Int) * x.2 - (if 0 < l.1.getD p 0 then o.1.getD p 0 else -o.1.getD p 0) * x.1) p, ((l.1.getD p 0).natAbs : Int) * o.2 - (if 0 < l.1.getD p 0 then o.1.getD p 0 else -o.1.getD p 0) * l.2) := rfl
    rw [tk]
    generalize (if 0 < l.1.getD p 0 then o.1.getD p 0 else -o.1.getD p 0) = c' at *
    have aa := lt2_abs a
    generalize ((l.1.getD p 0).natAbs : Int) = a' at *
    simp [zi]
    refine wp_lc_map (fun x : Int × Int => .tuple [.int x.1, .int x.2]) (fun x => .int (a' * x.2 - c' * x.1)) rfl (Chk_nil _) (sz_le (by omega)) (fun x hx => ?_) ?_
    · obtain ⟨h1, h2⟩ := List.of_mem_zip hx
      have e1 := dMul_of aa (ko.bits _ (List.mem_append_left _ h2)) (by omega)
      have e2 := dMul_of c (kl.bits _ (List.mem_append_left _ h1)) (by omega)
      simp [e1, e2]
    have em : ((l.1.zip o.1).map fun x => PyData.int (a' * x.2 - c' * x.1)) = ((l.1.zip o.1).map fun x => a' * x.2 - c' * x.1).map .int := by simp [Function.comp_def]
    rw [em]
    have lz : ((l.1.zip o.1).map fun x => a' * x.2 - c' * x.1).length = n := by simpa using hz
    generalize ((l.1.zip o.1).map fun x => a' * x.2 - c' * x.1) = row at *
    have sl1 : dSl (.list (row.map .int)) none (some (p : Int)) = some (.list ((row.map .int).take p)) := by
      show some (PyData.list (DL.cutD _ none (some (p : Int)))) = _
      rw [cut_lo]
    have sl2 : dSl (.list (row.map .int)) (some ((p : Int) + 1)) none = some (.list ((row.map .int).drop (p + 1))) := by
      have := cut_hi (row.map PyData.int) (p + 1)
      show some (PyData.list (DL.cutD _ (some ((p : Int) + 1)) none)) = _
      rw [show ((p : Int) + 1) = ((p + 1 : Nat) : Int) by omega, this]
    have ad : dAdd (.list ((row.map .int).take p)) (.list ((row.map .int).drop (p + 1))) = some (.list ((cutL row p).map .int)) := by
      show (if _ then _ else _) = _
      rw [if_pos (sz_le (by simp; omega))]
      simp [cutL]
    simp [sl1, sl2, ad, dm1, dm2, sz_le, lineD]
  by_cases hs : 0 < l.1.getD p 0
  · have f := fin (o.1.getD p 0) (by rw [if_pos hs])
    have hs' : 0 < l.1[p]?.getD 0 := by simpa using hs
    simp at f i1 i2
    simp [startE, i1, i2, hs']
    exact f
  · have f := fin (-o.1.getD p 0) (by rw [if_neg hs])
    have hs' : ¬ 0 < l.1[p]?.getD 0 := by simpa using hs
    simp at f i1 i2
    simp [startE, i1, i2, hs']
    exact f
end

end W_k28

set_option maxHeartbeats 400000
namespace W_k28
open PySem PySem.Spec PyProof.Rows L2 DL
-- at 28
/-! ### the program's merging: books -/
section
variable {h : Hs} {E : DL.EP} {Q : Val → Hs → Prop} {n m p i : Nat} {ls : List Ln}
theorem putQ_len (acc : List Ln) (q : Ln) : (putQ acc q).length ≤ acc.length + 1 := by unfold putQ; split <;> simp
theorem fold_len : ∀ (qs acc : List Ln), (qs.foldl putQ acc).length ≤ acc.length + qs.length
  | [], acc => by simp
  | q :: qs, acc => by
    have a := fold_len qs (putQ acc q)
    have b := putQ_len acc q
    rw [List.foldl_cons, List.length_cons]
    omega
theorem book_of_questions_ok {qs : List Ln} (k : ∀ q ∈ qs, LineOk n m q) (hn : n ≤ 4000) (hm : m ≤ 8000) (hq : qs.length ≤ 1000) : F_book_of_questions [.d (.int n), .d (.list (qs.map lineD))] h = .ok (.d (pageD n (bookQ qs))) h := by
  refine wpR_eq ?_
  unfold F_book_of_questions G_book_of_questions
  rw [wpR_mkF]
  refine ⟨rfl, ?_⟩
  simp [startE, sz_le]
  refine wp_for0 (fun j ρ h' => ∃ (x4 x5 : Option Val) (acc : List Ln), acc = (qs.take j).foldl putQ [] ∧ ρ = [some (.d (.int n)), some (.d (.list (qs.map lineD))), some (.r h.length), some (.r (h.length + 1)), x4, x5] ∧ h' = h ++ [.lst (acc.map lineD), .dic true (acc.map pairL)]) (fun _ _ _ _ => Chk_nil _) ⟨none, none, [], rfl, rfl, by simp⟩ ?_ ?_
  · rintro j dd ρ h' hd ⟨x4, x5, acc, hacc, rfl, rfl⟩
    obtain ⟨q, hq', rfl⟩ : ∃ q, qs[j]? = some q ∧ lineD q = dd := by simpa using hd
    have qm := List.mem_of_getElem? hq'
    have kq := k q qm
    have jl : j < qs.length := (List.getElem?_eq_some_iff.mp hq').1
    have len := kq.len
    have al : acc.length ≤ 1000 := by
      have := fold_len (qs.take j) []
      rw [← hacc] at this
      simp at this
      omega
    have eacc : (qs.take (j + 1)).foldl putQ [] = putQ acc q := by
      rw [List.take_succ, hq', List.foldl_append, ← hacc]; rfl
    have gr := fun h => ground_of_ok (h := h) (n := m) (l := q) kq.row kq.bits hm (by omega)
    have rq := fun h => row_of_question_ok (h := h) (l := q) (by omega)
    have qr := fun h => question_of_row_ok (h := h) (s := q.1) (w := q.2) (b := m) kq.row kq.bits hm (by omega)
    have er : PyData.tuple ((q.1 ++ [q.2]).map .int) = .tuple ((rowL q).map .int) := rfl
    have ed : lineD (q.1.map (· / (gcdL (q.1 ++ [q.2]) : Int)), q.2 / (gcdL (q.1 ++ [q.2]) : Int)) = lineD (divL q) := rfl
    rw [er, ed] at qr
    have dv : dicV (.r (h.length + 1)) (h ++ [MO.lst (acc.map lineD), .dic true (acc.map pairL)]) = some (true, acc.map pairL) := by simp [dicV]
    by_cases hx : ∃ x ∈ acc, ground (rowL x) = ground (rowL q)
    · obtain ⟨o, dg⟩ := dict_has kq hx
      have no : putQ acc q = acc := by
        unfold putQ
        rw [if_neg]
        intro all
        obtain ⟨x, mx, e⟩ := hx
        exact all x mx e
      rw [no] at eacc
      simp [gr, dv, dg, eacc]
    · have hx' : ∀ x ∈ acc, ground (rowL x) ≠ ground (rowL q) := fun x mx e => hx ⟨x, mx, e⟩
      have yes : putQ acc q = acc ++ [divL q] := by
        unfold putQ
        rw [if_pos hx']
      have dg := dict_not kq hx'
      have gd := ground_divL kq.row
      have pt := dict_put (ls := acc) kq.div (fun x mx => by rw [gd]; exact hx' x mx) (by omega)
      rw [gd] at pt
      have pS : putS (.r (h.length + 1)) (.tuple ((ground (rowL q)).map .int)) (.bool true) (h ++ [MO.lst (acc.map lineD), .dic true (acc.map pairL)]) = some (h ++ [MO.lst (acc.map lineD), .dic true ((acc ++ [divL q]).map pairL)]) := by
        have : (h ++ [MO.lst (acc.map lineD), .dic true (acc.map pairL)])[h.length + 1]? = some (.dic true (acc.map pairL)) := by simp
        simp only [putS, this, pt, Option.map_some]
        simp [List.set_append_right]
      have gl : acc.length < sizeLine := Nat.lt_of_le_of_lt al (by rw [sizeLine_eq]; omega)
      rw [yes] at eacc
      generalize hd2 : (acc ++ [divL q]).map pairL = ps at *
      have g1 : (h ++ [MO.lst (acc.map lineD), MO.dic true ps])[h.length]? = some (.lst (acc.map lineD)) := by simp
      simp [gr, dv, dg, pS, rq, qr, gAppend, gl, eacc]
      rw [← hd2]
      simp
  · rintro ρ h' ⟨x4, x5, acc, hacc, rfl, rfl⟩
    have ea : acc = bookQ qs := by rw [hacc]; simp [bookQ]
    have sz : acc.length ≤ 1000 := by
      have := fold_len qs []
      rw [show qs.foldl putQ [] = bookQ qs from rfl, ← ea] at this
      simp at this
      omega
    rw [← ea]
    simp [vDs, vD, sz_le, pageD]
end

end W_k28

set_option maxHeartbeats 400000
namespace W_k28
open PySem PySem.Spec PyProof.Rows L2 DL
-- at 28
/-! ### the program's merging: all -/
section
variable {h : Hs} {E : DL.EP} {Q : Val → Hs → Prop} {n m p i : Nat} {ls : List Ln}
theorem boolsOf_any {γ : Type} (f : γ → Bool) (l : List γ) : (l.map f).any id = l.any f := by rw [List.any_map]; rfl
theorem merged_of_ok (k : PageOk n m ls) (hi : i < ls.length) (hn1 : 2 ≤ n) (hn : n ≤ 1000) (hm : 2 * m + 1 ≤ 4000) : F_merged_of [.d (pageD n ls), .d (.int i)] h = .ok (.d (pageD (n - 1) (mergedL ls i))) h := by
  have hmany := k.many
  refine wpR_eq ?_
  unfold F_merged_of G_merged_of
  rw [wpR_mkF]
  refine ⟨rfl, ?_⟩
  have ix : atI (ls.map lineD) (i : Int) = some (lineD ls[i]) := by rw [DL.atI_nat]; simp [hi]
  have kl := k.line _ (List.getElem_mem hi)
  have eml : mergedL ls i = bookQ (((cutL ls i).map fun o => taken ls[i] o (lastNZ ls[i].1)).filter someB) := by
    unfold mergedL
    rw [getD_lt _ _ _ hi]
  rw [eml]
  generalize ls[i] = l at *
  obtain ⟨fs, ef, lt, nz, _⟩ := last_spec kl.some_
  generalize hp : lastNZ l.1 = p at *
  rw [kl.len] at lt
  have l0 : dIx (lineD l) (.int 0) = some (.tuple (l.1.map .int)) := rfl
  have en : ∀ h, enumOfG (.d (.tuple (l.1.map .int))) h = some (l.1.zipIdx.map (fun q : Int × Nat => .tuple [.int (q.2 : Nat), .int q.1]), []) := fun h => by
    rw [enumOfG_at]
    simp only [seqOf]
    rw [enum_map]
  have sl1 := dSl_lo (ls.map lineD) i
  have sl2 := dSl_hi (ls.map lineD) i
  have ad : dAdd (.tuple ((ls.map lineD).take i)) (.tuple ((ls.map lineD).drop (i + 1))) = some (.tuple ((cutL ls i).map lineD)) := by
    rw [dAdd_t (by simp; omega)]
    simp [cutL, List.map_take, List.map_drop]
  have ll := kl.len
  simp [startE, pageD, ix, l0, en]
  refine wp_lc_fm (fun q : Int × Nat => .tuple [.int (q.2 : Nat), .int q.1]) (fun q => .int (q.2 : Nat)) (fun q => decide (q.1 ≠ 0)) rfl (Chk_nil _) (sz_le (by simp; omega)) (fun q hq => by simp [dNe_int]) ?_
  have el : ((l.1.zipIdx.filter fun q : Int × Nat => decide (q.1 ≠ 0)).map fun q => PyData.int (q.2 : Nat)) = (fs.map fun k : Nat => PyData.int (k : Int)) ++ [.int (p : Int)] := by
    rw [zipIdx_range l.1 0, List.filter_map, List.map_map]
    have : ((fun q : Int × Nat => decide (q.1 ≠ 0)) ∘ fun p => (l.1.getD p 0, p)) = fun k => decide (l.1.getD k 0 ≠ 0) := rfl
    rw [this, ef]
    simp [Function.comp_def]
  rw [el]
  simp [atI_last, sl1, sl2, ad]
  have sub := cutL_sub ls i
  have cl := sub.length_le
  have kc : ∀ o ∈ cutL ls i, LineOk n m o := fun o ho => k.line o (sub.subset ho)
  generalize cutL ls i = cs at *
  refine wp_lc_map lineD (fun o => lineD (taken l o p)) rfl (Chk_nil _) (sz_le (by omega)) (fun o ho => ?_) ?_
  · have tk := fun h => taken_out_ok (h := h) kl (kc o ho) lt hn (by omega)
    simp [tk]
  have kq : ∀ q ∈ (cs.map fun o => taken l o p).filter someB, LineOk (n - 1) (2 * m + 1) q := fun q hq => by
    obtain ⟨hq, hs⟩ := List.mem_filter.mp hq
    obtain ⟨o, ho, rfl⟩ := List.mem_map.mp hq
    exact taken_line kl (kc o ho) lt hs
  have kt : ∀ q ∈ cs.map (fun o => taken l o p), q.1.length ≤ 1000 := fun q hq => by
    obtain ⟨o, ho, rfl⟩ := List.mem_map.mp hq
    rw [(taken_ok kl (kc o ho) lt).1]
    omega
  have em : (cs.map fun o => lineD (taken l o p)) = (cs.map fun o => taken l o p).map lineD := by simp [Function.comp_def]
  rw [em]
  have tl : (cs.map fun o => taken l o p).length = cs.length := by simp
  have sn : ((n : Int) - 1) = ((n - 1 : Nat) : Int) := by omega
  have bq := fun h => book_of_questions_ok (h := h) kq (by omega) (by omega) (by
    have := List.length_filter_le someB (cs.map fun o => taken l o p)
    omega)
  generalize (cs.map fun o => taken l o p) = ts at *
  simp [sn]
  refine wp_lc_fm lineD lineD someB rfl (Chk_nil _) (sz_le (by omega)) (fun q hq => ?_) ?_
  · have l0 : dIx (lineD q) (.int 0) = some (.tuple (q.1.map .int)) := rfl
    have kz := kt q hq
    simp [l0]
    refine wp_lc_map (fun x : Int => .int x) (fun x => .bool (decide (x ≠ 0))) rfl (Chk_nil _) (sz_le (by omega)) (fun x hx => by simp [dNe_int]) ?_
    have bo : boolsOf (q.1.map fun x => PyData.bool !decide (x = 0)) = some (q.1.map fun x => !decide (x = 0)) := boolsOf_f _ _
    have an : (q.1.map fun x => !decide (x = 0)).any id = someB q := by
      rw [boolsOf_any]
      unfold someB
      simp
    simp [bo, -List.any_map]
    rw [an]
  simp [bq, pageD]
theorem merged_ok (k : PageOk n m ls) (hi : i < ls.length) (hn1 : 2 ≤ n) (hn : n ≤ 1000) (hm : 2 * m + 1 ≤ 4000) : F_merged [.d (pageD n ls), .d (.int i)] h = .ok (.d (pageD (n - 1) (mergedL ls i))) h := by
  have cb := fun h => check_book_ok (h := h) k
  have ci := fun h => check_index_ok (h := h) (n := n) hi
  have mo := fun h => merged_of_ok (h := h) k hi hn1 hn hm
  refine wpR_eq ?_
  unfold F_merged G_merged
  rw [wpR_mkF]
  refine ⟨rfl, ?_⟩
  have i0 : dIx (pageD n ls) (.int 0) = some (.int n) := rfl
  have n1 : ¬ (n : Int) = 1 := by omega
  have n1' : ¬ n = 1 := by omega
  simp [startE, cb, ci, mo, i0, dEq_int, n1, n1']
end

end W_k28

set_option maxHeartbeats 400000
namespace W_k28
open PySem PySem.Spec PyProof.Rows L2 DL
-- at 28
/-! ### the law's own merging -/
section
variable {h : Hs} {E : DL.EP} {Q : Val → Hs → Prop} {n m p i : Nat} {ls : List Ln}
theorem law_divided28 {row : List Int} {b : Nat} (hx : ∃ x ∈ row, x ≠ 0) (hb : ∀ x ∈ row, Lt2 b x) (hn : b ≤ 8000) (hl : row.length ≤ 4000) : F__law_divided [.d (.list (row.map .int))] h = .ok (.d (.tuple ((row.map (· / (gcdL row : Int))).map .int))) h := by
  have gp := gcdL_pos hx
  have gl := gcdL_log hx hb
  refine wpR_eq ?_
  unfold F__law_divided G__law_divided
  rw [wpR_mkF]
  refine ⟨rfl, ?_⟩
  simp [startE]
  refine wp_for0 (fun i ρ h' => ∃ x y z, h' = h ∧ ρ = [some (.d (.list (row.map .int))), some (.d (.int (gcdL (row.take i)))), x, y, z]) (fun _ _ _ _ => Chk_nil _) ⟨none, none, none, rfl, rfl⟩ ?_ ?_
  · rintro i d ρ h' hd ⟨x, y, z, rfl, rfl⟩
    obtain ⟨w, hw, rfl⟩ : ∃ y, row[i]? = some y ∧ PyData.int y = d := by simpa using hd
    have e : gcdL (row.take (i + 1)) = Nat.gcd w.natAbs (gcdL (row.take i)) := by
      rw [List.take_succ, hw, Nat.gcd_comm]
      exact gcdL_snoc _ _
    rw [e]
    generalize gcdL (row.take i) = g
    simp [-wpS_sSeq]
    rw [wpS_sSeq]
    simp [-wpS_sSeq]
    refine wpS_cut (fun ρ h'' => h'' = h' ∧ ρ = [some (.d (.list (row.map .int))), some (.d (.int g)), some (.d (.int w)), some (.d (.int (Nat.gcd w.natAbs g : Nat))), some (.d (.int 0))]) ?_ ?_
    · refine wp_while (fun n ρ h'' => ∃ x y : Nat, h'' = h' ∧ ρ = [some (.d (.list (row.map .int))), some (.d (.int g)), some (.d (.int w)), some (.d (.int x)), some (.d (.int y))] ∧ n = y ∧ Nat.gcd x y = Nat.gcd w.natAbs g) (n := g) ⟨w.natAbs, g, rfl, rfl, rfl, rfl⟩ ?_
      rintro n ρ h'' ⟨x, y, rfl, rfl, rfl, hg⟩
      by_cases hy : n = 0
      · subst hy
        rw [Nat.gcd_zero_right] at hg
        simp [dNe_int, ← hg]
      · have y0 : (n : Int) ≠ 0 := by omega
        have fm : (x : Int).fmod (n : Int) = ((x % n : Nat) : Int) := by rw [Int.fmod_eq_emod_of_nonneg _ (by omega)]; rfl
        simp [dNe_int, hy, gMod, fm]
        exact ⟨x % n, Nat.mod_lt _ (by omega), n, x % n, ⟨rfl, rfl⟩, rfl, by rw [← hg, Nat.gcd_comm n (x % n), ← Nat.gcd_rec, Nat.gcd_comm]⟩
    · rintro ρ h'' ⟨rfl, rfl⟩
      simp
  · rintro ρ h' ⟨x, y, z, rfl, rfl⟩
    simp only [List.length_map, List.take_length]
    simp
    refine wp_lc_map (fun x : Int => .int x) (fun x => .int (x / (gcdL row : Int))) rfl (Chk_nil _) (sz_le (by omega)) (fun x hx => ?_) ?_
    · have lt : (gcdL row).log2 < 9000 := by rw [Int.natAbs_natCast] at gl; omega
      have g1 : ¬ gcdL row = 0 := by omega
      simp [gFdivN, g1, lt, fdiv_gcd]
    simp [Function.comp_def]
end

end W_k28

set_option maxHeartbeats 400000
namespace W_k28
open PySem PySem.Spec PyProof.Rows L2 DL
-- at 28
/-! ### the law's own merging: all -/
theorem cut_filter (L : List Int) {p : Nat} (hp : p < L.length) : ((List.range L.length).filter (fun k => decide (k ≠ p))).map (fun k => L.getD k 0) = cutL L p := by
  obtain ⟨r, hr⟩ : ∃ r, L.length = p + (1 + r) := ⟨L.length - p - 1, by omega⟩
  have e : List.range L.length = List.range p ++ p :: (List.range r).map (fun k => p + (1 + k)) := by
    rw [hr, List.range_add, List.range_add, List.map_append, List.map_map]; rfl
  have f1 : (List.range p).filter (fun k => decide (k ≠ p)) = List.range p := List.filter_eq_self.mpr fun k hk => by
    have := List.mem_range.mp hk
    simp; omega
  have f2 : ((List.range r).map (fun k => p + (1 + k))).filter (fun k => decide (k ≠ p)) = (List.range r).map (fun k => p + (1 + k)) := List.filter_eq_self.mpr fun k hk => by
    obtain ⟨j, _, rfl⟩ := List.mem_map.mp hk
    simp <;> omega
  rw [e, List.filter_append, f1, List.filter_cons, if_neg (by simp), f2, List.map_append, List.map_map]
  unfold cutL
  congr 1
  · apply List.ext_getElem (by simp <;> omega)
    intro k h1 h2
    have : k < L.length := by simp at h1; omega
    simp [this]
  · apply List.ext_getElem (by simp <;> omega)
    intro k h1 h2
    have : p + (1 + k) < L.length := by simp at h1; omega
    simp [this]
    try (congr 1; omega)
theorem max_last (fs : List Nat) (k : Nat) (h : ∀ x ∈ fs, x < k) : maxL ((fs ++ [k]).map fun x : Nat => (x : Int)) = (k : Int) := by
  have ge : (k : Int) ≤ maxL ((fs ++ [k]).map fun x : Nat => (x : Int)) := maxL_ge (List.mem_map.mpr ⟨k, by simp, rfl⟩)
  have mem : maxL ((fs ++ [k]).map fun x : Nat => (x : Int)) ∈ (fs ++ [k]).map fun x : Nat => (x : Int) := by
    have e : (fs ++ [k]).map (fun x : Nat => (x : Int)) = ((fs ++ [k]).map fun x : Nat => (x : Int)) := rfl
    generalize hl : (fs ++ [k]).map (fun x : Nat => (x : Int)) = l at *
    cases l with
    | nil => simp at hl
    | cons y l =>
      rcases (foldmax_spec (y :: l) ((y :: l).headD 0)).1 with z | z
      · unfold maxL
        rw [z]
        exact List.mem_cons_self
      · exact z
  obtain ⟨x, hx, e⟩ := List.mem_map.mp mem
  have : x ≤ k := by
    rcases List.mem_append.mp hx with hx | hx
    · exact Nat.le_of_lt (h x hx)
    · have : x = k := by simpa using hx
      omega
  omega
section
variable {h : Hs} {E : DL.EP} {Q : Val → Hs → Prop} {n m p i : Nat} {ls : List Ln}
theorem law_merged_ok (k : PageOk n m ls) (hi : i < ls.length) (hn1 : 2 ≤ n) (hn : n ≤ 90) (hm : bitsC (2 * m + 1) n ≤ 1000000) (hm2 : m ≤ 3000) : F__law_merged [.d (pageD n ls), .d (.int i)] h = .ok (.d (pageD (n - 1) (mergedL ls i))) h := by
  have hmany := k.many
  refine wpR_eq ?_
  unfold F__law_merged G__law_merged
  rw [wpR_mkF]
  refine ⟨rfl, ?_⟩
  have ix : atI (ls.map lineD) (i : Int) = some (lineD ls[i]) := by rw [DL.atI_nat]; simp [hi]
  have kl := k.line _ (List.getElem_mem hi)
  have eml : mergedL ls i = bookQ (((cutL ls i).map fun o => taken ls[i] o (lastNZ ls[i].1)).filter someB) := by
    unfold mergedL
    rw [getD_lt _ _ _ hi]
  rw [eml]
  generalize ls[i] = l at *
  obtain ⟨fs, ef, lt, nz, flt⟩ := last_spec kl.some_
  generalize hp : lastNZ l.1 = p at *
  rw [kl.len] at lt ef
  have ll : ∀ l : Ln, lineD l = .tuple [.tuple (l.1.map .int), .int l.2] := fun _ => rfl
  have sl1 := dSl_lo (ls.map lineD) i
  have sl2 := dSl_hi (ls.map lineD) i
  have ad : dAdd (.tuple ((ls.map lineD).take i)) (.tuple ((ls.map lineD).drop (i + 1))) = some (.tuple ((cutL ls i).map lineD)) := by
    rw [dAdd_t (by simp; omega)]
    simp [cutL, List.map_take, List.map_drop]
  rw [ll l] at ix
  simp [startE, pageD, ix, small_nat (show n ≤ 100000 by omega)]
  rw [rng0]
  have gi : ∀ {l : Ln}, LineOk n m l → ∀ {j : Nat}, j < n → atI (l.1.map PyData.int) (j : Int) = some (.int (l.1.getD j 0)) := fun kl j hj => getD_ix (by rw [kl.len]; exact hj)
  refine wp_lc_fm (fun k : Nat => .int (k : Int)) (fun k => .int (k : Int)) (fun k => decide (l.1.getD k 0 ≠ 0)) rfl (Chk_nil _) (sz_le (by simp; omega)) (fun k hk => ?_) ?_
  · have g := gi kl (j := k) (by simpa using hk)
    generalize l.1.getD k 0 = z at *
    simp [g, dNe_int]
  rw [ef]
  have mx : dMax (.list ((fs ++ [p]).map fun k : Nat => PyData.int (k : Int))) = some (.int (p : Int)) := by
    have z := dMax_ints (l := (fs ++ [p]).map fun x : Nat => (x : Int)) (by simp)
    rw [List.map_map, max_last fs p flt] at z
    exact z
  simp at mx
  simp [mx, sl1, sl2, ad]
  have sub := cutL_sub ls i
  have cl := sub.length_le
  have kc : ∀ o ∈ cutL ls i, LineOk n m o := fun o ho => k.line o (sub.subset ho)
  generalize cutL ls i = cs at *
  have kq : ∀ q ∈ (cs.map fun o => taken l o p).filter someB, LineOk (n - 1) (2 * m + 1) q := fun q hq => by
    obtain ⟨hq, hs⟩ := List.mem_filter.mp hq
    obtain ⟨o, ho, rfl⟩ := List.mem_map.mp hq
    exact taken_line kl (kc o ho) lt hs
  have a : Lt2 m (l.1.getD p 0) := kl.bits _ (List.mem_append_left _ (getD_mem' (s := l.1) (p := p) (by rw [kl.len]; exact lt)))
  have gp := gi kl lt
  refine wp_for0 (fun j ρ h' => ∃ (acc : List Ln) (x8 x9 x10 x11 x12 : Option Val), acc = (((cs.take j).map fun o => taken l o p).filter someB).foldl putQ [] ∧ h' = h ∧ ρ = [some (.d (.tuple [.int n, .tuple (ls.map lineD)])), some (.d (.int i)), some (.d (.int n)), some (.d (.tuple (ls.map lineD))), some (.d (.tuple (l.1.map .int))), some (.d (.int l.2)), some (.d (.int p)), some (.d (.tuple (acc.map lineD))), x8, x9, x10, x11, x12, none, none]) (fun _ _ _ _ => Chk_nil _) ⟨[], none, none, none, none, none, rfl, rfl, rfl⟩ ?_ ?_
  · rintro j dd ρ h' hd ⟨acc, x8, x9, x10, x11, x12, hacc, rfl, rfl⟩
    obtain ⟨o, ho, rfl⟩ : ∃ o, cs[j]? = some o ∧ lineD o = dd := by simpa using hd
    have om := List.mem_of_getElem? ho
    have ko := kc o om
    have aok : (∀ l ∈ acc, LineOk (n - 1) (2 * m + 1) l) ∧ (acc.map fun l => ground (rowL l)).Nodup ∧ acc.length ≤ 0 + (((cs.take j).map fun o => taken l o p).filter someB).length := by
      rw [hacc]
      refine bookQ_ok (fun q hq => ?_) (fun l hl => by cases hl) List.nodup_nil
      obtain ⟨hq, hs⟩ := List.mem_filter.mp hq
      obtain ⟨o', ho', rfl⟩ := List.mem_map.mp hq
      exact taken_line kl (kc o' ((List.take_sublist j cs).subset ho')) lt hs
    have al : acc.length ≤ 1000 := by
      have h1 := aok.2.2
      have h2 := List.length_filter_le someB ((cs.take j).map fun o => taken l o p)
      rw [List.length_map, List.length_take] at h2
      omega
    have eacc : (((cs.take (j + 1)).map fun o => taken l o p).filter someB).foldl putQ [] = if someB (taken l o p) = true then putQ acc (taken l o p) else acc := by
      rw [List.take_succ, ho, List.map_append, List.filter_append, List.foldl_append, ← hacc]
      by_cases hs : someB (taken l o p) = true <;> simp [hs]
    have gp2 := gi ko lt
    have b : Lt2 m (o.1.getD p 0) := ko.bits _ (List.mem_append_left _ (getD_mem' (s := o.1) (p := p) (by rw [ko.len]; exact lt)))
    rw [ll o, eacc]
    simp [-wpS_sSeq]
    refine wpS_cut (fun ρ h'' => h'' = h' ∧ ρ = [some (.d (.tuple [.int n, .tuple (ls.map lineD)])), some (.d (.int i)), some (.d (.int n)), some (.d (.tuple (ls.map lineD))), some (.d (.tuple (l.1.map .int))), some (.d (.int l.2)), some (.d (.int p)), some (.d (.tuple (acc.map lineD))), some (.d (.tuple (o.1.map .int))), some (.d (.int o.2)), some (.d (.int ((l.1.getD p 0).natAbs : Int))), some (.d (.int (if 0 < l.1.getD p 0 then o.1.getD p 0 else -o.1.getD p 0))), x12, none, none]) ?_ ?_
    · have d1 := dMul_of (j := 1) (m := 2) b (show Int.natAbs 1 < 2 ^ 2 by decide) (by omega)
      have d2 := dMul_of (j := -1) (m := 2) b (show Int.natAbs (-1) < 2 ^ 2 by decide) (by omega)
      generalize l.1.getD p 0 = z at *
      generalize o.1.getD p 0 = y at *
      by_cases hs : 0 < z
      · simp [gp, gp2, hs, d1]
      · simp [gp, gp2, hs, d2]
    rintro ρ h'' ⟨rfl, rfl⟩
    have c : Lt2 m (if 0 < l.1.getD p 0 then o.1.getD p 0 else -o.1.getD p 0) := by split; exact b; exact b.neg
    have tkd : taken l o p = (cutL ((l.1.zip o.1).map fun x => ((l.1.getD p 0).natAbs : Int) * x.2 - (if 0 < l.1.getD p 0 then o.1.getD p 0 else -o.1.getD p 0) * x.1) p, ((l.1.getD p 0).natAbs : Int) * o.2 - (if 0 < l.1.getD p 0 then o.1.getD p 0 else -o.1.getD p 0) * l.2) := rfl
    have ktk := taken_line (p := p) kl ko lt
    have dm1 := dMul_of (lt2_abs a) (ko.bits o.2 (by simp [rowL])) (by omega)
    have dm2 := dMul_of c (kl.bits l.2 (by simp [rowL])) (by omega)
    have aa := lt2_abs a
    generalize (if 0 < l.1.getD p 0 then o.1.getD p 0 else -o.1.getD p 0) = c' at *
    generalize ((l.1.getD p 0).natAbs : Int) = a' at *
    have hz : (l.1.zip o.1).length = n := by rw [List.length_zip, kl.len, ko.len, Nat.min_self]
    have lz : ((l.1.zip o.1).map fun x => a' * x.2 - c' * x.1).length = n := by simpa using hz
    have gz : ∀ k, k < n → ((l.1.zip o.1).map fun x => a' * x.2 - c' * x.1).getD k 0 = a' * o.1.getD k 0 - c' * l.1.getD k 0 := fun k hk => by
      rw [getD_lt _ _ _ (by omega), getD_lt _ _ _ (show k < o.1.length by rw [ko.len]; exact hk), getD_lt _ _ _ (show k < l.1.length by rw [kl.len]; exact hk)]
      simp
    generalize ((l.1.zip o.1).map fun x => a' * x.2 - c' * x.1) = L at *
    have cf := cut_filter L (p := p) (by omega)
    rw [lz] at cf
    simp [small_nat (show n ≤ 100000 by omega)]
    rw [rng0]
    refine wp_lc_fm (fun k : Nat => .int (k : Int)) (fun k => .int (L.getD k 0)) (fun k => decide (k ≠ p)) rfl (Chk_nil _) (sz_le (by simp; omega)) (fun k hk => ?_) ?_
    · have hk : k < n := by simpa using hk
      have g1 := gi kl hk
      have g2 := gi ko hk
      have e1 := dMul_of aa (ko.bits _ (List.mem_append_left _ (getD_mem' (s := o.1) (p := k) (by rw [ko.len]; exact hk)))) (by omega)
      have e2 := dMul_of c (kl.bits _ (List.mem_append_left _ (getD_mem' (s := l.1) (p := k) (by rw [kl.len]; exact hk)))) (by omega)
      have gk := gz k hk
      have cst : ((k : Int) = (p : Int)) ↔ k = p := by omega
      generalize l.1.getD k 0 = z at *
      generalize o.1.getD k 0 = y at *
      rw [gk]
      simp [g1, g2, e1, e2, dNe_int, cst]
    have em : (((List.range n).filter fun k => decide (k ≠ p)).map fun k => PyData.int (L.getD k 0)) = (cutL L p).map .int := by rw [← cf, List.map_map]; rfl
    rw [em]
    generalize hrow : cutL L p = row at *
    have rl : row.length ≤ n := by rw [← hrow, ← lz]; exact (cutL_sub L p).length_le
    simp
    refine wp_lc_fm (fun x : Int => .int x) (fun x => .int x) (fun x => decide (x ≠ 0)) rfl (Chk_nil _) (sz_le (by omega)) (fun x hx => by simp [dNe_int]) ?_
    have okr : okD 2 (.list ((row.filter fun x => decide (x ≠ 0)).map .int)) := ⟨by
      have := List.length_filter_le (fun x : Int => decide (x ≠ 0)) row
      rw [List.length_map]; omega, fun x hx => by
      obtain ⟨y, _, rfl⟩ := List.mem_map.mp hx
      exact True.intro⟩
    have ne := dNe_nilL okr (by omega)
    have eb : (!((row.filter fun x => decide (x ≠ 0)).map PyData.int).isEmpty) = someB (taken l o p) := by
      rw [tkd]
      unfold someB
      cases hf : row.filter fun x => decide (x ≠ 0) with
      | nil =>
        have : row.any (fun x => decide (x ≠ 0)) = false := by
          refine List.any_eq_false.mpr fun x hx => ?_
          have := List.filter_eq_nil_iff.mp hf x hx
          exact this
        rw [this]; rfl
      | cons y r =>
        have m : y ∈ row.filter fun x => decide (x ≠ 0) := by rw [hf]; exact List.mem_cons_self
        obtain ⟨m1, m2⟩ := List.mem_filter.mp m
        rw [List.any_eq_true.mpr ⟨y, m1, m2⟩]; rfl
    rw [eb] at ne
    have vd : ∀ h, vD (.d (.list ((row.filter fun x => decide (x ≠ 0)).map fun x => PyData.int x))) h = some (.list ((row.filter fun x => decide (x ≠ 0)).map .int)) := fun _ => rfl
    generalize hfl : ((row.filter fun x => decide (x ≠ 0)).map PyData.int) = fl at *
    have vd : ∀ h, vD (.d (.list fl)) h = some (.list fl) := fun _ => rfl
    by_cases hs : someB (taken l o p) = true
    · have kt := ktk hs
      rw [hs] at ne
      rw [tkd] at kt
      generalize hw : a' * o.2 - c' * l.2 = w at *
      have rl' := kt.len
      have rb := kt.bits
      have rw_ := kt.row
      have kd := kt.div
      have er : rowL (row, w) = row ++ [w] := rfl
      have dL := fun h => law_divided28 (h := h) (row := row ++ [w]) (b := 2 * m + 1) rw_ rb (by omega) (by simp; omega)
      have ad : dAdd (.list (row.map .int)) (.list [.int w]) = some (.list ((row ++ [w]).map .int)) := by
        show (if _ then _ else _) = _
        rw [if_pos (sz_le (by simp; omega))]
        simp
      have ed : ((row ++ [w]).map (· / (gcdL (row ++ [w]) : Int))).map PyData.int = ((divL (row, w)).1.map .int) ++ [.int (divL (row, w)).2] := by simp [divL, rowL]
      have em2 : (row ++ [w]).map PyData.int = row.map .int ++ [.int w] := by simp
      rw [ed, em2] at dL
      rw [em2] at ad
      have sn : ((n : Int) - 1) = ((n - 1 : Nat) : Int) := by omega
      have n1 : n - 1 + 1 = n := by omega
      have nw := fun h => law_is_new_ok (h := h) (n := n - 1) (m := 2 * m + 1) (l := divL (row, w)) (ls := acc) kd aok.1 (by omega) (by rw [n1]; exact hm) al
      rw [ground_divL rw_] at nw
      have dl := ll (divL (row, w))
      rw [dl] at nw
      have ads : ∀ x : D, dAdd (.tuple (acc.map lineD)) (.tuple [x]) = some (.tuple (acc.map lineD ++ [x])) := fun x => dAdd_t (by simp; omega)
      have ep : putQ acc (row, w) = if ∀ x ∈ acc, ground (rowL x) ≠ ground (rowL (row, w)) then acc ++ [divL (row, w)] else acc := rfl
      have slq : ∀ (xs : List D) (x : D), dSl (.tuple (xs ++ [x])) none (some (-1)) = some (.tuple xs) := fun xs x => by
        show some (PyData.tuple (DL.cutD _ none (some (-1)))) = _
        rw [cut_last]
      have hs2 : someB (row, w) = true := tkd ▸ hs
      generalize divL (row, w) = dv at *
      rw [tkd, hs2, if_pos rfl, ep]
      by_cases hn : ∀ x ∈ acc, ground (rowL x) ≠ ground (rowL (row, w))
      · rw [decide_eq_true hn] at nw
        rw [if_pos hn]
        simp [vd, ne, dm1, dm2, hw, ad, dL, slq, atI_last, sz_le, sn, nw, ads]
        exact dl.symm
      · rw [decide_eq_false hn] at nw
        rw [if_neg hn]
        simp [vd, ne, dm1, dm2, hw, ad, dL, slq, atI_last, sz_le, sn, nw, ads]
    · have hs' : someB (taken l o p) = false := by simpa using hs
      rw [hs'] at ne
      simp [vd, ne, hs']
  · rintro ρ h' ⟨acc, x8, x9, x10, x11, x12, hacc, rfl, rfl⟩
    rw [List.length_map, List.take_length] at hacc
    have ea : acc = bookQ ((cs.map fun o => taken l o p).filter someB) := hacc
    have sn : ((n : Int) - 1) = ((n - 1 : Nat) : Int) := by omega
    rw [← ea]
    simp [sz_le, sn]
end

end W_k28

set_option maxHeartbeats 400000
namespace W_k28
open PySem PySem.Spec PyProof.Rows L2 DL
-- at 28
/-! ### the law -/
theorem turns1 (ns : List Int) : ∃ c : Nat, c ≤ 6 ∧ (if 1 < if (ns.length : Int) < 6 then (ns.length : Int) else 6 then if (ns.length : Int) < 6 then (ns.length : Int) else 6 else 1) = (c : Int) := by
  by_cases h : (ns.length : Int) < 6
  · rw [if_pos h]
    split
    · exact ⟨ns.length, by omega, rfl⟩
    · exact ⟨1, by omega, rfl⟩
  · rw [if_neg h]
    exact ⟨6, by omega, rfl⟩
def ownB : List Ln := [([2, -1], 1), ([-4, 2], 3), ([0, 3], 6), ([1, 1], 0)]
theorem own_facts : (∀ l ∈ ownB, l.1.length = 2 ∧ (∃ x ∈ l.1, x ≠ 0) ∧ ∀ x ∈ rowL l, x.natAbs < 2 ^ 4) ∧ (ownB.map fun l => ground (rowL l)).Nodup := by decide +kernel
theorem own_page : PageOk 2 4 ownB := ⟨by omega, by omega, by decide, fun l hl => by
  obtain ⟨a, b, c⟩ := own_facts.1 l hl
  exact ⟨a, b, c⟩, own_facts.2, by omega⟩
theorem bits_le {B n m : Nat} (h : n ≤ m) : bitsC B n ≤ bitsC B m := by
  induction m with
  | zero => rw [show n = 0 by omega]; exact Nat.le_refl _
  | succ m ih =>
    by_cases e : n = m + 1
    · rw [e]; exact Nat.le_refl _
    · have := ih (by omega)
      show _ ≤ 2 * bitsC B m + 1
      omega
theorem dEq_nilT {k : Nat} {xs : List D} (e : okD k (.tuple xs)) (hk : k ≤ 64) : dEq (.tuple xs) (.tuple []) = some (.bool xs.isEmpty) := by
  unfold dEq
  rw [if_pos ⟨shaped_ok e hk, rfl⟩]
  cases xs <;> simp [PyData.eqv, PyData.eqvAll]
section
variable {h : Hs} {E : DL.EP} {Q : Val → Hs → Prop} {n m p i : Nat} {ls : List Ln}
theorem alike_page (k : PageOk n m ls) : F__law_alike [.d (pageD n ls), .d (pageD n ls)] h = .ok (.d (.bool true)) h := alike_ok _ (okD_page k 7)
theorem alike_pages (k : PageOk n m ls) : F__law_alike [.d (.list [pageD n ls, pageD n ls]), .d (.list [pageD n ls, pageD n ls])] h = .ok (.d (.bool true)) h := alike_ok _ (okD_list (by simp) fun x hx => by
  have : x = pageD n ls := by simpa using hx
  rw [this]
  exact okD_page k 6)
end
theorem law_true (ns : List Int) (hl : ns.length ≤ 63) (hb : ∀ z ∈ ns, PySem.Builtin.Int.intBits z ≤ 1048576) : ∃ hs, F_law [.s ns] [] = .ok (.d (.bool true)) hs := by
  refine ex_hs ?_
  unfold F_law G_law
  rw [wpR_mkF]
  refine ⟨rfl, ?_⟩
  have vl : vS (.s ns) [] = some (.list (ns.map .int)) := rfl
  obtain ⟨c, hc, ec⟩ := turns1 ns
  simp [startE, vl]
  simp [ec, small_nat (show c ≤ 100000 by omega)]
  refine wp_for0 (fun _ ρ _ => ∃ x1 x2 x3 x4 x5 x6 x7 x8 x9, ρ = [some (.s ns), x1, x2, x3, x4, x5, x6, x7, x8, x9]) (fun _ _ _ _ => Chk_nil _) ⟨none, none, none, none, none, none, none, none, none, rfl⟩ ?_ ?_
  · rintro j dd ρ h hd ⟨x1, x2, x3, x4, x5, x6, x7, x8, x9, rfl⟩
    obtain ⟨hj, rfl⟩ := rng_get hd
    simp [-wpS_sSeq]
    rw [wpS_sSeq]
    simp [-wpS_sSeq]
    refine stock_wp (by omega) hl hb fun h1 d1 l1 _ => ?_
    simp [-wpS_sSeq]
    -- the book
    refine wpS_cut (fun ρ h' => ∃ n ls, ρ = [some (.s ns), some (.d (.int j)), some (.r h.length), some (.d (.int (n : Nat))), some (.d (.tuple (List.map lineD ls))), x5, x6, x7, x8, x9] ∧ n ≤ 4 ∧ PageOk n 4 ls ∧ ls.length ≤ 6 ∧ PotAt h.length 200 h') ?_ ?_
    · simp [sz_le]
      refine pick_wp (m := 3) d1 (by omega) (by decide) (by decide) fun t h2 t0 t1 d2 => ?_
      obtain ⟨x, hx, ex⟩ := pick_one (l := [3, 3, 9]) t0 t1
      simp at ex
      have x39 : x = 3 ∨ x = 9 := by simp at hx; omega
      obtain ⟨k, rfl⟩ : ∃ k : Nat, x = (k : Int) := ⟨x.toNat, by omega⟩
      simp [ex]
      refine book_wp d2.pot (by omega) (by omega) (by omega) fun n ls h3 hn pk l6 d3 => ?_
      have pd : pageD n ls = .tuple [.int n, .tuple (ls.map lineD)] := rfl
      rw [pd]
      simp
      exact ⟨n, ls, ⟨rfl, rfl⟩, hn, pk, l6, d3.pot.mono (by omega)⟩
    rintro ρ h2 ⟨n, ls, rfl, n4, pk, l6, d2⟩
    rw [wpS_sSeq]
    simp [sz_le, -wpS_sSeq]
    refine wpS_cut (fun ρ h' => h' = h2 ∧ ∃ n' ls' x3 x4, ρ = [some (.s ns), some (.d (.int j)), some (.r h.length), x3, x4, some (.d (pageD n' ls')), x6, x7, x8, x9] ∧ 2 ≤ n' ∧ n' ≤ 4 ∧ PageOk n' 4 ls' ∧ ls'.length ≤ 6) ?_ ?_
    · have ne := dEq_nilT (okD_lines (by omega : n ≤ 4000) (by omega) pk.line).1 (by omega)
      have own : ∃ ls', PyData.tuple [.int 2, .tuple [.tuple [.tuple [.int 2, .int (-1)], .int 1], .tuple [.tuple [.int (-4), .int 2], .int 3], .tuple [.tuple [.int 0, .int 3], .int 6], .tuple [.tuple [.int 1, .int 1], .int 0]]] = pageD 2 ls' ∧ PageOk 2 4 ls' ∧ ls'.length ≤ 6 := ⟨ownB, rfl, own_page, by decide⟩
      obtain ⟨os, eo, ko, lo⟩ := own
      by_cases h2 : n < 2
      · have h2' : (n : Int) < 2 := by omega
        simp [h2, h2', sz_le, eo]
        exact ⟨2, os, rfl, by omega, by omega, ko, lo⟩
      · have h2' : ¬ (n : Int) < 2 := by omega
        by_cases hz : ls = []
        · subst hz
          simp at ne
          simp [h2, h2', ne, sz_le, eo]
          exact ⟨2, os, rfl, by omega, by omega, ko, lo⟩
        · simp [h2, h2', ne, hz]
          exact ⟨n, ls, rfl, by omega, by omega, pk, l6⟩
    rintro ρ h2 ⟨rfl, n, ls, x3, x4, rfl, n2, n4, pk, l6⟩
    have i1 : ∀ n ls, dIx (pageD n ls) (.int 1) = some (.tuple (List.map lineD ls)) := fun _ _ => rfl
    have i0 : ∀ n ls, dIx (pageD n ls) (.int 0) = some (.int n) := fun _ _ => rfl
    simp [i1, small_nat (show ls.length ≤ 100000 by omega)]
    refine wp_for0 (fun j' ρ h' => ∃ x6 x7 x8 x9, ρ = [some (.s ns), some (.d (.int j)), some (.r h.length), x3, x4, some (.d (pageD n ls)), x6, x7, x8, x9] ∧ PotAt h.length (200 + j') h') (fun _ _ _ _ => Chk_nil _) ⟨_, _, _, _, rfl, d2⟩ ?_ ?_
    · rintro i dd ρ h3 hd ⟨x6, x7, x8, x9, rfl, d3⟩
      obtain ⟨hi, rfl⟩ := rng_get hd
      have lm := fun h => law_merged_ok (h := h) pk hi n2 (by omega) (Nat.le_trans (bits_le n4) (by decide)) (by omega)
      have mo := fun h => merged_ok (h := h) pk hi n2 (by omega) (by omega)
      obtain ⟨pk2, le2⟩ := pk.merged hi n2 (by omega)
      have al := fun h => alike_pages (h := h) pk2
      generalize mergedL ls i = ms at *
      have stay : PotAt h.length (200 + (i + 1)) h3 := d3.mono (by omega)
      have ne := dNe_nilT (okD_lines (by omega : n - 1 ≤ 4000) (by omega) pk2.line).1 (by omega)
      simp [lm, mo, byPi, sz_le, al, i0, i1]
      by_cases hn : 1 < n - 1
      · have hn' : (1 : Int) < ((n - 1 : Nat) : Int) := by omega
        by_cases hz : ms = []
        · subst hz
          simp at ne
          simp [hn, hn', ne]
          exact stay
        · have lpos : 0 < ms.length := List.length_pos_iff.mpr hz
          simp [hn, hn', ne, hz, i1]
          refine pick_wp (m := (ms.length : Int)) d3 (by omega) (by omega) (log_small (by omega)) fun t h4 t0 t1 d4 => ?_
          obtain ⟨k, rfl⟩ : ∃ k : Nat, t = (k : Int) := ⟨t.toNat, by omega⟩
          have kl : k < ms.length := by omega
          have n11 : 2 ≤ n - 1 := by omega
          have lm2 := fun h => law_merged_ok (h := h) pk2 kl n11 (by omega) (Nat.le_trans (bits_le (show n - 1 ≤ 3 by omega)) (by decide)) (by omega)
          have mo2 := fun h => merged_ok (h := h) pk2 kl n11 (by omega) (by omega)
          obtain ⟨pk3, _⟩ := pk2.merged kl n11 (by omega)
          have al2 := fun h => alike_page (h := h) pk3
          generalize mergedL ms k = qs at *
          simp [lm2, mo2, al2]
          exact d4.pot.mono (by omega)
      · have hn' : ¬ (1 : Int) < ((n - 1 : Nat) : Int) := by omega
        simp [hn, hn']
        exact stay
    · rintro ρ h3 ⟨x6, x7, x8, x9, rfl, d3⟩
      simp
  · rintro ρ h ⟨x1, x2, x3, x4, x5, x6, x7, x8, x9, rfl⟩
    simp

end W_k28

set_option maxHeartbeats 4000000
open PySem PySem.W PySem.Calls PyProof.Rows
theorem PySem.Challenge.cw_sidebooks_k28_whole_merged_books_holds : PySem.Challenge.rw_sidebooks_k28_whole_merged_books.Holds := by
  w_on; o_law
  refine HandSHeadRun.head_imp (r := OpenLaw.row PySem.Challenge.rw_sidebooks_k28_whole_merged_books) (q := view (PySem.W.OpenLaw.row PySem.Challenge.rw_sidebooks_k28_whole_merged_books).prog [0, 39]) (H := W_k28.hk) (ob := W_k28.ob) (M := 8000) (loose := W_k28.nmL) (d := HandSHeadRun.topDef (PySem.W.OpenLaw.row PySem.Challenge.rw_sidebooks_k28_whole_merged_books).prog 39) (kwd := []) W_k28.ob_eq W_k28.runTop (by kernel_rfl) (by kernel_rfl) (by kernel_rfl) (by rfl) (by first | assumption | decide +kernel) (by decide +kernel) ⟨rfl, rfl, rfl, rfl, rfl, by decide +kernel⟩ ?hw ?hc
  case hw => w_witness2
  case hc =>
    refine DL.walk_dl (l := PySem.Challenge.rw_sidebooks_k28_whole_merged_books) (k := 14) (x := "_law_script") (pa := W_k28.A_law) (bd := W_k28.B_law) (sc := W_k28.Z_law) (F := W_k28.F_law) rfl (by kernel_rfl) ⟨rfl, by decide, by decide⟩ (fun K f fd FD s v => L2.FunD.bindsA (ps := ["_law_script"]) FD (fun _ _ _ _ _ _ us hl => match us, hl with | [_], _ => rfl) s [v] rfl) ?_ (fun ns hl hb => W_k28.law_true ns hl hb)
    intro w mg h Y G
    obtain ⟨K, KX, c⟩ := Y
    exact ⟨K, KX, fun base => W_k28.fn_law (W_k28.top_ok KX G c)⟩
