import PyProof.Rows.All
import Wide.All
import OpenK.AllK
import Wide.FinOn
import HandS.ForMost
import HandS.WordsExc
import HandS.Wide
import HandS.Defaults
import HandS.HeadHook1
import KE.KeyNested
import KE.KDictKeyed
import HandS.Zip
import HandS.TupAny
import HandS.IsInst
import HandS.Gcd
import HandS.TupMul
import HandS.TupLen
import HandS.TryOnly
import HandS.Deep
import HandS.Style
import HandS.ExcInit
import HandS.HeadHook2
import HandS.DictComp
import HandS.HeadEnd
import HandS.EndBits
import HandS.Head0
import HandS.Head1
import HandS.Head2
import HandS.Head3
import PySem.Challenge.RW_sidebooks_k03_whole_rank_and_at_once
set_option Elab.async false
set_option linter.all false
set_option maxRecDepth 100000
set_option maxHeartbeats 1000000
/-! DL: a layer over the hand layer: values as data (tuples and lists that are not changed, of any depth), changed lists by places in a store of their own; each expression's and statement's meaning is a plain Lean function. -/
namespace DL
open PySem PySem.Spec PyProof.Rows L2

/-! ### values and stores -/
abbrev D := PyData
/-- a value: data; the i-th thing of the store; a caught exception, its class by name, its value; the script; a tuple of integers that the module holds; a new tuple of data and things of the store -/
inductive Val where
  | d (x : D) | r (i : Nat) | x (c : Str) (v : D) | s (ns : List Int) | c (ns : List Int) | t (ms : List (Sum D Nat))
inductive MO where
  | lst (xs : List D) | dic (t : Bool) (kvs : List (D × D)) | dcn (kvs : List (D × D))
abbrev Hs := List MO
inductive R (α : Type) where
  | ok (a : α) (h : Hs) | ex (c : Str) (v : D) (h : Hs) | no
abbrev Env := List (Option Val)
/-- a statement's end -/
inductive S where
  | nx (ρ : Env) (h : Hs) | rt (v : Val) (h : Hs) | bk (ρ : Env) (h : Hs) | ct (ρ : Env) (h : Hs) | ex (c : Str) (v : D) (ρ : Env) (h : Hs) | no

def R.bind {α β : Type} (r : R α) (k : α → Hs → R β) : R β := match r with
  | .ok a h => k a h
  | .ex c v h => .ex c v h
  | .no => .no
@[simp] theorem R.bind_ok {α β : Type} (a : α) (h : Hs) (k : α → Hs → R β) : (R.ok a h).bind k = k a h := rfl
@[simp] theorem R.bind_ex {α β : Type} (c : Str) (v : D) (h : Hs) (k : α → Hs → R β) : (R.ex c v h).bind k = .ex c v h := rfl
@[simp] theorem R.bind_no {α β : Type} (k : α → Hs → R β) : (R.no).bind k = .no := rfl
/-- an optional result at a store -/
def R.opt {α : Type} (o : Option α) (h : Hs) : R α := match o with
  | some a => .ok a h
  | none => .no
@[simp] theorem R.opt_some {α : Type} (a : α) (h : Hs) : R.opt (some a) h = .ok a h := rfl
@[simp] theorem R.opt_none {α : Type} (h : Hs) : R.opt (none : Option α) h = .no := rfl

/-! ### how data stands in the heap -/
def keyD : Key → D
  | .inl i => .int i
  | .inr x => .str x
/-- the tuples that the module's own constants are -/
def isCon : List D → Bool
  | [.int 0, .int 1] => true
  | [.int (-1), .int 0, .int 1] => true
  | _ => false
section
variable (K : PySem.W.Frag) (α : List Addr) (H : Hp)
mutual
/-- v is the data d; no list or dict in it stands at one of the places α -/
inductive Rep : V → D → Prop
  | non : Rep .non .none
  | bl (b : Bool) : Rep (.bl b) (.bool b)
  | int (i : Int) : Rep (.int i) (.int i)
  | str (x : Str) : Rep (.str x) (.str x)
  | lst {a : Addr} {xs : List V} {ds : List D} : H a = some (.lst xs) → a ∉ α → RepAll xs ds → Rep (.ref a) (.list ds)
  | tup {a : Addr} {xs : List V} {ds : List D} : H a = some (.tup xs) → RepAll xs ds → Rep (.ref a) (.tuple ds)
  | con {a : Addr} {xs : List V} {ds : List D} : SqT K H a xs → isCon ds = true → RepAll xs ds → Rep (.ref a) (.tuple ds)
  | dK {a : Addr} {kvs : List (Key × V)} {ds : List D} : H a = some (.dK kvs) → a ∉ α → RepAll (kvs.map (·.2)) ds → Rep (.ref a) (.dict ((kvs.map fun p => keyD p.1).zip ds))
  | dT {a : Addr} {kvs : List (List Key × V)} {ds : List D} : H a = some (.dT kvs) → a ∉ α → RepAll (kvs.map (·.2)) ds → Rep (.ref a) (.dict ((kvs.map fun p => PyData.tuple (p.1.map keyD)).zip ds))
inductive RepAll : List V → List D → Prop
  | nil : RepAll [] []
  | cons {v : V} {vs : List V} {d : D} {ds : List D} : Rep v d → RepAll vs ds → RepAll (v :: vs) (d :: ds)
end
/-- data as a key: whole numbers, None, tuples of such (no texts: their hash is the world's own; no truths: they are numbers) -/
def nkD : D → Option NestedKey
  | .none => some .none
  | .int i => some (.num i)
  | .tuple ds => (nkAll ds).map .tup
  | _ => none
where nkAll : List D → Option (List NestedKey)
  | [] => some []
  | d :: ds => match nkD d, nkAll ds with
    | some k, some ks => some (k :: ks)
    | _, _ => none
/-- a tuple that is a key, not too deep -/
def nkOk : D → Option NestedKey
  | .tuple ds => (match nkD (.tuple ds) with
    | some k => if k.depth ≤ 8 then some k else none
    | none => none)
  | _ => none
/-- a dict whose keys are tuples of any depth (ents: the key, the tuple's place, the value), by its one object -/
def DicNOk (a : Addr) (ents : List (NestedKey × Addr × V)) (h : Heap) : Prop := ents.length ≤ sizeLine ∧ (a == sysModules) = false ∧ (ents.map (·.1)).Nodup ∧ (∃ o es ep, h.get? a = some o ∧ o.ExactDict ∧ o.data = .dict es ep ∧
  Paired (fun (p : NestedKey × Addr × V) (e : DictEntry) => (∀ w : World, e.hash = p.1.hash w) ∧ e.key = .ref p.2.1 ∧ RelV p.2.2 e.val) ents es.toList)
abbrev dicN (a : Addr) (ents : List (NestedKey × Addr × V)) : HO := .ext (DicNOk a ents)
/-- what may be changed: a list, a dict -/
def IsM (o : HO) : Prop := (∃ xs, o = .lst xs) ∨ (∃ k, o = .dK k) ∨ (∃ k, o = .dT k) ∨ ∃ a e, o = dicN a e
/-- what stands at a place of the store -/
inductive MRep (a : Addr) : MO → Prop
  | lst {xs : List V} {ds : List D} : H a = some (.lst xs) → RepAll K α H xs ds → MRep a (.lst ds)
  | dK {kvs : List (Key × V)} {ds : List D} : H a = some (.dK kvs) → RepAll K α H (kvs.map (·.2)) ds → MRep a (.dic false ((kvs.map fun p => keyD p.1).zip ds))
  | dT {kvs : List (List Key × V)} {ds : List D} : H a = some (.dT kvs) → RepAll K α H (kvs.map (·.2)) ds → MRep a (.dic true ((kvs.map fun p => PyData.tuple (p.1.map keyD)).zip ds))
  | dN {ents : List (NestedKey × Addr × V)} {ds : List D} : H a = some (dicN a ents) → (∀ p ∈ ents, nkOk p.1.data = some p.1) → RepAll K α H (ents.map fun p => .ref p.2.1) (ents.map fun p => p.1.data) → RepAll K α H (ents.map (·.2.2)) ds → MRep a (.dcn ((ents.map fun p => p.1.data).zip ds))
/-- what an exception carries -/
def ExcOk (cls : Value) (dd : Option Addr) (c : Str) (d : D) : Prop := cls = .ref (He.ga K c) ∧ ∃ (da : Addr) (w : V), dd = some da ∧ H da = some (.xd [(("value" : Str), w)]) ∧ Rep K α H w d
/-- a caught exception's object: of the class at C, its own dict at dd -/
def ExcO (a C dd : Addr) : HO := .ext fun h => ∃ (oe : Obj) (vs : Array Value), h.get? a = some oe ∧ Zc (.ref C) (some dd) oe ∧ oe.data = .fields vs
end
section
variable (K : PySem.W.Frag) (ζ ι : List Addr) (H : Hp)
/-- the store hs at the places ι; ζ: lists in the making -/
structure Sim (hs : Hs) : Prop where
  nd : (ζ ++ ι).Nodup
  len : ι.length = hs.length
  at_ : ∀ (i : Nat) (a : Addr) (m : MO), ι[i]? = some a → hs[i]? = some m → MRep K (ζ ++ ι) H a m
  ap : ∀ a ∈ ζ, ∃ o, H a = some o ∧ IsM o
/-- the items of a new tuple -/
inductive TRepAll : List V → List (Sum D Nat) → Prop
  | nil : TRepAll [] []
  | d {v : V} {x : D} {vs : List V} {ms : List (Sum D Nat)} : Rep K (ζ ++ ι) H v x → TRepAll vs ms → TRepAll (v :: vs) (.inl x :: ms)
  | r {a : Addr} {i : Nat} {vs : List V} {ms : List (Sum D Nat)} : ι[i]? = some a → TRepAll vs ms → TRepAll (.ref a :: vs) (.inr i :: ms)
inductive VRep : V → Val → Prop
  | d {v : V} {x : D} : Rep K (ζ ++ ι) H v x → VRep v (.d x)
  | r {a : Addr} {i : Nat} : ι[i]? = some a → VRep (.ref a) (.r i)
  | x {a dd : Addr} {c : Str} {w : V} {d : D} : H a = some (ExcO a (He.ga K c) dd) → a ∉ ζ ++ ι → H dd = some (.xd [(("value" : Str), w)]) → Rep K (ζ ++ ι) H w d → VRep (.ref a) (.x c d)
  | s {a : Addr} {ns : List Int} : (∃ o, H a = some (.frz o (.lst (ns.map V.int)))) ∨ (∀ H' : Hp, SqL K H' a (ns.map V.int)) → VRep (.ref a) (.s ns)
  | c {a : Addr} {ns : List Int} : (∀ H' : Hp, SqT K H' a (ns.map V.int)) → VRep (.ref a) (.c ns)
  | t {a : Addr} {xs : List V} {ms : List (Sum D Nat)} : H a = some (.tup xs) → TRepAll K ζ ι H xs ms → VRep (.ref a) (.t ms)
inductive VRepAll : List V → List Val → Prop
  | nil : VRepAll [] []
  | cons {v : V} {vs : List V} {u : Val} {us : List Val} : VRep K ζ ι H v u → VRepAll vs us → VRepAll (v :: vs) (u :: us)
def ERep (σ : L2.St) (ρ : Env) : Prop := σ.length = ρ.length ∧ ∀ (i : Nat) (v : Val), ρ[i]? = some (some v) → ∃ x, σ[i]? = some (some x) ∧ VRep K ζ ι H x v
end

/-- from one store's places and heap to later ones: what is tracked and none of the store's stays -/
structure Ext (ι : List Addr) (H : Hp) (ι' : List Addr) (H' : Hp) : Prop where
  pre : ι <+: ι'
  new : ∀ a ∈ ι', a ∉ ι → H a = none
  keep : ∀ a o, H a = some o → a ∉ ι → H' a = some o

section
variable {K : PySem.W.Frag} {α β ζ ι ι' ι1 ι2 : List Addr} {H H' H1 H2 : Hp}
theorem Ext.refl : Ext ι H ι H := ⟨List.prefix_rfl, fun a h1 h2 => absurd h1 h2, fun _ _ h _ => h⟩
theorem Ext.not_mem (e : Ext ι H ι' H') {a : Addr} {o : HO} (h : H a = some o) (n : a ∉ ι) : a ∉ ι' := fun m => by
  rw [e.new a m n] at h
  cases h
theorem Ext.trans (e : Ext ι H ι1 H1) (f : Ext ι1 H1 ι2 H2) : Ext ι H ι2 H2 where
  pre := e.pre.trans f.pre
  new := fun a m n => by
    by_cases q : a ∈ ι1
    · exact e.new a q n
    · have z := f.new a m q
      cases h : H a with
      | none => rfl
      | some o =>
        rw [e.keep a o h n] at z
        cases z
  keep := fun a o h n => f.keep a o (e.keep a o h n) (e.not_mem h n)
theorem Ext.of_same (s : Same H H') : Ext ι H ι H' := ⟨List.prefix_rfl, fun a h1 h2 => absurd h1 h2, fun a o h _ => s a o h⟩

/-! ### transport: from one heap to another that keeps what the avoided places are not -/
/-- what is tracked in H and not at α is so in H'; and nothing of it is at β -/
structure Mv (α : List Addr) (H : Hp) (β : List Addr) (H' : Hp) : Prop where
  keep : ∀ a o, H a = some o → a ∉ α → H' a = some o ∧ a ∉ β
  ap : ∀ a ∈ α, ∀ o, H a = some o → IsM o
theorem Mv.fz (p : Mv α H β H') {a : Addr} {o : HO} (h : H a = some o) (n : ¬ IsM o := by rintro (⟨_, z⟩ | ⟨_, z⟩ | ⟨_, z⟩ | ⟨_, _, z⟩) <;> cases z) : H' a = some o :=
  (p.keep a o h fun m => n (p.ap a m _ h)).1
theorem Mv.sqt (p : Mv α H β H') {a : Addr} {xs : List V} (h : SqT K H a xs) : SqT K H' a xs := by
  rcases h with (h | ⟨o, h⟩) | h
  · exact .inl (.inl (p.fz h))
  · exact .inl (.inr ⟨o, p.fz h⟩)
  · exact .inr h
mutual
theorem Rep.mv (p : Mv α H β H') : ∀ {d : D} {v : V}, Rep K α H v d → Rep K β H' v d
  | _, _, .non => .non
  | _, _, .bl b => .bl b
  | _, _, .int i => .int i
  | _, _, .str x => .str x
  | _, _, .lst r n a => .lst (p.keep _ _ r n).1 (p.keep _ _ r n).2 (RepAll.mv p a)
  | _, _, .tup r a => .tup (p.fz r) (RepAll.mv p a)
  | _, _, .con r c a => .con (p.sqt r) c (RepAll.mv p a)
  | _, _, .dK r n a => .dK (p.keep _ _ r n).1 (p.keep _ _ r n).2 (RepAll.mv p a)
  | _, _, .dT r n a => .dT (p.keep _ _ r n).1 (p.keep _ _ r n).2 (RepAll.mv p a)
theorem RepAll.mv (p : Mv α H β H') : ∀ {ds : List D} {vs : List V}, RepAll K α H vs ds → RepAll K β H' vs ds
  | _, _, .nil => .nil
  | _, _, .cons r t => .cons (Rep.mv p r) (RepAll.mv p t)
end
mutual
/-- fewer places to avoid -/
theorem Rep.sub (p : ∀ a ∈ β, a ∈ α) : ∀ {d : D} {v : V}, Rep K α H v d → Rep K β H v d
  | _, _, .non => .non
  | _, _, .bl b => .bl b
  | _, _, .int i => .int i
  | _, _, .str x => .str x
  | _, _, .lst r n a => .lst r (fun m => n (p _ m)) (RepAll.sub p a)
  | _, _, .tup r a => .tup r (RepAll.sub p a)
  | _, _, .con r c a => .con r c (RepAll.sub p a)
  | _, _, .dK r n a => .dK r (fun m => n (p _ m)) (RepAll.sub p a)
  | _, _, .dT r n a => .dT r (fun m => n (p _ m)) (RepAll.sub p a)
theorem RepAll.sub (p : ∀ a ∈ β, a ∈ α) : ∀ {ds : List D} {vs : List V}, RepAll K α H vs ds → RepAll K β H vs ds
  | _, _, .nil => .nil
  | _, _, .cons r t => .cons (Rep.sub p r) (RepAll.sub p t)
end
theorem RepAll.length : ∀ {vs : List V} {ds : List D}, RepAll K α H vs ds → vs.length = ds.length
  | _, _, .nil => rfl
  | _, _, .cons _ t => by rw [List.length_cons, List.length_cons, RepAll.length t]
theorem RepAll.get : ∀ {vs : List V} {ds : List D} {i : Nat} {d : D}, RepAll K α H vs ds → ds[i]? = some d → ∃ v, vs[i]? = some v ∧ Rep K α H v d
  | _, _, 0, _, .cons r _, e => ⟨_, rfl, by cases e; exact r⟩
  | _, _, i + 1, _, .cons _ t, e => by
    obtain ⟨v, h1, h2⟩ := RepAll.get (i := i) t (by simpa using e)
    exact ⟨v, by simpa using h1, h2⟩
  | _, _, _, _, .nil, e => by simp at e
theorem RepAll.getV : ∀ {vs : List V} {ds : List D} {i : Nat} {v : V}, RepAll K α H vs ds → vs[i]? = some v → ∃ d, ds[i]? = some d ∧ Rep K α H v d
  | _, _, 0, _, .cons r _, e => ⟨_, rfl, by cases e; exact r⟩
  | _, _, i + 1, _, .cons _ t, e => by
    obtain ⟨v, h1, h2⟩ := RepAll.getV (i := i) t (by simpa using e)
    exact ⟨v, by simpa using h1, h2⟩
  | _, _, _, _, .nil, e => by simp at e
theorem RepAll.app : ∀ {vs ws : List V} {ds es : List D}, RepAll K α H vs ds → RepAll K α H ws es → RepAll K α H (vs ++ ws) (ds ++ es)
  | _, _, _, _, .nil, s => s
  | _, _, _, _, .cons r t, s => .cons r (RepAll.app t s)
theorem RepAll.take : ∀ (n : Nat) {vs : List V} {ds : List D}, RepAll K α H vs ds → RepAll K α H (vs.take n) (ds.take n)
  | 0, _, _, _ => .nil
  | _ + 1, _, _, .nil => .nil
  | n + 1, _, _, .cons r t => .cons r (RepAll.take n t)
theorem RepAll.drop : ∀ (n : Nat) {vs : List V} {ds : List D}, RepAll K α H vs ds → RepAll K α H (vs.drop n) (ds.drop n)
  | 0, _, _, h => h
  | _ + 1, _, _, .nil => .nil
  | n + 1, _, _, .cons _ t => RepAll.drop n t
theorem RepAll.set {v : V} {d : D} (r : Rep K α H v d) : ∀ (n : Nat) {vs : List V} {ds : List D}, RepAll K α H vs ds → RepAll K α H (vs.set n v) (ds.set n d)
  | _, _, _, .nil => .nil
  | 0, _, _, .cons _ t => .cons r t
  | n + 1, _, _, .cons q t => .cons q (RepAll.set r n t)

/-! ### transport of what the layer says -/
theorem Sim.mvA {hs : Hs} (s : Sim K ζ ι H hs) : ∀ a ∈ ζ ++ ι, ∀ o, H a = some o → IsM o := fun a m o h => by
  rcases List.mem_append.mp m with m | m
  · obtain ⟨x, q, im⟩ := s.ap a m
    rw [h] at q
    cases q
    exact im
  · obtain ⟨i, hi, e⟩ := List.getElem_of_mem m
    have e1 : ι[i]? = some a := by rw [List.getElem?_eq_getElem hi, e]
    have hj : i < hs.length := by rw [← s.len]; exact hi
    have z := s.at_ i a _ e1 (List.getElem?_eq_getElem hj)
    generalize hs[i] = m at z
    cases z with
    | lst q _ => rw [h] at q; exact .inl ⟨_, Option.some.inj q⟩
    | dK q _ => rw [h] at q; exact .inr (.inl ⟨_, Option.some.inj q⟩)
    | dT q _ => rw [h] at q; exact .inr (.inr (.inl ⟨_, Option.some.inj q⟩))
    | dN q _ _ _ => rw [h] at q; exact .inr (.inr (.inr ⟨_, _, Option.some.inj q⟩))
theorem Sim.mv {hs : Hs} (s : Sim K ζ ι H hs) (e : Ext ι H ι' H') : Mv (ζ ++ ι) H (ζ ++ ι') H' where
  keep := fun a o h n => by
    have n1 : a ∉ ι := fun m => n (List.mem_append_right _ m)
    have n2 : a ∉ ζ := fun m => n (List.mem_append_left _ m)
    exact ⟨e.keep a o h n1, fun m => (List.mem_append.mp m).elim n2 (e.not_mem h n1)⟩
  ap := s.mvA
theorem TRepAll.mv {hs : Hs} (s : Sim K ζ ι H hs) (e : Ext ι H ι' H') : ∀ {vs : List V} {ms : List (Sum D Nat)}, TRepAll K ζ ι H vs ms → TRepAll K ζ ι' H' vs ms
  | _, _, .nil => .nil
  | _, _, .d q t => .d (q.mv (s.mv e)) (TRepAll.mv s e t)
  | _, _, .r h t => .r (by
    obtain ⟨u, rfl⟩ := e.pre
    obtain ⟨hi, _⟩ := List.getElem?_eq_some_iff.mp h
    rw [List.getElem?_append_left hi]; exact h) (TRepAll.mv s e t)
theorem VRep.mv {hs : Hs} (s : Sim K ζ ι H hs) (e : Ext ι H ι' H') {v : V} {u : Val} (r : VRep K ζ ι H v u) : VRep K ζ ι' H' v u := by
  cases r with
  | d r => exact .d (r.mv (s.mv e))
  | @r a i h =>
    obtain ⟨t, rfl⟩ := e.pre
    obtain ⟨hi, _⟩ := List.getElem?_eq_some_iff.mp h
    exact .r (by rw [List.getElem?_append_left hi]; exact h)
  | s h => 
    rcases h with ⟨o, h⟩ | h
    · exact .s (.inl ⟨o, (s.mv e).fz h⟩)
    · exact .s (.inr h)
  | c h => exact .c h
  | t h q => exact .t ((s.mv e).fz h) (q.mv s e)
  | x h1 n1 h2 h3 =>
    obtain ⟨k1, k2⟩ := (s.mv e).keep _ _ h1 n1
    exact .x k1 k2 ((s.mv e).fz h2) (h3.mv (s.mv e))
theorem VRepAll.mv {hs : Hs} (s : Sim K ζ ι H hs) (e : Ext ι H ι' H') : ∀ {vs : List V} {us : List Val}, VRepAll K ζ ι H vs us → VRepAll K ζ ι' H' vs us
  | _, _, .nil => .nil
  | _, _, .cons r t => .cons (r.mv s e) (VRepAll.mv s e t)
theorem ERep.mv {hs : Hs} (s : Sim K ζ ι H hs) (e : Ext ι H ι' H') {σ : L2.St} {ρ : Env} (r : ERep K ζ ι H σ ρ) : ERep K ζ ι' H' σ ρ :=
  ⟨r.1, fun i v h => let ⟨x, h1, h2⟩ := r.2 i v h; ⟨x, h1, h2.mv s e⟩⟩
/-- the store as it was, over a heap in which all that was stands -/
theorem Sim.same {hs : Hs} (s : Sim K ζ ι H hs) (e : Same H H') : Sim K ζ ι H' hs where
  nd := s.nd
  len := s.len
  at_ := fun i a m h1 h2 => by
    have z := s.at_ i a m h1 h2
    cases z with
    | lst q r => exact .lst (e _ _ q) (r.mv (s.mv (Ext.of_same e)))
    | dK q r => exact .dK (e _ _ q) (r.mv (s.mv (Ext.of_same e)))
    | dT q r => exact .dT (e _ _ q) (r.mv (s.mv (Ext.of_same e)))
    | dN q ok k r => exact .dN (e _ _ q) ok (k.mv (s.mv (Ext.of_same e))) (r.mv (s.mv (Ext.of_same e)))
  ap := fun a m => by
    obtain ⟨x, q, im⟩ := s.ap a m
    exact ⟨x, e _ _ q, im⟩

/-! ### what is wanted of an end -/
def Kt {γ δ : Type} (K : PySem.W.Frag) (ζ : List Addr) (rel : List Addr → Hp → δ → γ → Prop) (ι : List Addr) (H : Hp) (r : R γ) (Q : δ → Hp → Prop) (E : XK) : Prop := match r with
  | .ok a h => ∀ b H' ι', Ext ι H ι' H' → Sim K ζ ι' H' h → rel ι' H' b a → Q b H'
  | .ex c v h => ∀ cls dd H' ι', Ext ι H ι' H' → Sim K ζ ι' H' h → ExcOk K (ζ ++ ι') H' cls dd c v → E cls dd H'
  | .no => False
theorem Kt.mv {γ δ : Type} {rel : List Addr → Hp → δ → γ → Prop} {r : R γ} {Q : δ → Hp → Prop} {E : XK} (k : Kt K ζ rel ι H r Q E) (e : Ext ι H ι' H') : Kt K ζ rel ι' H' r Q E := by
  cases r with
  | ok a h => exact fun b H2 ι2 e2 s2 r2 => k b H2 ι2 (e.trans e2) s2 r2
  | ex c v h => exact fun cls dd H2 ι2 e2 s2 r2 => k cls dd H2 ι2 (e.trans e2) s2 r2
  | no => exact k
/-- the first of two parts -/
theorem Kt.bind {γ δ γ' δ' : Type} {rel : List Addr → Hp → δ → γ → Prop} {rel' : List Addr → Hp → δ' → γ' → Prop} {r : R γ} {k : γ → Hs → R γ'} {Q : δ' → Hp → Prop} {E : XK} {Q1 : δ → Hp → Prop}
    (w : Kt K ζ rel' ι H (r.bind k) Q E) (h : ∀ a hs b H' ι', Ext ι H ι' H' → Sim K ζ ι' H' hs → rel ι' H' b a → Kt K ζ rel' ι' H' (k a hs) Q E → Q1 b H') : Kt K ζ rel ι H r Q1 E := by
  cases r with
  | ok a hs => exact fun b H' ι' e s r => h a hs b H' ι' e s r (w.mv e)
  | ex c v hs => exact w
  | no => exact w
theorem Kt.opt {γ δ : Type} {rel : List Addr → Hp → δ → γ → Prop} {o : Option γ} {hs : Hs} {Q : δ → Hp → Prop} {E : XK} (k : Kt K ζ rel ι H (R.opt o hs) Q E) : ∃ a, o = some a ∧ Kt K ζ rel ι H (.ok a hs) Q E := by
  cases o with
  | none => exact k.elim
  | some a => exact ⟨a, rfl, k⟩
/-- the end at a heap that keeps all that was -/
theorem Kt.here {γ δ : Type} {rel : List Addr → Hp → δ → γ → Prop} {a : γ} {hs : Hs} {Q : δ → Hp → Prop} {E : XK} (k : Kt K ζ rel ι H (.ok a hs) Q E) (s : Sim K ζ ι H hs) (e : Same H H') {b : δ} (r : rel ι H' b a) : Q b H' :=
  k b H' ι (Ext.of_same e) (s.same e) r

/-! ### a value, read as data -/
def vD : Val → Hs → Option D
  | .d x, _ => some x
  | .r i, hs => match hs[i]? with
    | some (.lst ds) => some (.list ds)
    | some (.dic _ kvs) => some (.dict kvs)
    | _ => none
  | .x _ _, _ => none
  | .s _, _ => none
  | .c _, _ => none
  | .t _, _ => none
@[simp] theorem vD_d (x : D) (hs : Hs) : vD (.d x) hs = some x := rfl
/-- v is the data d, at its top perhaps one of the store's -/
inductive RdV (K : PySem.W.Frag) (α : List Addr) (H : Hp) : V → D → Prop
  | imm {v : V} {d : D} : Rep K α H v d → RdV K α H v d
  | lst {a : Addr} {xs : List V} {ds : List D} : H a = some (.lst xs) → RepAll K α H xs ds → RdV K α H (.ref a) (.list ds)
  | dK {a : Addr} {kvs : List (Key × V)} {ds : List D} : H a = some (.dK kvs) → RepAll K α H (kvs.map (·.2)) ds → RdV K α H (.ref a) (.dict ((kvs.map fun p => keyD p.1).zip ds))
  | dT {a : Addr} {kvs : List (List Key × V)} {ds : List D} : H a = some (.dT kvs) → RepAll K α H (kvs.map (·.2)) ds → RdV K α H (.ref a) (.dict ((kvs.map fun p => PyData.tuple (p.1.map keyD)).zip ds))
theorem vD_ok {hs : Hs} {v : V} {u : Val} {d : D} (s : Sim K ζ ι H hs) (r : VRep K ζ ι H v u) (e : vD u hs = some d) : RdV K (ζ ++ ι) H v d := by
  cases r with
  | d r => cases e; exact .imm r
  | @r a i h =>
    simp only [vD] at e
    cases q : hs[i]? with
    | none => rw [q] at e; cases e
    | some m =>
      have z := s.at_ i a m h q
      rw [q] at e
      cases z with
      | lst z1 z2 => cases e; exact .lst z1 z2
      | dK z1 z2 => cases e; exact .dK z1 z2
      | dT z1 z2 => cases e; exact .dT z1 z2
      | dN => cases e
  | x => cases e
  | s => cases e
  | c => cases e
  | t => cases e
theorem RdV.rep0 {v : V} {d : D} (r : RdV K α H v d) : Rep K [] H v d := by
  have z : ∀ a ∈ ([] : List Addr), a ∈ α := fun a m => by cases m
  cases r with
  | imm r => exact r.sub z
  | lst h r => exact .lst h (by simp) (r.sub z)
  | dK h r => exact .dK h (by simp) (r.sub z)
  | dT h r => exact .dT h (by simp) (r.sub z)

/-- what the store's places and the lists in the making are -/
def Ap (α : List Addr) (H : Hp) : Prop := ∀ a ∈ α, ∃ o, H a = some o ∧ IsM o
theorem Ap.old (p : Ap α H) : ∀ a ∈ α, ∀ o, H a = some o → IsM o := fun a m o h => by
  obtain ⟨x, q, im⟩ := p a m
  rw [h] at q
  cases q
  exact im
theorem Ap.fresh (p : Ap α H) {q : Addr} (hq : H q = none) : q ∉ α := fun m => by
  obtain ⟨x, z, _⟩ := p q m
  rw [hq] at z
  cases z
theorem Sim.apA {hs : Hs} (s : Sim K ζ ι H hs) : Ap (ζ ++ ι) H := fun a m => by
  rcases List.mem_append.mp m with m | m
  · exact s.ap a m
  · obtain ⟨i, hi, e⟩ := List.getElem_of_mem m
    have e1 : ι[i]? = some a := by rw [List.getElem?_eq_getElem hi, e]
    have hj : i < hs.length := by rw [← s.len]; exact hi
    have z := s.at_ i a _ e1 (List.getElem?_eq_getElem hj)
    generalize hs[i] = m at z
    cases z with
    | lst q _ => exact ⟨_, q, .inl ⟨_, rfl⟩⟩
    | dK q _ => exact ⟨_, q, .inr (.inl ⟨_, rfl⟩)⟩
    | dT q _ => exact ⟨_, q, .inr (.inr (.inl ⟨_, rfl⟩))⟩
    | dN q _ _ _ => exact ⟨_, q, .inr (.inr (.inr ⟨_, _, rfl⟩))⟩
theorem Ap.mv (p : Ap α H) (e : Same H H') : Mv α H α H' := ⟨fun a o h n => ⟨e a o h, n⟩, p.old⟩
theorem Rep.same (p : Ap α H) (e : Same H H') {v : V} {d : D} (r : Rep K α H v d) : Rep K α H' v d := r.mv (p.mv e)
theorem RepAll.same (p : Ap α H) (e : Same H H') {v : List V} {d : List D} (r : RepAll K α H v d) : RepAll K α H' v d := r.mv (p.mv e)
theorem same_new {p : Addr} {o : HO} (h : H p = none) : Same H (upd H p o) := fun b x e => by
  rw [upd_ne (ne_of_none e h)]
  exact e
theorem Rep.notα {a : Addr} {d : D} (p : Ap α H) (r : Rep K α H (.ref a) d) : True := trivial
/-- the parts of a value read -/
inductive RdVs (K : PySem.W.Frag) (α : List Addr) (H : Hp) : List V → List D → Prop
  | nil : RdVs K α H [] []
  | cons {v : V} {vs : List V} {d : D} {ds : List D} : RdV K α H v d → RdVs K α H vs ds → RdVs K α H (v :: vs) (d :: ds)
def vDs : List Val → Hs → Option (List D)
  | [], _ => some []
  | u :: us, h => match vD u h, vDs us h with
    | some d, some ds => some (d :: ds)
    | _, _ => none
@[simp] theorem vDs_nil (h : Hs) : vDs [] h = some [] := rfl
@[simp] theorem vDs_cons (x : D) (us : List Val) (h : Hs) : vDs (.d x :: us) h = (vDs us h).map (x :: ·) := by
  simp only [vDs, vD_d]
  cases vDs us h <;> rfl
theorem vDs_ok {hs : Hs} (s : Sim K ζ ι H hs) : ∀ {vs : List V} {us : List Val} {ds : List D}, VRepAll K ζ ι H vs us → vDs us hs = some ds → RdVs K (ζ ++ ι) H vs ds
  | _, _, _, .nil, e => by cases e; exact .nil
  | _, _, _, .cons (u := u) (us := us) r t, e => by
    simp only [vDs] at e
    split at e
    · rename_i h1 h2
      cases e
      exact .cons (vD_ok s r h1) (vDs_ok s t h2)
    · cases e
end

/-! ### the judgements -/
abbrev MV := Env → Hs → R Val
/-- an expression's meaning -/
structure EE (X : Cx) (e : Expr) (f : MV) : Prop where
  run : ∀ W : WX, Takes X W → ∃ t, PE X e t ∧ ∀ (ζ ι : List Addr) (ρ : Env) (hs : Hs) (σ : L2.St) (H : Hp) (Q : VK), ERep X.K ζ ι H σ ρ → Sim X.K ζ ι H hs → Kt X.K ζ (VRep X.K ζ) ι H (f ρ hs) Q (WE W σ) → t σ H Q
/-- an argument list's -/
structure EA (X : Cx) (es : List Expr) (f : Env → Hs → R (List Val)) : Prop where
  run : ∀ W : WX, Takes X W → ∃ t, PA X es t ∧ ∀ (ζ ι : List Addr) (ρ : Env) (hs : Hs) (σ : L2.St) (H : Hp) (Q : List V → Hp → Prop), ERep X.K ζ ι H σ ρ → Sim X.K ζ ι H hs → Kt X.K ζ (VRepAll X.K ζ) ι H (f ρ hs) Q (WE W σ) → t σ H Q
/-- a test's -/
structure ET (X : Cx) (e : Expr) (f : Env → Hs → R Bool) : Prop where
  run : ∀ W : WX, Takes X W → ∃ t, PT X e t ∧ ∀ (ζ ι : List Addr) (ρ : Env) (hs : Hs) (σ : L2.St) (H : Hp) (Q : Bool → Hp → Prop), ERep X.K ζ ι H σ ρ → Sim X.K ζ ι H hs → Kt X.K ζ (fun _ _ b b' => b = b') ι H (f ρ hs) Q (WE W σ) → t σ H Q
structure EW (X : Cx) (e : Expr) (f : Env → Hs → R Bool) : Prop where
  run : ∀ W : WX, Takes X W → ∃ t, PW X e t ∧ ∀ (ζ ι : List Addr) (ρ : Env) (hs : Hs) (σ : L2.St) (H : Hp) (Q : Bool → Hp → Prop), ERep X.K ζ ι H σ ρ → Sim X.K ζ ι H hs → Kt X.K ζ (fun _ _ b b' => b = b') ι H (f ρ hs) Q (WE W σ) → t σ H Q

/-! ### meanings of expressions -/
def eVar (i : Nat) : MV := fun ρ h => match ρ[i]? with
  | some (some v) => .ok v h
  | _ => .no
def eC (d : D) : MV := fun _ h => .ok (.d d) h
def eOp (g : D → D → Option D) (fa fb : MV) : MV := fun ρ h => (fa ρ h).bind fun u h1 => (fb ρ h1).bind fun v h2 => match vD u h2, vD v h2 with
  | some a, some b => R.opt ((g a b).map .d) h2
  | _, _ => .no
def eUn (g : D → Option D) (fa : MV) : MV := fun ρ h => (fa ρ h).bind fun u h1 => match vD u h1 with
  | some a => R.opt ((g a).map .d) h1
  | _ => .no
def aNil : Env → Hs → R (List Val) := fun _ h => .ok [] h
def aCons (fa : MV) (fr : Env → Hs → R (List Val)) : Env → Hs → R (List Val) := fun ρ h => (fa ρ h).bind fun u h1 => (fr ρ h1).bind fun us h2 => .ok (u :: us) h2
def eCallB (g : List D → Option D) (fas : Env → Hs → R (List Val)) : MV := fun ρ h => (fas ρ h).bind fun us h1 => match vDs us h1 with
  | some ds => R.opt ((g ds).map .d) h1
  | none => .no
/-- data alone -/
def pD : Val → Option D
  | .d x => some x
  | _ => none
def pDs : List Val → Option (List D)
  | [] => some []
  | .d x :: us => (pDs us).map (x :: ·)
  | _ :: _ => none
def eTup (fas : Env → Hs → R (List Val)) : MV := fun ρ h => (fas ρ h).bind fun us h1 => match pDs us with
  | some ds => if ds.length ≤ sizeLine then .ok (.d (.tuple ds)) h1 else .no
  | none => .no
def eLst (fas : Env → Hs → R (List Val)) : MV := fun ρ h => (fas ρ h).bind fun us h1 => match pDs us with
  | some ds => if ds.length ≤ sizeLine then .ok (.d (.list ds)) h1 else .no
  | none => .no
/-- a list that will be changed: a new place of the store -/
def eLstM (fas : Env → Hs → R (List Val)) : MV := fun ρ h => (fas ρ h).bind fun us h1 => match pDs us with
  | some ds => if ds.length ≤ sizeLine then .ok (.r h1.length) (h1 ++ [.lst ds]) else .no
  | none => .no
def asB : Val → Option Bool
  | .d (.bool b) => some b
  | _ => none
def tVal (fa : MV) : Env → Hs → R Bool := fun ρ h => (fa ρ h).bind fun u h1 => R.opt (asB u) h1
def tAndD (fa fb : Env → Hs → R Bool) : Env → Hs → R Bool := fun ρ h => (fa ρ h).bind fun b h1 => if b = true then fb ρ h1 else .ok false h1
def tOrD (fa fb : Env → Hs → R Bool) : Env → Hs → R Bool := fun ρ h => (fa ρ h).bind fun b h1 => if b = true then .ok true h1 else fb ρ h1
def tNotD (fa : Env → Hs → R Bool) : Env → Hs → R Bool := fun ρ h => (fa ρ h).bind fun b h1 => .ok (!b) h1
def eAnd (fa fb : MV) : MV := fun ρ h => (fa ρ h).bind fun u h1 => match asB u with
  | some true => fb ρ h1
  | some false => .ok (.d (.bool false)) h1
  | none => .no
def eOr (fa fb : MV) : MV := fun ρ h => (fa ρ h).bind fun u h1 => match asB u with
  | some true => .ok (.d (.bool true)) h1
  | some false => fb ρ h1
  | none => .no
def eNot (fa : MV) : MV := fun ρ h => (fa ρ h).bind fun u h1 => match asB u with
  | some b => .ok (.d (.bool (!b))) h1
  | none => .no
def eIf (ft : Env → Hs → R Bool) (fa fb : MV) : MV := fun ρ h => (ft ρ h).bind fun b h1 => if b = true then fa ρ h1 else fb ρ h1
def isNone : Val → Bool
  | .d .none => true
  | _ => false
def eIsN (fa : MV) : MV := fun ρ h => (fa ρ h).bind fun u h1 => .ok (.d (.bool (isNone u))) h1
def eNotN (fa : MV) : MV := fun ρ h => (fa ρ h).bind fun u h1 => .ok (.d (.bool (!isNone u))) h1

section
variable {X : Cx}
/-! ### rules -/
theorem ee_var (i : Nat) {x : Str} {pos : Pos} (hN : X.N[i]? = some x := by rfl) (hv : Vis X.env.scope x := by first | exact Or.inl rfl | exact Or.inr (Or.inl rfl) | exact Or.inr (Or.inr rfl)) (hd : (x == ("__debug__" : Str)) = false := by decide)
    (hcd : (x == ("__classdict__" : Str)) = false := by decide) : EE X (.Name x pos) (eVar i) := ⟨fun W tk => ⟨_, pe_var hN hv hd hcd, fun ζ ι ρ hs σ H Q er s k => by
  unfold eVar at k
  split at k
  · rename_i v e
    obtain ⟨y, h1, h2⟩ := er.2 i v e
    exact ⟨y, h1, k.here s (fun _ _ h => h) h2⟩
  · exact k.elim⟩⟩
theorem ee_int {i : Int} {j : Nat} {pos : Pos} : EE X (.Constant (.int i) j pos) (eC (.int i)) := ⟨fun W tk => ⟨_, pe_int, fun ζ ι ρ hs σ H Q er s k => k.here s (fun _ _ h => h) (.d (.int i))⟩⟩
theorem ee_bl {b : Bool} {j : Nat} {pos : Pos} : EE X (.Constant (.bool b) j pos) (eC (.bool b)) := ⟨fun W tk => ⟨_, pe_bl, fun ζ ι ρ hs σ H Q er s k => k.here s (fun _ _ h => h) (.d (.bl b))⟩⟩
theorem ee_non {j : Nat} {pos : Pos} : EE X (.Constant .none j pos) (eC .none) := ⟨fun W tk => ⟨_, pe_non, fun ζ ι ρ hs σ H Q er s k => k.here s (fun _ _ h => h) (.d .non)⟩⟩
theorem ee_str {x : Str} {j : Nat} {pos : Pos} : EE X (.Constant (.str x) j pos) (eC (.str x)) := ⟨fun W tk => ⟨_, pe_str, fun ζ ι ρ hs σ H Q er s k => k.here s (fun _ _ h => h) (.d (.str x))⟩⟩
/-- what an operator by values gives of data -/
def OpD (X : Cx) (r : R2) (g : D → D → Option D) : Prop := ∀ (α : List Addr) (H : Hp) (x y : V) (a b c : D) (Q : VK), Ap α H → RdV X.K α H x a → RdV X.K α H y b → g a b = some c → (∀ z H', Same H H' → Rep X.K α H' z c → Q z H') → r x y H Q
variable {a b : Expr} {fa fb : MV} {pos : Pos}
theorem ee_bin {r : R2} {g : D → D → Option D} {e : Expr} (hd : OpD X r g) (pe : ∀ {ta tb : TE}, PE X a ta → PE X b tb → PE X e (tOp r ta tb)) (ha : EE X a fa) (hb : EE X b fb) : EE X e (eOp g fa fb) := ⟨fun W tk => by
  obtain ⟨ta, pa, qa⟩ := ha.run W tk
  obtain ⟨tb, pb, qb⟩ := hb.run W tk
  refine ⟨_, pe pa pb, fun ζ ι ρ hs σ H Q er s k => ?_⟩
  refine qa ζ ι ρ hs σ H _ er s (Kt.bind k fun u h1 x H1 ι1 e1 s1 r1 k1 => ?_)
  refine qb ζ ι1 ρ h1 σ H1 _ (er.mv s e1) s1 (Kt.bind k1 fun v h2 y H2 ι2 e2 s2 r2 k2 => ?_)
  split at k2
  · rename_i da db ea eb
    obtain ⟨c, ec, k2⟩ := k2.opt
    cases hg : g da db with
    | none => rw [hg] at ec; cases ec
    | some c' =>
      rw [hg] at ec
      cases ec
      exact hd _ H2 x y da db c' Q s2.apA (vD_ok s2 (r1.mv s1 e2) ea) (vD_ok s2 r2 eb) hg fun z H' sm rp => k2.here s2 sm (.d rp)
  · exact k2.elim⟩
theorem ee_op {op : Operator} {r : R2} {g : D → D → Option D} (ho : OpR X (binaryOp op) r) (hd : OpD X r g) (ha : EE X a fa) (hb : EE X b fb) : EE X (.BinOp a op b pos) (eOp g fa fb) := ee_bin hd (fun pa pb => pe_op ho pa pb) ha hb
theorem ee_cmp {op : CmpOp} {r : R2} {g : D → D → Option D} (ho : OpR X (compareOp op) r) (hd : OpD X r g) (ha : EE X a fa) (hb : EE X b fb) (hm : behindInMarks op b = false := by first | exact nomark _ | rfl) : EE X (.Compare a [op] [b] pos) (eOp g fa fb) :=
  ee_bin hd (fun pa pb => pe_cmpR ho pa pb hm) ha hb
theorem ee_ix {r : R2} {g : D → D → Option D} (ho : IxR X r) (hd : OpD X r g) (ha : EE X a fa) (hb : EE X b fb) (hs : PlainIx b := by exact fun _ _ => rfl) : EE X (.Subscript a b pos) (eOp g fa fb) := ee_bin hd (fun pa pb => pe_ix ho pa pb hs) ha hb
def UnD (X : Cx) (r : V → Hp → VK → Prop) (g : D → Option D) : Prop := ∀ (α : List Addr) (H : Hp) (x : V) (a c : D) (Q : VK), Ap α H → RdV X.K α H x a → g a = some c → (∀ z H', Same H H' → Rep X.K α H' z c → Q z H') → r x H Q
theorem ee_un {op : UnaryOp} {r : V → Hp → VK → Prop} {g : D → Option D} (ho : UnR X (unaryOp op) r) (hd : UnD X r g) (ha : EE X a fa) : EE X (.UnaryOp op a pos) (eUn g fa) := ⟨fun W tk => by
  obtain ⟨ta, pa, qa⟩ := ha.run W tk
  refine ⟨_, pe_un ho pa, fun ζ ι ρ hs σ H Q er s k => ?_⟩
  refine qa ζ ι ρ hs σ H _ er s (Kt.bind k fun u h1 x H1 ι1 e1 s1 r1 k1 => ?_)
  split at k1
  · rename_i da ea
    obtain ⟨c, ec, k1⟩ := k1.opt
    cases hg : g da with
    | none => rw [hg] at ec; cases ec
    | some c' =>
      rw [hg] at ec
      cases ec
      exact hd _ H1 x da c' Q s1.apA (vD_ok s1 r1 ea) hg fun z H' sm rp => k1.here s1 sm (.d rp)
  · exact k1.elim⟩
theorem ea_nil : EA X [] aNil := ⟨fun W tk => ⟨_, pa_nil, fun ζ ι ρ hs σ H Q er s k => k.here s (fun _ _ h => h) .nil⟩⟩
theorem ea_cons {es : List Expr} {fr : Env → Hs → R (List Val)} (ha : EE X a fa) (hr : EA X es fr) (hs : starEach (a :: es) X.env = (false, eval a X.env) :: starEach es X.env := by rfl) : EA X (a :: es) (aCons fa fr) := ⟨fun W tk => by
  obtain ⟨ta, pa, qa⟩ := ha.run W tk
  obtain ⟨tr, pr, qr⟩ := hr.run W tk
  refine ⟨_, pa_cons pa pr hs, fun ζ ι ρ hs σ H Q er s k => ?_⟩
  refine qa ζ ι ρ hs σ H _ er s (Kt.bind k fun u h1 x H1 ι1 e1 s1 r1 k1 => ?_)
  refine qr ζ ι1 ρ h1 σ H1 _ (er.mv s e1) s1 (Kt.bind k1 fun us h2 xs H2 ι2 e2 s2 r2 k2 => ?_)
  exact k2.here s2 (fun _ _ h => h) (.cons (r1.mv s1 e2) r2)⟩
def CallD (X : Cx) (r : List V → Hp → VK → Prop) (g : List D → Option D) : Prop := ∀ (α : List Addr) (H : Hp) (xs : List V) (ds : List D) (c : D) (Q : VK), Ap α H → RdVs X.K α H xs ds → g ds = some c → (∀ z H', Same H H' → Rep X.K α H' z c → Q z H') → r xs H Q
variable {e : Expr} {es : List Expr} {fas : Env → Hs → R (List Val)} {g : List D → Option D} {r : List V → Hp → VK → Prop} {x : Str} {p : Pos} {id T : String}
theorem ee_tcb (pe : ∀ {t : TA}, PA X es t → PE X e (tCB r t)) (hd : CallD X r g) (ha : EA X es fas) : EE X e (eCallB g fas) := ⟨fun W tk => by
  obtain ⟨ta, pa, qa⟩ := ha.run W tk
  refine ⟨_, pe pa, fun ζ ι ρ hs σ H Q er s k => ?_⟩
  refine qa ζ ι ρ hs σ H _ er s (Kt.bind k fun us h1 xs H1 ι1 e1 s1 r1 k1 => ?_)
  split at k1
  · rename_i ds ed
    obtain ⟨c, ec, k1⟩ := k1.opt
    cases hg : g ds with
    | none => rw [hg] at ec; cases ec
    | some c' =>
      rw [hg] at ec
      cases ec
      exact hd _ H1 xs ds c' Q s1.apA (vDs_ok s1 r1 ed) hg fun z H' sm rp => k1.here s1 sm (.d rp)
  · exact k1.elim⟩
theorem ee_callB (hc : CallR X (.builtin id) r) (hd : CallD X r g) (hm : X.mg x = none) (hv : bootBuiltins x = some (.builtin id)) (ha : EA X (e :: es) fas) (hg : Gl X x := by rfl) (hn : x ≠ "__name__" := by decide) (hdb : (x == ("__debug__" : Str)) = false := by decide)
    (he : starEach (e :: es) X.env = (false, eval e X.env) :: starEach es X.env := by rfl) (hpl : (backTo pos (starEach es X.env)).any (·.1) = false := by rfl) : EE X (.Call (.Name x p) (e :: es) [] pos) (eCallB g fas) :=
  ee_tcb (fun pa => pe_callB hc hg hm hv pa hn hdb he hpl) hd ha
theorem ee_callTy (hc : CallR X (.type T) r) (hd : CallD X r g) (hm : X.mg x = none) (hv : bootBuiltins x = some (.type T)) (ha : EA X (e :: es) fas) (hg : Gl X x := by rfl) (hn : x ≠ "__name__" := by decide) (hdb : (x == ("__debug__" : Str)) = false := by decide)
    (he : starEach (e :: es) X.env = (false, eval e X.env) :: starEach es X.env := by rfl) (hpl : (backTo pos (starEach es X.env)).any (·.1) = false := by rfl) : EE X (.Call (.Name x p) (e :: es) [] pos) (eCallB g fas) :=
  ee_tcb (fun pa => pe_callTy hc hg hm hv pa hn hdb he hpl) hd ha
theorem pDs_ok {K : PySem.W.Frag} {ζ ι : List Addr} {H : Hp} : ∀ {vs : List V} {us : List Val} {ds : List D}, VRepAll K ζ ι H vs us → pDs us = some ds → RepAll K (ζ ++ ι) H vs ds
  | _, _, _, .nil, e => by cases e; exact .nil
  | _, _, _, .cons (u := u) (us := us) r t, e => by
    cases u with
    | d x =>
      simp only [pDs] at e
      cases q : pDs us with
      | none => rw [q] at e; cases e
      | some ds =>
        rw [q] at e
        cases e
        cases r with
        | d r => exact .cons r (pDs_ok t q)
    | r => cases e
    | x => cases e
    | s => cases e
    | c => cases e
    | t => cases e
theorem ee_tup {k : Nat} (ha : EA X es fas) : EE X (.Tuple es k pos) (eTup fas) := ⟨fun W tk => by
  obtain ⟨ta, pa, qa⟩ := ha.run W tk
  refine ⟨_, pe_tup pa, fun ζ ι ρ hs σ H Q er s k => ?_⟩
  refine qa ζ ι ρ hs σ H _ er s (Kt.bind k fun us h1 xs H1 ι1 e1 s1 r1 k1 => ?_)
  split at k1
  · rename_i ds ed
    split at k1
    · rename_i hl
      have rp := pDs_ok r1 ed
      refine ⟨by rw [rp.length]; exact hl, fun q hq => k1.here s1 (same_new hq) (.d (.tup upd_same ?_))⟩
      exact rp.same s1.apA (same_new hq)
    · exact k1.elim
  · exact k1.elim⟩
theorem Sim.fresh {K : PySem.W.Frag} {ζ ι : List Addr} {H : Hp} {hs : Hs} (s : Sim K ζ ι H hs) {q : Addr} (hq : H q = none) : q ∉ ζ ++ ι := fun m => by
  rcases List.mem_append.mp m with m | m
  · obtain ⟨x, z, _⟩ := s.ap q m
    rw [hq] at z
    cases z
  · obtain ⟨i, hi, e⟩ := List.getElem_of_mem m
    have e1 : ι[i]? = some q := by rw [List.getElem?_eq_getElem hi, e]
    have hj : i < hs.length := by rw [← s.len]; exact hi
    have z := s.at_ i q _ e1 (List.getElem?_eq_getElem hj)
    generalize hs[i] = m at z
    cases z with
    | lst z _ => rw [hq] at z; cases z
    | dK z _ => rw [hq] at z; cases z
    | dT z _ => rw [hq] at z; cases z
    | dN z _ _ _ => rw [hq] at z; cases z
theorem ee_lst (ha : EA X es fas) : EE X (.List es pos) (eLst fas) := ⟨fun W tk => by
  obtain ⟨ta, pa, qa⟩ := ha.run W tk
  refine ⟨_, pe_lst pa, fun ζ ι ρ hs σ H Q er s k => ?_⟩
  refine qa ζ ι ρ hs σ H _ er s (Kt.bind k fun us h1 xs H1 ι1 e1 s1 r1 k1 => ?_)
  split at k1
  · rename_i ds ed
    split at k1
    · rename_i hl
      have rp := pDs_ok r1 ed
      refine ⟨by rw [rp.length]; exact hl, fun q hq => k1.here s1 (same_new hq) (.d (.lst upd_same (s1.fresh hq) ?_))⟩
      exact rp.same s1.apA (same_new hq)
    · exact k1.elim
  · exact k1.elim⟩
/-- a new tuple, of things of the store too -/
def tOf : List Val → Option (List (Sum D Nat))
  | [] => some []
  | .d x :: us => (tOf us).map (.inl x :: ·)
  | .r i :: us => (tOf us).map (.inr i :: ·)
  | _ => none
def eTupM (fas : Env → Hs → R (List Val)) : MV := fun ρ h => (fas ρ h).bind fun us h1 => match tOf us with
  | some ms => if ms.length ≤ sizeLine then .ok (.t ms) h1 else .no
  | none => .no
theorem tOf_ok {K : PySem.W.Frag} {ζ ι : List Addr} {H : Hp} : ∀ {vs : List V} {us : List Val} {ms : List (Sum D Nat)}, VRepAll K ζ ι H vs us → tOf us = some ms → TRepAll K ζ ι H vs ms ∧ vs.length = ms.length
  | _, _, _, .nil, e => by cases e; exact ⟨.nil, rfl⟩
  | _, _, _, .cons (u := u) (us := us) r t, e => by
    cases r with
    | d r =>
      simp only [tOf] at e
      cases q : tOf us with
      | none => rw [q] at e; cases e
      | some ds =>
        rw [q] at e
        cases e
        obtain ⟨h1, h2⟩ := tOf_ok t q
        exact ⟨.d r h1, by rw [List.length_cons, List.length_cons, h2]⟩
    | r r =>
      simp only [tOf] at e
      cases q : tOf us with
      | none => rw [q] at e; cases e
      | some ds =>
        rw [q] at e
        cases e
        obtain ⟨h1, h2⟩ := tOf_ok t q
        exact ⟨.r r h1, by rw [List.length_cons, List.length_cons, h2]⟩
    | x => cases e
    | s => cases e
    | c => cases e
    | t => cases e
theorem ee_tupM {k : Nat} (ha : EA X es fas) : EE X (.Tuple es k pos) (eTupM fas) := ⟨fun W tk => by
  obtain ⟨ta, pa, qa⟩ := ha.run W tk
  refine ⟨_, pe_tup pa, fun ζ ι ρ hs σ H Q er s k => ?_⟩
  refine qa ζ ι ρ hs σ H _ er s (Kt.bind k fun us h1 xs H1 ι1 e1 s1 r1 k1 => ?_)
  split at k1
  · rename_i ms ed
    split at k1
    · rename_i hl
      obtain ⟨rp, el⟩ := tOf_ok r1 ed
      refine ⟨by rw [el]; exact hl, fun q hq => k1.here s1 (same_new hq) (.t upd_same ?_)⟩
      exact rp.mv s1 (Ext.of_same (same_new hq))
    · exact k1.elim
  · exact k1.elim⟩
/-- a new place of the store -/
theorem Sim.push {K : PySem.W.Frag} {ζ ι : List Addr} {H : Hp} {hs : Hs} (s : Sim K ζ ι H hs) {q : Addr} {o : HO} {m : MO} (hq : H q = none) (hm : MRep K (ζ ++ (ι ++ [q])) (upd H q o) q m) : Sim K ζ (ι ++ [q]) (upd H q o) (hs ++ [m]) ∧ Ext ι H (ι ++ [q]) (upd H q o) := by
  have fr := s.fresh hq
  have ex : Ext ι H (ι ++ [q]) (upd H q o) := ⟨List.prefix_append _ _, fun a m n => by
    rcases List.mem_append.mp m with m | m
    · exact absurd m n
    · have e : a = q := by simpa using m
      rw [e]; exact hq, fun a u h _ => same_new hq a u h⟩
  refine ⟨⟨?_, by simp [s.len], fun i a m' h1 h2 => ?_, fun a m => ?_⟩, ex⟩
  · rw [← List.append_assoc]
    refine List.nodup_append.mpr ⟨s.nd, by simp, fun a ha b hb => ?_⟩
    have e : b = q := by simpa using hb
    rw [e]
    rintro rfl
    exact fr ha
  · by_cases hi : i < ι.length
    · rw [List.getElem?_append_left hi] at h1
      rw [List.getElem?_append_left (by rw [← s.len]; exact hi)] at h2
      have z := s.at_ i a m' h1 h2
      cases z with
      | lst z r => exact .lst (same_new hq _ _ z) (r.mv (s.mv ex))
      | dK z r => exact .dK (same_new hq _ _ z) (r.mv (s.mv ex))
      | dT z r => exact .dT (same_new hq _ _ z) (r.mv (s.mv ex))
      | dN z ok k r => exact .dN (same_new hq _ _ z) ok (k.mv (s.mv ex)) (r.mv (s.mv ex))
    · have e : i = ι.length := by
        have := (List.getElem?_eq_some_iff.mp h1).1
        rw [List.length_append, List.length_singleton] at this
        omega
      rw [e, List.getElem?_append_right (Nat.le_refl _), Nat.sub_self] at h1
      rw [e, s.len, List.getElem?_append_right (Nat.le_refl _), Nat.sub_self] at h2
      cases h1
      cases h2
      exact hm
  · obtain ⟨x, z, im⟩ := s.ap a m
    exact ⟨x, same_new hq _ _ z, im⟩
theorem ee_lstM (ha : EA X es fas) : EE X (.List es pos) (eLstM fas) := ⟨fun W tk => by
  obtain ⟨ta, pa, qa⟩ := ha.run W tk
  refine ⟨_, pe_lst pa, fun ζ ι ρ hs σ H Q er s k => ?_⟩
  refine qa ζ ι ρ hs σ H _ er s (Kt.bind k fun us h1 xs H1 ι1 e1 s1 r1 k1 => ?_)
  split at k1
  · rename_i ds ed
    split at k1
    · rename_i hl
      have rp := pDs_ok r1 ed
      refine ⟨by rw [rp.length]; exact hl, fun q hq => ?_⟩
      have ex0 : Ext ι1 H1 (ι1 ++ [q]) (upd H1 q (.lst xs)) := ⟨List.prefix_append _ _, fun a m n => by
        rcases List.mem_append.mp m with m | m
        · exact absurd m n
        · have e : a = q := by simpa using m
          rw [e]; exact hq, fun a u h _ => same_new hq a u h⟩
      obtain ⟨s2, ex⟩ := s1.push hq (m := .lst ds) (.lst upd_same (rp.mv (s1.mv ex0)))
      refine k1 _ _ _ ex s2 (.r ?_)
      rw [← s1.len, List.getElem?_append_right (Nat.le_refl _), Nat.sub_self]
      rfl
    · exact k1.elim
  · exact k1.elim⟩
/-! ### tests -/
variable {ft fu : Env → Hs → R Bool} {rest : List Expr}
theorem asB_ok {K : PySem.W.Frag} {ζ ι : List Addr} {H : Hp} {v : V} {u : Val} {b : Bool} (r : VRep K ζ ι H v u) (e : asB u = some b) : v = .bl b := by
  cases u with
  | d x =>
    cases x with
    | bool c =>
      cases e
      cases r with
      | d r => cases r; rfl
    | _ => cases e
  | _ => cases e
theorem et_val (ha : EE X a fa) (he : ∀ whole, isTrue a X.env whole = (do let v ← whole; standAt a.pos; holding [v] (truthy v)) := by intro _; rfl) : ET X a (tVal fa) := ⟨fun W tk => by
  obtain ⟨ta, pa, qa⟩ := ha.run W tk
  refine ⟨_, pt_val pa he, fun ζ ι ρ hs σ H Q er s k => ?_⟩
  refine qa ζ ι ρ hs σ H _ er s (Kt.bind k fun u h1 x H1 ι1 e1 s1 r1 k1 => ?_)
  obtain ⟨c, ec, k1⟩ := k1.opt
  exact ⟨c, asB_ok r1 ec, k1.here s1 (fun _ _ h => h) rfl⟩⟩
theorem EW.t {f : Env → Hs → R Bool} (h : EW X e f) : ET X e f := ⟨fun W tk => let ⟨t, p, q⟩ := h.run W tk; ⟨t, p.pt, q⟩⟩
theorem ew_and1 (ha : ET X a ft) : EW X (.BoolOp .And [a] pos) ft := ⟨fun W tk => let ⟨t, p, q⟩ := ha.run W tk; ⟨t, pw_and1 p, q⟩⟩
theorem ew_or1 (ha : ET X a ft) : EW X (.BoolOp .Or [a] pos) ft := ⟨fun W tk => let ⟨t, p, q⟩ := ha.run W tk; ⟨t, pw_or1 p, q⟩⟩
theorem ew_and (ha : ET X a ft) (hb : EW X (.BoolOp .And (b :: rest) pos) fu) : EW X (.BoolOp .And (a :: b :: rest) pos) (tAndD ft fu) := ⟨fun W tk => by
  obtain ⟨ta, pa, qa⟩ := ha.run W tk
  obtain ⟨tb, pb, qb⟩ := hb.run W tk
  refine ⟨_, pw_and pa pb, fun ζ ι ρ hs σ H Q er s k => ?_⟩
  refine qa ζ ι ρ hs σ H _ er s (Kt.bind k fun u h1 x H1 ι1 e1 s1 r1 k1 => ?_)
  subst r1
  cases x with
  | true => exact qb ζ ι1 ρ h1 σ H1 Q (er.mv s e1) s1 k1
  | false => exact k1.here s1 (fun _ _ h => h) rfl⟩
theorem ew_or (ha : ET X a ft) (hb : EW X (.BoolOp .Or (b :: rest) pos) fu) : EW X (.BoolOp .Or (a :: b :: rest) pos) (tOrD ft fu) := ⟨fun W tk => by
  obtain ⟨ta, pa, qa⟩ := ha.run W tk
  obtain ⟨tb, pb, qb⟩ := hb.run W tk
  refine ⟨_, pw_or pa pb, fun ζ ι ρ hs σ H Q er s k => ?_⟩
  refine qa ζ ι ρ hs σ H _ er s (Kt.bind k fun u h1 x H1 ι1 e1 s1 r1 k1 => ?_)
  subst r1
  cases x with
  | false => exact qb ζ ι1 ρ h1 σ H1 Q (er.mv s e1) s1 k1
  | true => exact k1.here s1 (fun _ _ h => h) rfl⟩
theorem et_not (ha : ET X a ft) : ET X (.UnaryOp .Not a pos) (tNotD ft) := ⟨fun W tk => by
  obtain ⟨ta, pa, qa⟩ := ha.run W tk
  refine ⟨_, pt_not pa, fun ζ ι ρ hs σ H Q er s k => ?_⟩
  refine qa ζ ι ρ hs σ H _ er s (Kt.bind k fun u h1 x H1 ι1 e1 s1 r1 k1 => ?_)
  subst r1
  exact k1.here s1 (fun _ _ h => h) rfl⟩
theorem ee_one {op : BoolOp} (ha : EE X a fa) : EE X (.BoolOp op [a] pos) fa := ⟨fun W tk => let ⟨t, p, q⟩ := ha.run W tk; ⟨t, pe_one p, q⟩⟩
theorem ee_and (ha : EE X a fa) (hb : EE X (.BoolOp .And (b :: rest) pos) fb) : EE X (.BoolOp .And (a :: b :: rest) pos) (eAnd fa fb) := ⟨fun W tk => by
  obtain ⟨ta, pa, qa⟩ := ha.run W tk
  obtain ⟨tb, pb, qb⟩ := hb.run W tk
  refine ⟨_, pe_and pa pb, fun ζ ι ρ hs σ H Q er s k => ?_⟩
  refine qa ζ ι ρ hs σ H _ er s (Kt.bind k fun u h1 x H1 ι1 e1 s1 r1 k1 => ?_)
  cases q : asB u with
  | none => rw [q] at k1; exact k1.elim
  | some c =>
    rw [q] at k1
    refine ⟨c, asB_ok r1 q, ?_⟩
    cases c with
    | true => exact qb ζ ι1 ρ h1 σ H1 Q (er.mv s e1) s1 k1
    | false => exact k1.here s1 (fun _ _ h => h) (.d (.bl false))⟩
theorem ee_or (ha : EE X a fa) (hb : EE X (.BoolOp .Or (b :: rest) pos) fb) : EE X (.BoolOp .Or (a :: b :: rest) pos) (eOr fa fb) := ⟨fun W tk => by
  obtain ⟨ta, pa, qa⟩ := ha.run W tk
  obtain ⟨tb, pb, qb⟩ := hb.run W tk
  refine ⟨_, pe_or pa pb, fun ζ ι ρ hs σ H Q er s k => ?_⟩
  refine qa ζ ι ρ hs σ H _ er s (Kt.bind k fun u h1 x H1 ι1 e1 s1 r1 k1 => ?_)
  cases q : asB u with
  | none => rw [q] at k1; exact k1.elim
  | some c =>
    rw [q] at k1
    refine ⟨c, asB_ok r1 q, ?_⟩
    cases c with
    | false => exact qb ζ ι1 ρ h1 σ H1 Q (er.mv s e1) s1 k1
    | true => exact k1.here s1 (fun _ _ h => h) (.d (.bl true))⟩
theorem ee_not (ha : EE X a fa) : EE X (.UnaryOp .Not a pos) (eNot fa) := ⟨fun W tk => by
  obtain ⟨ta, pa, qa⟩ := ha.run W tk
  refine ⟨_, pe_not pa, fun ζ ι ρ hs σ H Q er s k => ?_⟩
  refine qa ζ ι ρ hs σ H _ er s (Kt.bind k fun u h1 x H1 ι1 e1 s1 r1 k1 => ?_)
  cases q : asB u with
  | none => rw [q] at k1; exact k1.elim
  | some c =>
    rw [q] at k1
    exact ⟨c, asB_ok r1 q, k1.here s1 (fun _ _ h => h) (.d (.bl _))⟩⟩
theorem ee_if {c : Expr} (hc : ET X c ft) (ha : EE X a fa) (hb : EE X b fb) : EE X (.IfExp c a b pos) (eIf ft fa fb) := ⟨fun W tk => by
  obtain ⟨tc, pc, qc⟩ := hc.run W tk
  obtain ⟨ta, pa, qa⟩ := ha.run W tk
  obtain ⟨tb, pb, qb⟩ := hb.run W tk
  refine ⟨_, pe_ifExp pc pa pb, fun ζ ι ρ hs σ H Q er s k => ?_⟩
  refine qc ζ ι ρ hs σ H _ er s (Kt.bind k fun u h1 x H1 ι1 e1 s1 r1 k1 => ?_)
  subst r1
  cases x with
  | true => exact qa ζ ι1 ρ h1 σ H1 Q (er.mv s e1) s1 k1
  | false => exact qb ζ ι1 ρ h1 σ H1 Q (er.mv s e1) s1 k1⟩
theorem isN_ok {K : PySem.W.Frag} {ζ ι : List Addr} {H : Hp} {v : V} {u : Val} (r : VRep K ζ ι H v u) : decide (v = .non) = isNone u := by
  cases r with
  | d r => cases r <;> simp [isNone]
  | r => simp [isNone]
  | x => simp [isNone]
  | s => simp [isNone]
  | c => simp [isNone]
  | t => simp [isNone]
theorem ee_isN {j : Nat} {p' : Pos} (ha : EE X a fa) : EE X (.Compare a [.Is] [.Constant .none j p'] pos) (eIsN fa) := ⟨fun W tk => by
  obtain ⟨ta, pa, qa⟩ := ha.run W tk
  refine ⟨_, pe_cmp (pc_isN pa) rfl, fun ζ ι ρ hs σ H Q er s k => ?_⟩
  refine qa ζ ι ρ hs σ H _ er s (Kt.bind k fun u h1 x H1 ι1 e1 s1 r1 k1 => ?_)
  have e := isN_ok r1
  refine k1.here s1 (fun _ _ h => h) ?_
  rw [e]
  exact .d (.bl _)⟩
theorem ee_notN {j : Nat} {p' : Pos} (ha : EE X a fa) : EE X (.Compare a [.IsNot] [.Constant .none j p'] pos) (eNotN fa) := ⟨fun W tk => by
  obtain ⟨ta, pa, qa⟩ := ha.run W tk
  refine ⟨_, pe_cmp (pc_notN pa) rfl, fun ζ ι ρ hs σ H Q er s k => ?_⟩
  refine qa ζ ι ρ hs σ H _ er s (Kt.bind k fun u h1 x H1 ι1 e1 s1 r1 k1 => ?_)
  have e := isN_ok r1
  refine k1.here s1 (fun _ _ h => h) ?_
  rw [e]
  exact .d (.bl _)⟩
end
end DL

set_option Elab.async false
set_option linter.all false
set_option maxRecDepth 100000
set_option maxHeartbeats 1000000
namespace DL
open PySem PySem.Spec PyProof.Rows L2

/-! ### zip of any two of lists and tuples: a source is a tuple (true) or a list (false) -/
def SrcAt (p : Bool) (h : Heap) (a : Addr) (xs : Array Value) : Prop := if p = true then h.IsTuple a xs else h.IsList a xs
def CurAt (p : Bool) (h : Heap) (it a : Addr) (k : Nat) : Prop := if p = true then h.IsTupleIter it a k else h.IsListIter it a k
def curObj (p : Bool) (a : Addr) : Obj := { cls := .type (if p = true then "tuple_iterator" else "list_iterator"), data := .fields #[.ref a, .int 0 0] }
section
variable {p : Bool} {h h' : Heap} {a b it : Addr} {xs : Array Value} {k : Nat}
theorem SrcAt.move (x : SrcAt p h a xs) (e : ∀ o, h.get? a = some o → h'.get? a = some o) : SrcAt p h' a xs := by
  cases p
  · exact Heap.IsList.at x e
  · exact Heap.IsTuple.at x e
theorem CurAt.move (x : CurAt p h it a k) (e : ∀ o, h.get? it = some o → h'.get? it = some o) : CurAt p h' it a k := by
  cases p
  · exact Heap.IsListIter.at x e
  · exact Heap.IsTupleIter.at x e
theorem CurAt.obj (x : CurAt p h it a k) : ∃ o, h.get? it = some o ∧ o.data = .fields #[.ref a, .int k 0] := by
  cases p
  · obtain ⟨o, h1, _, h2⟩ := (show h.IsListIter it a k from x)
    exact ⟨o, h1, h2⟩
  · obtain ⟨o, h1, _, h2⟩ := (show h.IsTupleIter it a k from x)
    exact ⟨o, h1, h2⟩
theorem SrcAt.obj (x : SrcAt p h a xs) : ∃ o, h.get? a = some o := by
  cases p
  · obtain ⟨o, h1, _⟩ := (show h.IsList a xs from x)
    exact ⟨o, h1⟩
  · obtain ⟨o, h1, _⟩ := (show h.IsTuple a xs from x)
    exact ⟨o, h1⟩
theorem CurAt.new (e : h.get? it = some (curObj p a)) : CurAt p h it a 0 := by
  cases p
  · exact ⟨_, e, rfl, rfl⟩
  · exact ⟨_, e, rfl, rfl⟩
end
section
variable {prog : Program} {w : World} {A : Around} {E : Value → Shared → Prop} {s : Shared} {p q : Bool}
theorem cur_next {it l : Addr} {k : Nat} {xs : Array Value} {x : Value} {Q : Value → Shared → Prop} (c : CurAt p s.heap it l k) (d : SrcAt p s.heap l xs) (e : xs[k]? = some x)
    (g : ∀ h2, CurAt p h2 it l (k + 1) → Heap.SameBut it s.heap h2 → Q x { s with heap := h2 }) : wpAny (model prog w) A (Builtin.SmallTypes.nextOf (.ref it)) Q E s := by
  cases p
  · exact wpAny_nextOf_list_item c d e g
  · exact RZ.nextOf_tuple_item c d e g
theorem cur_stop {it l : Addr} {k : Nat} {xs : Array Value} {Q : Value → Shared → Prop} (hh : A.handled = none) (c : CurAt p s.heap it l k) (d : SrcAt p s.heap l xs) (e : xs[k]? = none)
    (g : ∀ h2 ex, Heap.ExtBut it s.heap h2 → (∃ o, h2.get? ex = some o ∧ o.cls = .type "StopIteration") → E (.ref ex) { s with heap := h2 }) : wpAny (model prog w) A (Builtin.SmallTypes.nextOf (.ref it)) Q E s := by
  cases p
  · exact wpAny_nextOf_list_end hh c d e g
  · exact RZ.nextOf_tuple_end hh c d e g
theorem cur_make {l : Addr} {xs : Array Value} {Q : Value → Shared → Prop} (d : SrcAt p s.heap l xs) (g : Q (.ref s.heap.objs.size) { s with heap := s.heap.push (curObj p l) }) : wpAny (model prog w) A (pyIter (.ref l)) Q E s := by
  cases p
  · exact wpAny_pyIter_list d g
  · exact wpAny_pyIter_tuple d g
/-- all but the zip's own five objects stays -/
def Rest (z TO i1 i2 : Addr) (h h' : Heap) : Prop := ∀ c o, c ≠ z → c ≠ TO → c ≠ i1 → c ≠ i2 → h.get? c = some o → h'.get? c = some o
theorem zipG_item {z TI TO i1 i2 l1 l2 : Addr} {k1 k2 : Nat} {xs ys : Array Value} {x y a b : Value} {Q : Value → Shared → Prop} (D : ZipApart z TI TO i1 i2 l1 l2)
    (zf : IsZip s.heap z TI TO .none) (ti : IsPair s.heap TI (.ref i1) (.ref i2)) (to : IsPair s.heap TO a b) (c1 : CurAt p s.heap i1 l1 k1) (c2 : CurAt q s.heap i2 l2 k2) (d1 : SrcAt p s.heap l1 xs) (d2 : SrcAt q s.heap l2 ys) (ex : xs[k1]? = some x) (ey : ys[k2]? = some y)
    (g : ∀ hE, IsZip hE z TI TO (rawInt s.heap.objs.size) → IsPair hE TO x y → CurAt p hE i1 l1 (k1 + 1) → CurAt q hE i2 l2 (k2 + 1) → IsPair hE s.heap.objs.size x y → hE.objs.size = s.heap.objs.size + 1 → Rest z TO i1 i2 s.heap hE → Q (.ref s.heap.objs.size) { s with heap := hE }) :
    wpAny (model prog w) A (Builtin.«zip.__next__» ⟨[.ref z], []⟩) (fun fin s' => ∃ v, fin = .done (.ret v) ∧ Q v s') E s := by
  show wpAny _ _ (field (.ref z) 2 >>= _) _ _ _
  refine wpAny_bind (wpAny_field zf rfl (x := .bool false) rfl ?_)
  show wpAny _ _ (field (.ref z) 3 >>= _) _ _ _
  refine wpAny_bind (wpAny_field zf rfl (x := .ref TI) rfl (wpAny_bind (wpAny_seqItems ti rfl ?_)))
  show wpAny _ _ (Builtin.SmallTypes.ownedTupleIsFree (.ref z) >>= _) _ _ _
  unfold Builtin.SmallTypes.ownedTupleIsFree
  refine wpAny_bind (wpAny_bind (wpAny_field zf rfl (x := .none) rfl (wpAny_pure ?_)))
  simp only [if_true]
  refine wpAny_bind (wpAny_rule (wpAny_bind (wpAny_field zf rfl (x := .ref TO) rfl (wpAny_bind (wpAny_setField_rec zf (by simp) fun hA zA sA => wpAny_bind ?_)))))
  have zA' : IsZip hA z TI TO .ellipsis := zA
  simp only [List.zipIdx_cons, List.zipIdx_nil, List.forIn_cons, List.forIn_nil]
  have mA := sA.extBut
  -- the first source's item
  refine wpAny_bind (wpAny_bind (wpAny_onRaise ?_))
  show wpAny _ _ (Builtin.SmallTypes.nextOf (.ref i1) >>= _) _ _ _
  refine wpAny_bind (cur_next (c1.move fun o => mA _ o D.i1z) (d1.move fun o => mA _ o D.l1z) ex fun hB cB sB => wpAny_pure ?_)
  have mB := sB.extBut
  have toB : IsPair hB TO a b := mB _ _ D.TOi1 (mA _ _ D.TOz to)
  refine wpAny_bind (wpAny_seqItems toB rfl (wpAny_bind (wpAny_updateSeq_pair toB fun hC tC sC => wpAny_bind (wpAny_letGo (wpAny_pure ?_)))))
  have toC : IsPair hC TO x b := tC
  have mC := sC.extBut
  -- the second's
  refine wpAny_bind (wpAny_bind (wpAny_onRaise ?_))
  show wpAny _ _ (Builtin.SmallTypes.nextOf (.ref i2) >>= _) _ _ _
  refine wpAny_bind (cur_next (c2.move fun o e => mC _ o D.TOi2.symm (mB _ o D.i12.symm (mA _ o D.i2z e))) (d2.move fun o e => mC _ o D.l2TO (mB _ o D.l2i1 (mA _ o D.l2z e))) ey fun hD cD sD => wpAny_pure ?_)
  have mD := sD.extBut
  have toD : IsPair hD TO x b := mD _ _ D.TOi2 toC
  refine wpAny_bind (wpAny_seqItems toD rfl (wpAny_bind (wpAny_updateSeq_pair toD fun hF tF sF => wpAny_bind (wpAny_letGo (wpAny_pure (wpAny_pure ?_))))))
  have toF : IsPair hF TO x y := tF
  have mF := sF.extBut
  have size : hF.objs.size = s.heap.objs.size := by rw [sF.1, sD.1, sC.1, sB.1, sA.1]
  have zF : IsZip hF z TI TO .ellipsis := mF _ _ D.TOz.symm (mD _ _ D.i2z.symm (mC _ _ D.TOz.symm (mB _ _ D.i1z.symm zA')))
  have rest : Rest z TO i1 i2 s.heap hF := fun c o n1 n2 n3 n4 e => mF _ _ n2 (mD _ _ n4 (mC _ _ n2 (mB _ _ n3 (mA _ _ n1 e))))
  have c1F : CurAt p hF i1 l1 (k1 + 1) := cB.move fun o e => mF _ _ D.TOi1.symm (mD _ _ D.i12 (mC _ _ D.TOi1.symm e))
  have c2F : CurAt q hF i2 l2 (k2 + 1) := cD.move fun o e => mF _ _ D.TOi2.symm e
  have below : z < hF.objs.size := Heap.lt_size zF
  -- the pair is made and handed out
  refine wpAny_bind (wpAny_seqItems toF rfl (wpAny_bind (wpAny_newTuple ?_)))
  show wpAny _ _ (Builtin.SmallTypes.ownedTupleHandOut (.ref z) (.ref hF.objs.size) >>= _) _ _ _
  unfold Builtin.SmallTypes.ownedTupleHandOut
  have zG : IsZip (hF.push { cls := .type "tuple", data := .seq #[x, y] }) z TI TO .ellipsis := Heap.get?_push_of_some _ zF
  refine wpAny_bind (wpAny_bind (wpAny_setField_rec zG (by simp) fun hI zI sI => ?_))
  have zI' : IsZip hI z TI TO (rawInt hF.objs.size) := zI
  refine wpAny_setField_rec zI' (by simp) fun hJ zJ sJ => wpAny_pure ⟨_, rfl, ?_⟩
  have zJ' : IsZip hJ z TI TO (rawInt hF.objs.size) := zJ
  have up : ∀ c o, c ≠ z → hF.get? c = some o → hJ.get? c = some o := fun c o n e => sJ.extBut _ _ n (sI.extBut _ _ n (Heap.get?_push_of_some _ e))
  have made : IsPair hJ hF.objs.size x y := sJ.extBut _ _ (Nat.ne_of_gt below) (sI.extBut _ _ (Nat.ne_of_gt below) (Heap.get?_push_size _ rfl))
  have sizeJ : hJ.objs.size = hF.objs.size + 1 := by rw [sJ.1, sI.1, Heap.size_push]
  rw [size] at zJ' made sizeJ
  show Q (.ref hF.objs.size) _
  rw [size]
  exact g hJ zJ' (up _ _ D.TOz toF) (c1F.move fun o e => up _ o D.i1z e) (c2F.move fun o e => up _ o D.i2z e) made sizeJ fun c o n1 n2 n3 n4 e => up c o n1 (rest c o n1 n2 n3 n4 e)
theorem zipG_stop {z TI TO i1 i2 l1 l2 : Addr} {k1 k2 : Nat} {xs ys : Array Value} {a b : Value} {Q : Fin → Shared → Prop} (hh : A.handled = none) (D : ZipApart z TI TO i1 i2 l1 l2)
    (zf : IsZip s.heap z TI TO .none) (ti : IsPair s.heap TI (.ref i1) (.ref i2)) (to : IsPair s.heap TO a b) (c1 : CurAt p s.heap i1 l1 k1) (c2 : CurAt q s.heap i2 l2 k2) (d1 : SrcAt p s.heap l1 xs) (d2 : SrcAt q s.heap l2 ys) (over : xs[k1]? = none ∨ ys[k2]? = none)
    (g : ∀ hE ex, Rest z TO i1 i2 s.heap hE → (∃ o, hE.get? ex = some o ∧ o.cls = .type "StopIteration") → E (.ref ex) { s with heap := hE }) : wpAny (model prog w) A (Builtin.«zip.__next__» ⟨[.ref z], []⟩) Q E s := by
  show wpAny _ _ (field (.ref z) 2 >>= _) _ _ _
  refine wpAny_bind (wpAny_field zf rfl (x := .bool false) rfl ?_)
  show wpAny _ _ (field (.ref z) 3 >>= _) _ _ _
  refine wpAny_bind (wpAny_field zf rfl (x := .ref TI) rfl (wpAny_bind (wpAny_seqItems ti rfl ?_)))
  show wpAny _ _ (Builtin.SmallTypes.ownedTupleIsFree (.ref z) >>= _) _ _ _
  unfold Builtin.SmallTypes.ownedTupleIsFree
  refine wpAny_bind (wpAny_bind (wpAny_field zf rfl (x := .none) rfl (wpAny_pure ?_)))
  simp only [if_true]
  refine wpAny_bind (wpAny_rule (wpAny_bind (wpAny_field zf rfl (x := .ref TO) rfl (wpAny_bind (wpAny_setField_rec zf (by simp) fun hA zA sA => wpAny_bind ?_)))))
  have zA' : IsZip hA z TI TO .ellipsis := zA
  simp only [List.zipIdx_cons, List.zipIdx_nil, List.forIn_cons, List.forIn_nil]
  have mA := sA.extBut
  refine wpAny_bind (wpAny_bind (wpAny_onRaise ?_))
  show wpAny _ _ (Builtin.SmallTypes.nextOf (.ref i1) >>= _) _ _ _
  cases ex : xs[k1]? with
  | none =>
    refine wpAny_bind (cur_stop hh (c1.move fun o => mA _ o D.i1z) (d1.move fun o => mA _ o D.l1z) ex fun hB e mB st => ?_)
    obtain ⟨oe, ge, ce⟩ := st
    have zB : IsZip hB z TI TO .ellipsis := mB _ _ D.i1z.symm zA'
    have ne : e ≠ z := fun t => by subst t; rw [zB] at ge; cases ge; simp at ce
    exact wpAny_setField_rec zB (by simp) fun hC _ sC => g hC e (fun c o n1 _ n3 _ t => sC.extBut _ _ n1 (mB _ _ n3 (mA _ _ n1 t))) ⟨oe, sC.extBut _ _ ne ge, ce⟩
  | some x =>
    have ey : ys[k2]? = none := over.resolve_left (by rw [ex]; exact nofun)
    refine wpAny_bind (cur_next (c1.move fun o => mA _ o D.i1z) (d1.move fun o => mA _ o D.l1z) ex fun hB cB sB => wpAny_pure ?_)
    have mB := sB.extBut
    have toB : IsPair hB TO a b := mB _ _ D.TOi1 (mA _ _ D.TOz to)
    refine wpAny_bind (wpAny_seqItems toB rfl (wpAny_bind (wpAny_updateSeq_pair toB fun hC tC sC => wpAny_bind (wpAny_letGo (wpAny_pure ?_)))))
    have mC := sC.extBut
    refine wpAny_bind (wpAny_bind (wpAny_onRaise ?_))
    show wpAny _ _ (Builtin.SmallTypes.nextOf (.ref i2) >>= _) _ _ _
    refine wpAny_bind (cur_stop hh (c2.move fun o e => mC _ o D.TOi2.symm (mB _ o D.i12.symm (mA _ o D.i2z e))) (d2.move fun o e => mC _ o D.l2TO (mB _ o D.l2i1 (mA _ o D.l2z e))) ey fun hD e mD st => ?_)
    obtain ⟨oe, ge, ce⟩ := st
    have zD : IsZip hD z TI TO .ellipsis := mD _ _ D.i2z.symm (mC _ _ D.TOz.symm (mB _ _ D.i1z.symm zA'))
    have ne : e ≠ z := fun t => by subst t; rw [zD] at ge; cases ge; simp at ce
    exact wpAny_setField_rec zD (by simp) fun hF _ sF => g hF e (fun c o n1 n2 n3 n4 t => sF.extBut _ _ n1 (mD _ _ n4 (mC _ _ n2 (mB _ _ n3 (mA _ _ n1 t))))) ⟨oe, sF.extBut _ _ ne ge, ce⟩
abbrev zc1 (p : Bool) (h : Heap) (l1 : Addr) : Heap := h.push (curObj p l1)
abbrev zc2 (p q : Bool) (h : Heap) (l1 l2 : Addr) : Heap := (zc1 p h l1).push (curObj q l2)
abbrev zc3 (p q : Bool) (h : Heap) (l1 l2 : Addr) : Heap := (zc2 p q h l1 l2).push { cls := .type "tuple", data := .seq #[.ref h.objs.size, .ref (zc1 p h l1).objs.size] }
abbrev zc4 (p q : Bool) (h : Heap) (l1 l2 : Addr) : Heap := (zc3 p q h l1 l2).push { cls := .type "tuple", data := .seq #[.none, .none] }
abbrev zc5 (p q : Bool) (h : Heap) (l1 l2 : Addr) : Heap := (zc4 p q h l1 l2).push { cls := .type "zip", data := .fields #[.none, .bool false, .bool false, .ref (zc2 p q h l1 l2).objs.size, .ref (zc3 p q h l1 l2).objs.size] }
end
theorem zip_made (p q : Bool) (l1 l2 : Addr) (xs ys : Array Value) :
    Meets (Builtin.«zip.__new__» ⟨[.type "zip", .ref l1, .ref l2], []⟩) (fun _ R s => SrcAt p s.heap l1 xs ∧ SrcAt q s.heap l2 ys ∧ R (.ok (.ret (.ref (zc4 p q s.heap l1 l2).objs.size))) { s with heap := zc5 p q s.heap l1 l2 }) :=
  .of_wp fun prog w A R s c => by
    obtain ⟨hp, g, d, tk, os⟩ := s
    obtain ⟨d1, d2, c⟩ := c
    have kind := sub_zip
    have e1 : SrcAt p (Shared.heap ⟨hp, g, d, tk, os⟩) l1 xs := d1
    have e2 : SrcAt q (Shared.heap ⟨hp.push (curObj p l1), g, d, tk, os⟩) l2 ys := d2.move fun _ t => Heap.get?_push_of_some _ t
    wp_walk using cur_make e1, cur_make e2
    exact ⟨_, rfl, c⟩
section
variable {prog : Program} {w : World} {A : Around} {E : Value → Shared → Prop} {s : Shared} {p q : Bool}
theorem call_zipG {l1 l2 : Addr} {xs ys : Array Value} {Q : Value → Shared → Prop} (d1 : SrcAt p s.heap l1 xs) (d2 : SrcAt q s.heap l2 ys)
    (g : ∀ hE, IsZip hE (s.heap.objs.size + 4) (s.heap.objs.size + 2) (s.heap.objs.size + 3) .none → IsPair hE (s.heap.objs.size + 2) (.ref s.heap.objs.size) (.ref (s.heap.objs.size + 1)) → IsPair hE (s.heap.objs.size + 3) .none .none →
      CurAt p hE s.heap.objs.size l1 0 → CurAt q hE (s.heap.objs.size + 1) l2 0 → (∀ c o, s.heap.get? c = some o → hE.get? c = some o) → Q (.ref (s.heap.objs.size + 4)) { s with heap := hE }) :
    wpAny (model prog w) A (call (.type "zip") [.ref l1, .ref l2]) Q E s := by
  have s1 : (zc1 p s.heap l1).objs.size = s.heap.objs.size + 1 := Heap.size_push ..
  have s2 : (zc2 p q s.heap l1 l2).objs.size = s.heap.objs.size + 2 := by rw [Heap.size_push, s1]
  have s3 : (zc3 p q s.heap l1 l2).objs.size = s.heap.objs.size + 3 := by rw [Heap.size_push, s2]
  have s4 : (zc4 p q s.heap l1 l2).objs.size = s.heap.objs.size + 4 := by rw [Heap.size_push, s3]
  have up4 : ∀ c o, (zc4 p q s.heap l1 l2).get? c = some o → (zc5 p q s.heap l1 l2).get? c = some o := fun _ _ e => Heap.get?_push_of_some _ e
  have up3 : ∀ c o, (zc3 p q s.heap l1 l2).get? c = some o → (zc5 p q s.heap l1 l2).get? c = some o := fun c o e => up4 c o (Heap.get?_push_of_some _ e)
  have up2 : ∀ c o, (zc2 p q s.heap l1 l2).get? c = some o → (zc5 p q s.heap l1 l2).get? c = some o := fun c o e => up3 c o (Heap.get?_push_of_some _ e)
  have up1 : ∀ c o, (zc1 p s.heap l1).get? c = some o → (zc5 p q s.heap l1 l2).get? c = some o := fun c o e => up2 c o (Heap.get?_push_of_some _ e)
  have a5 : (zc5 p q s.heap l1 l2).get? (zc4 p q s.heap l1 l2).objs.size = some _ := Heap.get?_push_size _ rfl
  have a4 := up4 (zc3 p q s.heap l1 l2).objs.size _ (Heap.get?_push_size _ rfl)
  have a3 := up3 (zc2 p q s.heap l1 l2).objs.size _ (Heap.get?_push_size _ rfl)
  have a2 := up2 (zc1 p s.heap l1).objs.size _ (Heap.get?_push_size (o := curObj q l2) _ rfl)
  have a1 := up1 s.heap.objs.size _ (Heap.get?_push_size (o := curObj p l1) _ rfl)
  rw [s2, s3, s4] at a5
  rw [s3] at a4
  rw [s1, s2] at a3
  rw [s1] at a2
  refine callType_new F.called_zip (by decide) (F.typeCall_zip_2 _ _) (F.newCall_zip_2 _ _) (fun obj => F.args_object_init_3 obj _ _) F.entry_zip_new (zip_made p q l1 l2 xs ys) ⟨d1, d2, ?_⟩
  show _ ∧ _
  rw [s4]
  exact ⟨⟨_, a5, rfl⟩, g _ a5 a3 a4 (.new a1) (.new a2) fun c o e => up1 c o (Heap.get?_push_of_some _ e)⟩
theorem pyNext_zipG_item {z TI TO i1 i2 l1 l2 : Addr} {k1 k2 : Nat} {xs ys : Array Value} {x y a b : Value} {Q : Option Value → Shared → Prop} (D : ZipApart z TI TO i1 i2 l1 l2)
    (zf : IsZip s.heap z TI TO .none) (ti : IsPair s.heap TI (.ref i1) (.ref i2)) (to : IsPair s.heap TO a b) (c1 : CurAt p s.heap i1 l1 k1) (c2 : CurAt q s.heap i2 l2 k2) (d1 : SrcAt p s.heap l1 xs) (d2 : SrcAt q s.heap l2 ys) (ex : xs[k1]? = some x) (ey : ys[k2]? = some y)
    (g : ∀ hE, IsZip hE z TI TO (rawInt s.heap.objs.size) → IsPair hE TO x y → CurAt p hE i1 l1 (k1 + 1) → CurAt q hE i2 l2 (k2 + 1) → IsPair hE s.heap.objs.size x y → hE.objs.size = s.heap.objs.size + 1 → Rest z TO i1 i2 s.heap hE → Q (some (.ref s.heap.objs.size)) { s with heap := hE }) :
    wpAny (model prog w) A (pyNext (.ref z)) Q E s := by
  have ty : s.TypeIs (.ref z) "zip" := ⟨_, zf, rfl⟩
  unfold pyNext
  exact wpAny_bind (wpAny_attempt (wpAny_callSpecial?_slot (name := Str.ofString "__next__") ty F.slot_zip_next (wpAny_call_entry F.slot_zip_next ty F.entry_zip_next
    (zipG_item D zf ti to c1 c2 d1 d2 ex ey fun hE a1 a2 a3 a4 a5 a6 a7 => wpAny_pure (g hE a1 a2 a3 a4 a5 a6 a7)) (F.args_zip_next_1 _))))
theorem pyNext_zipG_stop {z TI TO i1 i2 l1 l2 : Addr} {k1 k2 : Nat} {xs ys : Array Value} {a b : Value} {Q : Option Value → Shared → Prop} (hh : A.handled = none) (D : ZipApart z TI TO i1 i2 l1 l2)
    (zf : IsZip s.heap z TI TO .none) (ti : IsPair s.heap TI (.ref i1) (.ref i2)) (to : IsPair s.heap TO a b) (c1 : CurAt p s.heap i1 l1 k1) (c2 : CurAt q s.heap i2 l2 k2) (d1 : SrcAt p s.heap l1 xs) (d2 : SrcAt q s.heap l2 ys) (over : xs[k1]? = none ∨ ys[k2]? = none)
    (g : ∀ hE, Rest z TO i1 i2 s.heap hE → Q none { s with heap := hE }) : wpAny (model prog w) A (pyNext (.ref z)) Q E s := by
  have ty : s.TypeIs (.ref z) "zip" := ⟨_, zf, rfl⟩
  unfold pyNext
  refine wpAny_bind (wpAny_attempt (wpAny_callSpecial?_slot (name := Str.ofString "__next__") ty F.slot_zip_next (wpAny_call_entry F.slot_zip_next ty F.entry_zip_next (zipG_stop hh D zf ti to c1 c2 d1 d2 over fun hE e r st => ?_) (F.args_zip_next_1 _))))
  obtain ⟨o, go, co⟩ := st
  exact wpAny_bind (wpAny_isInstance (T := "StopIteration") (b := true) ⟨o, go, co⟩ isSubtype_stop (wpAny_pure (g _ r)))
end
/-- a tuple or a list as it stands -/
def SqB (K : PySem.W.Frag) (p : Bool) (H : Hp) (a : Addr) (xs : List V) : Prop := if p = true then SqT K H a xs else SqL K H a xs
theorem SqB.at_ {X : Cx} {pins : List (Addr × Obj)} {σ : L2.St} {H : Hp} {s : Shared} {p : Bool} {a : Addr} {xs : List V} (I : Inv X pins σ H s) (q : SqB X.K p H a xs) : ∃ its, Vals xs its ∧ SrcAt p s.heap a its.toArray := by
  cases p
  · obtain ⟨its, r, d, _⟩ := I.list (show SqL X.K H a xs from q)
    exact ⟨its, r, d.isList⟩
  · obtain ⟨its, r, d, _⟩ := I.tuple (show SqT X.K H a xs from q)
    exact ⟨its, r, d⟩
theorem SqB.inj {X : Cx} {pins : List (Addr × Obj)} {σ : L2.St} {H : Hp} {s : Shared} {p : Bool} {a : Addr} {xs ys : List V} (I : Inv X pins σ H s) (h1 : SqB X.K p H a xs) (h2 : SqB X.K p H a ys) : xs = ys := by
  cases p
  · exact I.list_inj h1 h2
  · exact I.tuple_inj h1 h2
def ItzG (K : PySem.W.Frag) (p q : Bool) (a b : Addr) : It :=
  ⟨fun i H => ∃ xs ys x y, SqB K p H a xs ∧ SqB K q H b ys ∧ xs[i]? = some x ∧ ys[i]? = some y,
    fun i H v H' => ∃ T x y, v = .ref T ∧ H T = none ∧ H' = upd H T (.tup [x, y]) ∧ (∀ xs, SqB K p H a xs → xs[i]? = some x) ∧ ∀ ys, SqB K q H b ys → ys[i]? = some y,
    fun i H => ∃ xs ys, SqB K p H a xs ∧ SqB K q H b ys ∧ (xs.length ≤ i ∨ ys.length ≤ i)⟩
theorem five {z TI TO i1 i2 c : Addr} (h : c ∈ [z, TI, TO, i1, i2]) : c = z ∨ c = TI ∨ c = TO ∨ c = i1 ∨ c = i2 := by simpa using h
theorem turn_zipG {P : Program} {w : World} {K : PySem.W.Frag} {p q : Bool} {elts : List Expr} {kk : Nat} {tpos : Pos} {a b z TI TO i1 i2 : Addr} (D : ZipApart z TI TO i1 i2 a b) :
    Turn P w K (.Tuple elts kk tpos) (ItzG K p q a b) [z, TI, TO, i1, i2] z (fun i h => IsZip h z TI TO .none ∧ IsPair h TI (.ref i1) (.ref i2) ∧ (∃ x y, IsPair h TO x y) ∧ CurAt p h i1 a i ∧ CurAt q h i2 b i) where
  mem := List.mem_cons_self
  obj := fun i h ⟨zf, ti, ⟨x, y, to⟩, c1, c2⟩ c hc => by
    obtain ⟨o1, g1, f1⟩ := c1.obj
    obtain ⟨o2, g2, f2⟩ := c2.obj
    rcases five hc with rfl | rfl | rfl | rfl | rfl
    · exact ⟨_, zf, fun v t => nomatch t⟩
    · exact ⟨_, ti, fun v t => nomatch t⟩
    · exact ⟨_, to, fun v t => nomatch t⟩
    · exact ⟨o1, g1, fun v t => by rw [f1] at t; cases t⟩
    · exact ⟨o2, g2, fun v t => by rw [f2] at t; cases t⟩
  keep := fun i h h' ⟨zf, ti, ⟨x, y, to⟩, c1, c2⟩ k => ⟨k z (by simp) _ zf, k TI (by simp) _ ti, ⟨x, y, k TO (by simp) _ to⟩, c1.move fun o t => k i1 (by simp) o t, c2.move fun o t => k i2 (by simp) o t⟩
  item := by
    intro X hP hw hK hc i pins s σ H E I hf st hg
    subst hP hw hK
    obtain ⟨zf, ti, ⟨x0, y0, to⟩, c1, c2⟩ := st
    obtain ⟨xs, ys, x, y, qx, qy, hx, hy⟩ := hg
    obtain ⟨us, ru, du⟩ := qx.at_ I
    obtain ⟨vs, rv, dv⟩ := qy.at_ I
    obtain ⟨u, hu, ru⟩ := ru.get hx
    obtain ⟨v, hv, rv⟩ := rv.get hy
    have below : z < s.heap.objs.size := Heap.lt_size zf
    have lows : ∀ c ∈ [z, TI, TO, i1, i2], c < s.heap.objs.size := fun c hcm => by
      obtain ⟨o1, g1, _⟩ := c1.obj
      obtain ⟨o2, g2, _⟩ := c2.obj
      rcases five hcm with rfl | rfl | rfl | rfl | rfl
      · exact below
      · exact Heap.lt_size ti
      · exact Heap.lt_size to
      · exact Heap.lt_size g1
      · exact Heap.lt_size g2
    refine pyNext_zipG_item D zf ti to c1 c2 du dv (x := u) (y := v) (by simpa using hu) (by simpa using hv) fun hE zE tE c1E c2E mk sz rest => ⟨_, rfl, wpAny_letOwnedTupleGo_zip (s := { s with heap := hE }) zE fun hG zG sb => ?_⟩
    have pair : hG.get? s.heap.objs.size = some { cls := .type "tuple", data := .seq #[u, v] } := (sb.2 _ (Nat.ne_of_gt below)).trans mk
    have new : ObjOk X.prog X.w (upd H s.heap.objs.size (.tup [x, y])) hG s.heap.objs.size (.tup [x, y]) := ⟨by show 2 ≤ sizeLine; decide, [u, v], .cons ru (.cons rv .nil), ⟨_, pair, rfl, _, rfl⟩⟩
    have others : ∀ c o, c ∉ [z, TI, TO, i1, i2] → s.heap.get? c = some o → hG.get? c = some o := fun c o nm t => by
      have ne : ∀ d ∈ [z, TI, TO, i1, i2], c ≠ d := fun d hd e => nm (e ▸ hd)
      exact (sb.2 c (ne z (by simp))).trans (rest c o (ne z (by simp)) (ne TO (by simp)) (ne i1 (by simp)) (ne i2 (by simp)) t)
    have I1 : Inv X pins σ (upd H s.heap.objs.size (.tup [x, y])) { s with heap := hG } := I.turnedNew (t' := s.toks) (ch := [z, TI, TO, i1, i2]) others hf (Nat.le_refl _) new
    refine ⟨.ref s.heap.objs.size, _, I1, rfl, ⟨_, x, y, rfl, I.hok.fresh (Nat.le_refl _), rfl, fun l hl => by rw [hl.inj I qx]; exact hx, fun l hl => by rw [hl.inj I qy]; exact hy⟩, ⟨zG, ?_, ⟨u, v, ?_⟩, ?_, ?_⟩, fun c hcm => ?_⟩
    · exact (sb.2 _ D.TIz).trans (rest _ _ D.TIz D.TITO D.TIi1 D.TIi2 ti)
    · exact (sb.2 _ D.TOz).trans tE
    · exact c1E.move fun o t => (sb.2 _ D.i1z).trans t
    · exact c2E.move fun o t => (sb.2 _ D.i2z).trans t
    · exact (upd_ne (Nat.ne_of_lt (lows c hcm))).trans (hf c hcm).1
  done := by
    intro X hP hw hK hc i pins s σ H E I hf st hg
    subst hP hw hK
    obtain ⟨zf, ti, ⟨x0, y0, to⟩, c1, c2⟩ := st
    obtain ⟨xs, ys, qx, qy, over⟩ := hg
    obtain ⟨us, ru, du⟩ := qx.at_ I
    obtain ⟨vs, rv, dv⟩ := qy.at_ I
    have n1 := ru.length
    have n2 := rv.length
    have none_ : us.toArray[i]? = none ∨ vs.toArray[i]? = none := over.imp (fun t => by simp; omega) (fun t => by simp; omega)
    exact pyNext_zipG_stop (I.ok.hd hc) D zf ti to c1 c2 du dv none_ fun hE rest => ⟨rfl, I.turnedL (t' := s.toks) (ch := [z, TI, TO, i1, i2]) (fun c o nm t => by
      have ne : ∀ d ∈ [z, TI, TO, i1, i2], c ≠ d := fun d hd e => nm (e ▸ hd)
      exact rest c o (ne z (by simp)) (ne TO (by simp)) (ne i1 (by simp)) (ne i2 (by simp)) t) hf⟩
  self := fun A i s Q E st h => wpAny_pyIter_zip st.1 h
/-- zip(a, b), each a tuple or a list -/
def tZipG (K : PySem.W.Frag) (ta : TA) : TI := fun σ H R => ta σ H fun vs H1 => ∃ a b xs ys p q, vs = [.ref a, .ref b] ∧ SqB K p H1 a xs ∧ SqB K q H1 b ys ∧ R (ItzG K p q a b) H1
theorem pi_zipG {X : Cx} {e e2 : Expr} {ta : TA} {ps pos tpos : Pos} {elts : List Expr} {kk : Nat} (hg : Gl X "zip") (hm : X.mg "zip" = none) (ha : PA X [e, e2] ta)
    (hs : starEach [e, e2] X.env = (false, eval e X.env) :: starEach [e2] X.env := by rfl) (hpl : (backTo pos (starEach [e2] X.env)).any (·.1) = false := by rfl) :
    PI X (.Tuple elts kk tpos) (.Call (.Name "zip" ps) [e, e2] [] pos) (tZipG X.K ta) := ⟨fun pins s σ H R I h => by
  refine Call_ (ld_blt I hg hm PyProof.Rows.boot_zip (PyProof.Rows.callWith_type1 (thn (ha.run pos pins s σ H _ I h) fun us s1 ⟨vs, H1, I1, r1, a, b, xs, ys, p, q, ev, qx, qy, fin⟩ => ?_) hs hpl))
  subst ev
  cases r1 with
  | cons ra rr =>
    cases rr with
    | cons rb rr =>
      cases rr
      cases ra
      cases rb
      obtain ⟨us1, _, du⟩ := qx.at_ I1
      obtain ⟨us2, _, dv⟩ := qy.at_ I1
      obtain ⟨oa, ga⟩ := du.obj
      obtain ⟨ob, gb⟩ := dv.obj
      generalize hN : s1.heap.objs.size = N
      refine call_zipG du dv fun hE zf ti to c1 c2 kept => wpAny_pyIter_zip zf ?_
      rw [hN] at zf ti to c1 c2 ⊢
      have fresh : ∀ c ∈ [N + 4, N + 2, N + 3, N, N + 1], FpOk X pins H1 c := fun c hcm => by
        have le : s1.heap.objs.size ≤ c := by
          rw [hN]
          rcases five hcm with rfl | rfl | rfl | rfl | rfl
          all_goals first | exact Nat.le_add_right _ _ | exact Nat.le_refl _
        exact I1.fpOk le (I1.hok.fresh le)
      have la : a < N := hN ▸ Heap.lt_size ga
      have lb : b < N := hN ▸ Heap.lt_size gb
      exact ⟨N + 4, _, _, _, H1, rfl, I1.kept (t' := s1.toks) kept, turn_zipG (PySem.W.ktu_apart N a b la lb), ⟨zf, ti, ⟨_, _, to⟩, c1, c2⟩, fresh, fin⟩⟩
end DL

set_option Elab.async false
set_option linter.all false
set_option maxRecDepth 100000
set_option maxHeartbeats 1000000
namespace DL
open PySem PySem.Spec PyProof.Rows L2

/-! ### statements: what is wanted of their ends -/
def R.bindS {α : Type} (r : R α) (ρ : Env) (k : α → Hs → S) : S := match r with
  | .ok a h => k a h
  | .ex c v h => .ex c v ρ h
  | .no => .no
@[simp] theorem R.bindS_ok {α : Type} (a : α) (h : Hs) (ρ : Env) (k : α → Hs → S) : (R.ok a h).bindS ρ k = k a h := rfl
@[simp] theorem R.bindS_ex {α : Type} (c : Str) (v : D) (h : Hs) (ρ : Env) (k : α → Hs → S) : (R.ex c v h).bindS ρ k = .ex c v ρ h := rfl
@[simp] theorem R.bindS_no {α : Type} (ρ : Env) (k : α → Hs → S) : (R.no).bindS ρ k = .no := rfl
section
variable {K : PySem.W.Frag} {α β ζ ι ι' ι1 ι2 : List Addr} {H H' H1 H2 : Hp}
def Ks (K : PySem.W.Frag) (ζ ι : List Addr) (H : Hp) (r : S) (D : Ends) (W : WX) : Prop := match r with
  | .nx ρ h => ∀ σ' H' ι', Ext ι H ι' H' → Sim K ζ ι' H' h → ERep K ζ ι' H' σ' ρ → D.nx σ' H'
  | .bk ρ h => ∀ σ' H' ι', Ext ι H ι' H' → Sim K ζ ι' H' h → ERep K ζ ι' H' σ' ρ → D.bk σ' H'
  | .ct ρ h => ∀ σ' H' ι', Ext ι H ι' H' → Sim K ζ ι' H' h → ERep K ζ ι' H' σ' ρ → D.ct σ' H'
  | .rt v h => ∀ x H' ι', Ext ι H ι' H' → Sim K ζ ι' H' h → VRep K ζ ι' H' x v → D.rt x H'
  | .ex c v ρ h => ∀ cls dd σ' H' ι', Ext ι H ι' H' → Sim K ζ ι' H' h → ERep K ζ ι' H' σ' ρ → ExcOk K (ζ ++ ι') H' cls dd c v → W cls dd σ' H'
  | .no => False
theorem Ks.mv {r : S} {D : Ends} {W : WX} (k : Ks K ζ ι H r D W) (e : Ext ι H ι' H') : Ks K ζ ι' H' r D W := by
  cases r with
  | nx ρ h => exact fun σ2 H2 ι2 e2 => k σ2 H2 ι2 (e.trans e2)
  | bk ρ h => exact fun σ2 H2 ι2 e2 => k σ2 H2 ι2 (e.trans e2)
  | ct ρ h => exact fun σ2 H2 ι2 e2 => k σ2 H2 ι2 (e.trans e2)
  | rt v h => exact fun σ2 H2 ι2 e2 => k σ2 H2 ι2 (e.trans e2)
  | ex c v ρ h => exact fun cls dd σ2 H2 ι2 e2 => k cls dd σ2 H2 ι2 (e.trans e2)
  | no => exact k
theorem Ks.bind {γ δ : Type} {rel : List Addr → Hp → δ → γ → Prop} {r : R γ} {ρ : Env} {k : γ → Hs → S} {D : Ends} {W : WX} {Q1 : δ → Hp → Prop} {σ : L2.St} {hs : Hs} (w : Ks K ζ ι H (r.bindS ρ k) D W) (er : ERep K ζ ι H σ ρ) (s : Sim K ζ ι H hs)
    (h : ∀ a hs b H' ι', Ext ι H ι' H' → Sim K ζ ι' H' hs → rel ι' H' b a → Ks K ζ ι' H' (k a hs) D W → Q1 b H') : Kt K ζ rel ι H r Q1 (WE W σ) := by
  cases r with
  | ok a hs => exact fun b H' ι' e s r => h a hs b H' ι' e s r (w.mv e)
  | ex c v hs => exact fun cls dd H' ι' e s2 x => w cls dd σ H' ι' e s2 (er.mv s e) x
  | no => exact w
theorem Ks.nx {ρ : Env} {hs : Hs} {D : Ends} {W : WX} (k : Ks K ζ ι H (.nx ρ hs) D W) (s : Sim K ζ ι H hs) {σ : L2.St} (er : ERep K ζ ι H σ ρ) : D.nx σ H := k σ H ι Ext.refl s er
theorem ERep.set {σ : L2.St} {ρ : Env} {x : V} {v : Val} (er : ERep K ζ ι H σ ρ) (r : VRep K ζ ι H x v) (i : Nat) : ERep K ζ ι H (σ.set i (some x)) (ρ.set i (some v)) := by
  refine ⟨by simp [er.1], fun j u h => ?_⟩
  by_cases e : i = j
  · subst e
    by_cases hl : i < ρ.length
    · rw [List.getElem?_set_self hl] at h
      cases h
      exact ⟨x, List.getElem?_set_self (by rw [er.1]; exact hl), r⟩
    · rw [List.getElem?_eq_none (by simpa using hl)] at h
      cases h
  · rw [List.getElem?_set_ne e] at h
    obtain ⟨y, h1, h2⟩ := er.2 j u h
    exact ⟨y, by rw [List.getElem?_set_ne e]; exact h1, h2⟩
theorem ERep.gone {σ : L2.St} {ρ : Env} (er : ERep K ζ ι H σ ρ) (i : Nat) (o : Option V) : ERep K ζ ι H (σ.set i o) (ρ.set i none) := by
  refine ⟨by simp [er.1], fun j u h => ?_⟩
  by_cases e : i = j
  · subst e
    by_cases hl : i < ρ.length
    · rw [List.getElem?_set_self hl] at h
      cases h
    · rw [List.getElem?_eq_none (by simpa using hl)] at h
      cases h
  · rw [List.getElem?_set_ne e] at h
    obtain ⟨y, h1, h2⟩ := er.2 j u h
    exact ⟨y, by rw [List.getElem?_set_ne e]; exact h1, h2⟩
end
abbrev MS := Env → Hs → S
structure SS (X : Cx) (st : Stmt) (g : MS) : Prop where
  run : ∀ W : WX, Takes X W → ∃ t, PS X st t ∧ ∀ (ζ ι : List Addr) (ρ : Env) (hs : Hs) (σ : L2.St) (H : Hp) (D : Ends), ERep X.K ζ ι H σ ρ → Sim X.K ζ ι H hs → Ks X.K ζ ι H (g ρ hs) D W → t D σ H
structure SSs (X : Cx) (st : List Stmt) (g : MS) : Prop where
  run : ∀ W : WX, Takes X W → ∃ t, PSs X st t ∧ ∀ (ζ ι : List Addr) (ρ : Env) (hs : Hs) (σ : L2.St) (H : Hp) (D : Ends), ERep X.K ζ ι H σ ρ → Sim X.K ζ ι H hs → Ks X.K ζ ι H (g ρ hs) D W → t D σ H
/-- what the context must be -/
structure Cn (X : Cx) (k : Nat) : Prop where
  calm : X.calm = true
  nd : X.N.Nodup
  room : Room k X.A
  po : PassesOwn (model X.prog X.w) X.A X.env X.xe

/-! ### meanings of statements -/
def sNext : MS := fun ρ h => .nx ρ h
def sSeq (g1 g2 : MS) : MS := fun ρ h => match g1 ρ h with
  | .nx ρ' h' => g2 ρ' h'
  | r => r
def sSet (i : Nat) (f : MV) : MS := fun ρ h => (f ρ h).bindS ρ fun v h1 => .nx (ρ.set i (some v)) h1
def sExpr (f : MV) : MS := fun ρ h => (f ρ h).bindS ρ fun _ h1 => .nx ρ h1
def sRet (f : MV) : MS := fun ρ h => (f ρ h).bindS ρ fun v h1 => .rt v h1
def sRetN : MS := fun _ h => .rt (.d .none) h
def sBreak : MS := fun ρ h => .bk ρ h
def sCont : MS := fun ρ h => .ct ρ h
def sIf (c : Env → Hs → R Bool) (g1 g2 : MS) : MS := fun ρ h => (c ρ h).bindS ρ fun b h1 => if b = true then g1 ρ h1 else g2 ρ h1
def setAll : Env → List Nat → List Val → Env
  | ρ, i :: is, u :: us => setAll (ρ.set i (some u)) is us
  | ρ, _, _ => ρ
def sParN (is : List Nat) (fs : Env → Hs → R (List Val)) : MS := fun ρ h => (fs ρ h).bindS ρ fun us h1 => if us.length = is.length then .nx (setAll ρ is us) h1 else .no
section
variable {X : Cx} {e a : Expr} {es : List Expr} {f : MV} {g g1 g2 : MS} {st : Stmt} {rest : List Stmt} {pos : Pos}
theorem ss_nil : SSs X [] sNext := ⟨fun W tk => ⟨_, pss_nil, fun ζ ι ρ hs σ H D er s k => k.nx s er⟩⟩
theorem ss_cons (h1 : SS X st g1) (h2 : SSs X rest g2) : SSs X (st :: rest) (sSeq g1 g2) := ⟨fun W tk => by
  obtain ⟨t1, p1, q1⟩ := h1.run W tk
  obtain ⟨t2, p2, q2⟩ := h2.run W tk
  refine ⟨_, pss_cons p1 p2, fun ζ ι ρ hs σ H D er s k => q1 ζ ι ρ hs σ H _ er s ?_⟩
  unfold sSeq at k
  cases e : g1 ρ hs with
  | nx ρ' h' =>
    rw [e] at k
    exact fun σ' H' ι' e2 s2 er2 => q2 ζ ι' ρ' h' σ' H' D er2 s2 (k.mv e2)
  | rt v h => rw [e] at k; exact k
  | bk ρ h => rw [e] at k; exact k
  | ct ρ h => rw [e] at k; exact k
  | ex c v ρ h => rw [e] at k; exact k
  | no => rw [e] at k; exact k⟩
theorem ss_one (h1 : SS X st g1) : SSs X [st] g1 := ⟨fun W tk => let ⟨t, p, q⟩ := h1.run W tk; ⟨t, pss_one p, q⟩⟩
theorem ss_pass : SS X (.Pass pos) sNext := ⟨fun W tk => ⟨_, ps_pass, fun ζ ι ρ hs σ H D er s k => k.nx s er⟩⟩
theorem ss_doc {x : Str} {j : Nat} {pos' : Pos} : SS X (.Expr (.Constant (.str x) j pos) pos') sNext := ⟨fun W tk => ⟨_, ps_doc, fun ζ ι ρ hs σ H D er s k => k.nx s er⟩⟩
theorem ss_break : SS X (.Break pos) sBreak := ⟨fun W tk => ⟨_, ps_break, fun ζ ι ρ hs σ H D er s k => k σ H ι Ext.refl s er⟩⟩
theorem ss_continue : SS X (.Continue pos) sCont := ⟨fun W tk => ⟨_, ps_continue, fun ζ ι ρ hs σ H D er s k => k σ H ι Ext.refl s er⟩⟩
theorem ss_expr (he : EE X e f) (hs : swapsWith e none pos.line X.env = pure false := by rfl) : SS X (.Expr e pos) (sExpr f) := ⟨fun W tk => by
  obtain ⟨t, p, q⟩ := he.run W tk
  exact ⟨_, ps_expr p hs, fun ζ ι ρ hs σ H D er s k => q ζ ι ρ hs σ H _ er s (Ks.bind k er s fun u h1 x H1 ι1 e1 s1 r1 k1 => k1.nx s1 (er.mv s e1))⟩⟩
theorem ss_ret (he : EE X e f) : SS X (.Return (some e) pos) (sRet f) := ⟨fun W tk => by
  obtain ⟨t, p, q⟩ := he.run W tk
  exact ⟨_, ps_ret p, fun ζ ι ρ hs σ H D er s k => q ζ ι ρ hs σ H _ er s (Ks.bind k er s fun u h1 x H1 ι1 e1 s1 r1 k1 => k1 x H1 ι1 Ext.refl s1 r1)⟩⟩
theorem ss_retN : SS X (.Return none pos) sRetN := ⟨fun W tk => ⟨_, ps_retN, fun ζ ι ρ hs σ H D er s k => k .non H ι Ext.refl s (.d .non)⟩⟩
theorem ss_set (i : Nat) {x : Str} {pos' : Pos} (hN : X.N.Nodup) (he : EE X e f) (hi : X.N[i]? = some x := by rfl) (hx : Loc X.env.scope x := by first | exact Or.inl rfl | exact Or.inr rfl) (hs : swapsWith e (some (.Name x pos')) pos.line X.env = pure false := by rfl)
    (hf : X.fn x = true ∨ X.env.scope.names.lookup x = some .local := by first | exact .inl rfl | exact .inr rfl | assumption) : SS X (.Assign [.Name x pos'] e pos) (sSet i f) := ⟨fun W tk => by
  obtain ⟨t, p, q⟩ := he.run W tk
  exact ⟨_, ps_set hN hi hx p hs hf, fun ζ ι ρ hs σ H D er s k => q ζ ι ρ hs σ H _ er s (Ks.bind k er s fun u h1 x H1 ι1 e1 s1 r1 k1 => k1.nx s1 ((er.mv s e1).set r1 i))⟩⟩
theorem ss_if {c : Expr} {p1 p2 : List Stmt} {ft : Env → Hs → R Bool} (hc : ET X c ft) (h1 : SSs X p1 g1) (h2 : SSs X p2 g2) : SS X (.If c p1 p2 pos) (sIf ft g1 g2) := ⟨fun W tk => by
  obtain ⟨tc, pc, qc⟩ := hc.run W tk
  obtain ⟨t1, p1, q1⟩ := h1.run W tk
  obtain ⟨t2, p2, q2⟩ := h2.run W tk
  refine ⟨_, ps_if pc p1 p2, fun ζ ι ρ hs σ H D er s k => qc ζ ι ρ hs σ H _ er s (Ks.bind k er s fun u h1 x H1 ι1 e1 s1 r1 k1 => ?_)⟩
  subst r1
  cases x with
  | true => exact q1 ζ ι1 ρ h1 σ H1 D (er.mv s e1) s1 k1
  | false => exact q2 ζ ι1 ρ h1 σ H1 D (er.mv s e1) s1 k1⟩
theorem ss_par {x y : Str} {a b : Expr} {fs : Env → Hs → R (List Val)} {px py pt : Pos} {kt k2 : Nat} {pt2 : Pos} (i j : Nat) (hc : X.calm = true) (hN : X.N.Nodup) (ha : EA X [a, b] fs) (hi : X.N[i]? = some x := by rfl) (hj : X.N[j]? = some y := by rfl) (hij : i ≠ j := by decide)
    (hx : X.env.scope.names.lookup x = some .local := by rfl) (hy : X.env.scope.names.lookup y = some .local := by rfl)
    (hw : swappedStores [.Tuple [.Name x px, .Name y py] kt pt] (.Tuple [a, b] k2 pt2) X.env = pure (some [x, y]) := by rfl)
    (hs : swapsWithSole [.Tuple [.Name x px, .Name y py] kt pt] (.Tuple [a, b] k2 pt2) pos.line X.env = pure false := by rfl) :
    SS X (.Assign [.Tuple [.Name x px, .Name y py] kt pt] (.Tuple [a, b] k2 pt2) pos) (sParN [i, j] fs) := ⟨fun W tk => by
  obtain ⟨t, p, q⟩ := ha.run W tk
  refine ⟨_, ps_par hc hN hi hj hij hx hy p hw hs, fun ζ ι ρ hs σ H D er s k => q ζ ι ρ hs σ H _ er s (Ks.bind k er s fun us h1 xs H1 ι1 e1 s1 r1 k1 => ?_)⟩
  cases r1 with
  | nil => exact k1.elim
  | cons r1 rr => cases rr with
    | nil => exact k1.elim
    | cons r2 rr => cases rr with
      | cons _ _ => simp only [List.length_cons] at k1; rw [if_neg (by simp)] at k1; exact k1.elim
      | nil => exact ⟨_, _, rfl, (show Ks X.K ζ ι1 H1 (.nx ((ρ.set i (some _)).set j (some _)) h1) D W from k1).nx s1 (((er.mv s e1).set r1 i).set r2 j)⟩⟩

/-! ### targets -/
def Kg (K : PySem.W.Frag) (ζ ι : List Addr) (H : Hp) (vs : List Nat) (σ : L2.St) (r : R Env) (Q : L2.St → Hp → Prop) : Prop := match r with
  | .ok ρ h => ∀ σ' H' ι', Ext ι H ι' H' → Sim K ζ ι' H' h → ERep K ζ ι' H' σ' ρ → (∀ ws, (∀ i ∈ vs, i ∈ ws) → wipe σ' ws = wipe σ ws) → Q σ' H'
  | _ => False
abbrev MG := Val → Env → Hs → R Env
structure EG (X : Cx) (tg : Expr) (vs : List Nat) (gt : MG) : Prop where
  run : ∃ t, PG X tg t ∧ ∀ (ζ ι : List Addr) (ρ : Env) (hs : Hs) (σ : L2.St) (H : Hp) (x : V) (u : Val) (Q : L2.St → Hp → Prop), ERep X.K ζ ι H σ ρ → Sim X.K ζ ι H hs → VRep X.K ζ ι H x u → Kg X.K ζ ι H vs σ (gt u ρ hs) Q → t x σ H Q
structure EGs (X : Cx) (tgs : List Expr) (vs : List Nat) (gt : List D → Env → Hs → R Env) : Prop where
  run : ∃ t, PGs X tgs t ∧ ∀ (ζ ι : List Addr) (ρ : Env) (hs : Hs) (σ : L2.St) (H : Hp) (xs : List V) (ds : List D) (Q : L2.St → Hp → Prop), ERep X.K ζ ι H σ ρ → Sim X.K ζ ι H hs → RepAll X.K (ζ ++ ι) H xs ds → Kg X.K ζ ι H vs σ (gt ds ρ hs) Q → t xs σ H Q
def gN (i : Nat) : MG := fun u ρ h => .ok (ρ.set i (some u)) h
def gsNil : List D → Env → Hs → R Env := fun ds ρ h => match ds with
  | [] => .ok ρ h
  | _ => .no
def gsCons (g : MG) (gs : List D → Env → Hs → R Env) : List D → Env → Hs → R Env := fun ds ρ h => match ds with
  | d :: ds => (g (.d d) ρ h).bind fun ρ' h' => gs ds ρ' h'
  | [] => .no
def gT (gs : List D → Env → Hs → R Env) : MG := fun u ρ h => match u with
  | .d (.tuple ds) => gs ds ρ h
  | .d (.list ds) => gs ds ρ h
  | .r i => (match h[i]? with
    | some (.lst ds) => gs ds ρ h
    | _ => .no)
  | _ => .no
theorem wipe_get (σ : L2.St) (i : Nat) : ∀ vs : List Nat, (wipe σ vs)[i]? = if i ∈ vs ∧ i < σ.length then some none else σ[i]?
  | [] => by simp [wipe]
  | v :: vs => by
    unfold wipe
    by_cases e : v = i
    · subst e
      by_cases hl : v < σ.length
      · rw [List.getElem?_set_self (by rw [wipe_length]; exact hl), if_pos ⟨List.mem_cons_self, hl⟩]
      · rw [List.getElem?_eq_none (by rw [List.length_set, wipe_length]; omega), if_neg (fun z => hl z.2), List.getElem?_eq_none (by omega)]
    · rw [List.getElem?_set_ne e, wipe_get σ i vs]
      have : i ∈ v :: vs ↔ i ∈ vs := by simp [Ne.symm e]
      simp only [this]
theorem wipe_set (σ : L2.St) {i : Nat} (o : Option V) {ws : List Nat} (h : i ∈ ws) : wipe (σ.set i o) ws = wipe σ ws := by
  apply List.ext_getElem?
  intro j
  rw [wipe_get, wipe_get, List.length_set]
  by_cases hj : j ∈ ws ∧ j < σ.length
  · rw [if_pos hj, if_pos hj]
  · rw [if_neg hj, if_neg hj]
    by_cases e : i = j
    · subst e
      have hl : ¬ i < σ.length := fun z => hj ⟨h, z⟩
      rw [List.getElem?_eq_none (by rw [List.length_set]; omega), List.getElem?_eq_none (by omega)]
    · rw [List.getElem?_set_ne e]
theorem eg_name (i : Nat) {x : Str} (hN : X.N.Nodup) (hi : X.N[i]? = some x := by rfl) (hx : Loc X.env.scope x := by first | exact Or.inl rfl | exact Or.inr rfl) (hf : X.fn x = true ∨ X.env.scope.names.lookup x = some .local := by first | exact .inl rfl | exact .inr rfl | assumption) :
    EG X (.Name x pos) [i] (gN i) := ⟨⟨_, pg_name hN hi hx hf, fun ζ ι ρ hs σ H x u Q er s r k => k _ H ι Ext.refl s (er.set r i) fun ws h => wipe_set σ _ (h i (by simp))⟩⟩
theorem egs_nil : EGs X [] [] gsNil := ⟨⟨_, pgs_nil, fun ζ ι ρ hs σ H xs ds Q er s r k => by
  cases r with
  | nil => exact ⟨rfl, k σ H ι Ext.refl s er fun _ _ => rfl⟩
  | cons _ _ => exact k.elim⟩⟩
theorem egs_cons {t : Expr} {ts : List Expr} {vs ws : List Nat} {gt : MG} {gs : List D → Env → Hs → R Env} (h1 : EG X t vs gt) (h2 : EGs X ts ws gs)
    (he : (assignEach (t :: ts) X.env).map (·.2) = assign t X.env :: (assignEach ts X.env).map (·.2) := by rfl) : EGs X (t :: ts) (vs ++ ws) (gsCons gt gs) := ⟨by
  obtain ⟨t1, p1, q1⟩ := h1.run
  obtain ⟨t2, p2, q2⟩ := h2.run
  refine ⟨_, pgs_cons p1 p2 he, fun ζ ι ρ hs σ H xs ds Q er s r k => ?_⟩
  cases r with
  | nil => exact k.elim
  | cons r rr =>
    refine ⟨_, _, rfl, q1 ζ ι ρ hs σ H _ _ _ er s (.d r) ?_⟩
    simp only [gsCons] at k
    rename_i d ds
    cases e : gt (.d d) ρ hs with
    | no => rw [e] at k; exact k
    | ex c v h => rw [e] at k; exact k
    | ok ρ' h' =>
      rw [e] at k
      intro σ1 H1 ι1 e1 s1 er1 w1
      refine q2 ζ ι1 ρ' h' σ1 H1 _ _ Q er1 s1 (rr.mv (s.mv e1)) ?_
      simp only [R.bind_ok] at k
      cases e3 : gs ds ρ' h' with
      | no => rw [e3] at k; exact k
      | ex c v h => rw [e3] at k; exact k
      | ok ρ2 h2 =>
        rw [e3] at k
        exact fun σ2 H2 ι2 e2 s2 er2 w2 => k σ2 H2 ι2 (e1.trans e2) s2 er2 fun zs hz => (w2 zs fun i hi => hz i (List.mem_append_right _ hi)).trans (w1 zs fun i hi => hz i (List.mem_append_left _ hi))⟩
theorem pg_seq {es : List Expr} {k : Nat} {t : TGs} {n : Nat} (hc : X.calm = true) (h : PGs X es t) (hn : (assignEach es X.env).length = n) (hst : (assignEach es X.env).findIdx? (·.1) = none) :
    PG X (.Tuple es k pos) (fun v σ H Q => gTup X.K n t v σ H Q ∨ gLst X.K n t v σ H Q) := ⟨fun pins s σ H v u Q I r hw => hw.elim (fun z => (pg_tup hc h hn hst).run pins s σ H v u Q I r z) (fun z => (pg_lst hc h hn hst).run pins s σ H v u Q I r z)⟩
theorem eg_tup {ts : List Expr} {k : Nat} {vs : List Nat} {gs : List D → Env → Hs → R Env} {n : Nat} (hc : X.calm = true) (h : EGs X ts vs gs) (hlen : ∀ ds ρ hs, ds.length ≠ n → gs ds ρ hs = .no)
    (hn : (assignEach ts X.env).length = n := by rfl) (hst : (assignEach ts X.env).findIdx? (·.1) = none := by rfl) : EG X (.Tuple ts k pos) vs (gT gs) := ⟨by
  obtain ⟨t, p, q⟩ := h.run
  refine ⟨_, pg_seq hc p hn hst, fun ζ ι ρ hs σ H x u Q er s r k => ?_⟩
  have len : ∀ ds, Kg X.K ζ ι H vs σ (gs ds ρ hs) Q → ds.length = n := fun ds k => by
    by_cases hl : ds.length = n
    · exact hl
    · rw [hlen ds ρ hs hl] at k
      exact k.elim
  cases r with
  | d r =>
    cases r with
    | tup hq ra =>
      rename_i a xs ds
      have k' : Kg X.K ζ ι H vs σ (gs ds ρ hs) Q := k
      exact .inl ⟨a, xs, rfl, SqT.of hq, by rw [ra.length, len ds k'], q ζ ι ρ hs σ H xs ds Q er s ra k'⟩
    | con hq hc ra =>
      rename_i a xs ds
      have k' : Kg X.K ζ ι H vs σ (gs ds ρ hs) Q := k
      exact .inl ⟨a, xs, rfl, hq, by rw [ra.length, len ds k'], q ζ ι ρ hs σ H xs ds Q er s ra k'⟩
    | lst hq hn ra =>
      rename_i a xs ds
      have k' : Kg X.K ζ ι H vs σ (gs ds ρ hs) Q := k
      exact .inr ⟨a, xs, rfl, .inl (.inl hq), by rw [ra.length, len ds k'], q ζ ι ρ hs σ H xs ds Q er s ra k'⟩
    | _ => exact k.elim
  | @r a i e =>
    unfold gT at k
    simp only at k
    split at k
    · rename_i ds em
      have z := s.at_ i a _ e em
      cases z with
      | @lst xs _ z1 z2 => exact .inr ⟨a, xs, rfl, .inl (.inl z1), by rw [z2.length, len ds k], q ζ ι ρ hs σ H xs ds Q er s z2 k⟩
    · exact k.elim
  | _ => exact k.elim⟩
theorem gsNil_len (ds : List D) (ρ : Env) (hs : Hs) (h : ds.length ≠ 0) : gsNil ds ρ hs = .no := by
  cases ds with
  | nil => exact absurd rfl h
  | cons _ _ => rfl
theorem gsCons_len {n : Nat} {g : MG} {gs : List D → Env → Hs → R Env} (h : ∀ ds ρ hs, ds.length ≠ n → gs ds ρ hs = .no) (hg : ∀ u ρ hs, ∃ ρ' h', g u ρ hs = .ok ρ' h' ∨ g u ρ hs = .no) (ds : List D) (ρ : Env) (hs : Hs) (hl : ds.length ≠ n + 1) : gsCons g gs ds ρ hs = .no := by
  cases ds with
  | nil => rfl
  | cons d ds =>
    have hl2 : ds.length ≠ n := fun e => hl (by rw [List.length_cons, e])
    show (g (.d d) ρ hs).bind _ = _
    obtain ⟨ρ', h', e | e⟩ := hg (.d d) ρ hs
    · rw [e]; exact h ds ρ' h' hl2
    · rw [e]; rfl
theorem gN_ok (i : Nat) (u : Val) (ρ : Env) (hs : Hs) : ∃ ρ' h', gN i u ρ hs = .ok ρ' h' ∨ gN i u ρ hs = .no := ⟨_, _, .inl rfl⟩
def sAsg (f : MV) (gt : MG) : MS := fun ρ h => (f ρ h).bindS ρ fun v h1 => match gt v ρ h1 with
  | .ok ρ' h' => .nx ρ' h'
  | _ => .no
theorem ss_asg {tg : Expr} {vs : List Nat} {gt : MG} (he : EE X e f) (hg : EG X tg vs gt) (ha : (assignEach [tg] X.env).map (·.2) = [assign tg X.env] := by rfl) (hs : swapsWithSole [tg] e pos.line X.env = pure false := by rfl) (hw : swappedStores [tg] e X.env = pure none := by rfl) : SS X (.Assign [tg] e pos) (sAsg f gt) := ⟨fun W tk => by
  obtain ⟨t, p, q⟩ := he.run W tk
  obtain ⟨tg, pg, qg⟩ := hg.run
  refine ⟨_, ps_asg p pg hs hw ha, fun ζ ι ρ hs σ H D er s k => q ζ ι ρ hs σ H _ er s (Ks.bind k er s fun u h1 x H1 ι1 e1 s1 r1 k1 => ?_)⟩
  refine qg ζ ι1 ρ h1 σ H1 x u _ (er.mv s e1) s1 r1 ?_
  cases e : gt u ρ h1 with
  | ok ρ' h' => rw [e] at k1; exact fun σ' H' ι' e2 s2 er2 _ => k1 σ' H' ι' e2 s2 er2
  | ex c v h => rw [e] at k1; exact k1
  | no => rw [e] at k1; exact k1⟩

/-! ### what is walked -/
/-- the changed lists that must stay as they are meanwhile -/
def Chk (g : List (Nat × List D)) (h : Hs) : Prop := ∀ p ∈ g, h[p.1]? = some (.lst p.2)
@[simp] theorem Chk_nil (h : Hs) : Chk [] h := fun _ m => by cases m
/-- from H0 and ι0 to H and ι, with other lists in the making -/
theorem mv_wide {K : PySem.W.Frag} {ζ ζ' ι0 ι : List Addr} {H0 H : Hp} {hs0 : Hs} (s : Sim K ζ ι0 H0 hs0) (e : Ext ι0 H0 ι H) (hz : ∀ a ∈ ζ', a ∈ ζ ∨ H0 a = none) : Mv (ζ ++ ι0) H0 (ζ' ++ ι) H where
  keep := fun a o h n => by
    have n1 : a ∉ ι0 := fun m => n (List.mem_append_right _ m)
    have n2 : a ∉ ζ := fun m => n (List.mem_append_left _ m)
    refine ⟨e.keep a o h n1, fun m => (List.mem_append.mp m).elim (fun m => ?_) (e.not_mem h n1)⟩
    rcases hz a m with z | z
    · exact n2 z
    · rw [h] at z; cases z
  ap := s.mvA
structure IterOk (K : PySem.W.Frag) (ζ ι0 : List Addr) (H0 : Hp) (J : It) (its : List D) (g : List (Nat × List D)) : Prop where
  step : ∀ (i : Nat) (ζ' ι : List Addr) (H : Hp) (h : Hs), Ext ι0 H0 ι H → Sim K ζ' ι H h → (∀ a ∈ ζ', a ∈ ζ ∨ H0 a = none) → Chk g h →
    (i < its.length → J.go i H ∧ ∀ x H', J.yld i H x H' → Same H H' ∧ ∀ d, its[i]? = some d → Rep K (ζ' ++ ι) H' x d) ∧ (its.length ≤ i → J.stop i H)
def Ki (K : PySem.W.Frag) (ζ ι : List Addr) (H : Hp) (σ : L2.St) (r : R (List D × List (Nat × List D))) (Q : It → Hp → Prop) (W : WX) : Prop := match r with
  | .ok p h => ∀ J H' ι', Ext ι H ι' H' → Sim K ζ ι' H' h → IterOk K ζ ι' H' J p.1 p.2 → Q J H'
  | .ex c v h => ∀ cls dd H' ι', Ext ι H ι' H' → Sim K ζ ι' H' h → ExcOk K (ζ ++ ι') H' cls dd c v → W cls dd σ H'
  | .no => False
abbrev MI := Env → Hs → R (List D × List (Nat × List D))
structure EI (X : Cx) (tg iter : Expr) (fi : MI) : Prop where
  run : ∀ W : WX, Takes X W → ∃ wi, PI X tg iter wi ∧ ∀ (ζ ι : List Addr) (ρ : Env) (hs : Hs) (σ : L2.St) (H : Hp) (Q : It → Hp → Prop), ERep X.K ζ ι H σ ρ → Sim X.K ζ ι H hs → Ki X.K ζ ι H σ (fi ρ hs) Q W → wi σ H Q
/-- a list or a tuple as it is walked -/
def seqOf : Val → Hs → Option (List D × List (Nat × List D))
  | .d (.list ds), _ => some (ds, [])
  | .d (.tuple ds), _ => some (ds, [])
  | .r i, h => match h[i]? with
    | some (.lst ds) => some (ds, [(i, ds)])
    | _ => none
  | .s ns, _ => some (ns.map .int, [])
  | _, _ => none
def isTup : Val → Bool
  | .d (.tuple _) => true
  | _ => false
theorem RepAll.ints {K : PySem.W.Frag} {α : List Addr} {H : Hp} : ∀ ns : List Int, RepAll K α H (ns.map V.int) (ns.map PyData.int)
  | [] => .nil
  | n :: ns => .cons (.int n) (RepAll.ints ns)
/-- what the walk over a list needs: it is there whenever the guard holds -/
def LstAt (K : PySem.W.Frag) (ζ ι0 : List Addr) (H0 : Hp) (a : Addr) (its : List D) (g : List (Nat × List D)) : Prop := ∀ (ζ' ι : List Addr) (H : Hp) (h : Hs), Ext ι0 H0 ι H → Sim K ζ' ι H h → (∀ a ∈ ζ', a ∈ ζ ∨ H0 a = none) → Chk g h → ∃ xs, SqL K H a xs ∧ RepAll K (ζ' ++ ι) H xs its
def TupAt (K : PySem.W.Frag) (ζ ι0 : List Addr) (H0 : Hp) (a : Addr) (its : List D) (g : List (Nat × List D)) : Prop := ∀ (ζ' ι : List Addr) (H : Hp) (h : Hs), Ext ι0 H0 ι H → Sim K ζ' ι H h → (∀ a ∈ ζ', a ∈ ζ ∨ H0 a = none) → Chk g h → ∃ xs, SqT K H a xs ∧ RepAll K (ζ' ++ ι) H xs its
theorem seqOf_ok {K : PySem.W.Frag} {ζ ι : List Addr} {H : Hp} {hs : Hs} {v : V} {u : Val} {its : List D} {g : List (Nat × List D)} (s : Sim K ζ ι H hs) (r : VRep K ζ ι H v u) (e : seqOf u hs = some (its, g)) :
    ∃ a, v = .ref a ∧ ((isTup u = false ∧ (∃ xs, SqL K H a xs ∧ xs.length = its.length) ∧ LstAt K ζ ι H a its g) ∨ (isTup u = true ∧ (∃ xs, SqT K H a xs ∧ xs.length = its.length) ∧ TupAt K ζ ι H a its g)) := by
  cases r with
  | d r =>
    cases r with
    | lst h n ra =>
      cases e
      refine ⟨_, rfl, .inl ⟨rfl, ⟨_, .of h, ra.length⟩, fun ζ' ι2 H2 h2 e2 s2 hz _ => ?_⟩⟩
      have m := mv_wide s e2 hz
      exact ⟨_, .of (m.keep _ _ h n).1, ra.mv m⟩
    | tup h ra =>
      cases e
      refine ⟨_, rfl, .inr ⟨rfl, ⟨_, SqT.of h, ra.length⟩, fun ζ' ι2 H2 h2 e2 s2 hz _ => ?_⟩⟩
      have m := mv_wide s e2 hz
      exact ⟨_, m.sqt (SqT.of h), ra.mv m⟩
    | con h hc ra =>
      cases e
      refine ⟨_, rfl, .inr ⟨rfl, ⟨_, h, ra.length⟩, fun ζ' ι2 H2 h2 e2 s2 hz _ => ?_⟩⟩
      have m := mv_wide s e2 hz
      exact ⟨_, m.sqt h, ra.mv m⟩
    | _ => cases e
  | @r a i h =>
    simp only [seqOf] at e
    cases q : hs[i]? with
    | none => rw [q] at e; cases e
    | some m =>
      have z := s.at_ i a m h q
      rw [q] at e
      cases z with
      | lst z1 z2 =>
        cases e
        refine ⟨_, rfl, .inl ⟨rfl, ⟨_, .of z1, z2.length⟩, fun ζ' ι2 H2 h2 e2 s2 hz hc => ?_⟩⟩
        have hh := hc _ List.mem_cons_self
        obtain ⟨t, rfl⟩ := e2.pre
        obtain ⟨hi, _⟩ := List.getElem?_eq_some_iff.mp h
        have y := s2.at_ i a _ (by rw [List.getElem?_append_left hi]; exact h) hh
        cases y with
        | lst y1 y2 => exact ⟨_, .of y1, y2⟩
      | dK z1 z2 => cases e
      | dT z1 z2 => cases e
      | dN => cases e
  | x => cases e
  | c => cases e
  | t => cases e
  | @s a ns h =>
    cases e
    have hl : ∀ (ι2 : List Addr) (H2 : Hp), Ext ι H ι2 H2 → SqL K H2 a (ns.map V.int) := fun ι2 H2 e2 => by
      rcases h with ⟨o, h⟩ | h
      · exact .inl (.inr ⟨o, (s.mv e2).fz h⟩)
      · exact h H2
    exact ⟨a, rfl, .inl ⟨rfl, ⟨_, hl ι H Ext.refl, by simp⟩, fun ζ' ι2 H2 h2 e2 s2 hz _ => ⟨_, hl ι2 H2 e2, RepAll.ints ns⟩⟩⟩
theorem iter_list {K : PySem.W.Frag} {ζ ι : List Addr} {H : Hp} {a : Addr} {its : List D} {g : List (Nat × List D)} (h : LstAt K ζ ι H a its g) : IterOk K ζ ι H (Itl K a) its g := ⟨fun i ζ' ι2 H2 h2 e2 s2 hz hc => by
  obtain ⟨xs, q, ra⟩ := h ζ' ι2 H2 h2 e2 s2 hz hc
  refine ⟨fun hi => ?_, fun hi => ⟨xs, q, by rw [ra.length]; exact hi⟩⟩
  obtain ⟨x, hx, _⟩ := ra.get (List.getElem?_eq_getElem hi)
  refine ⟨⟨xs, x, q, hx⟩, fun y H' ⟨ey, hy⟩ => ?_⟩
  subst ey
  refine ⟨fun _ _ z => z, fun d hd => ?_⟩
  obtain ⟨y', hy', ry⟩ := ra.get hd
  rw [hy xs q] at hy'
  cases hy'
  exact ry⟩
theorem iter_tup {K : PySem.W.Frag} {ζ ι : List Addr} {H : Hp} {a : Addr} {its : List D} {g : List (Nat × List D)} (h : TupAt K ζ ι H a its g) : IterOk K ζ ι H (Itt K a) its g := ⟨fun i ζ' ι2 H2 h2 e2 s2 hz hc => by
  obtain ⟨xs, q, ra⟩ := h ζ' ι2 H2 h2 e2 s2 hz hc
  refine ⟨fun hi => ?_, fun hi => ⟨xs, q, by rw [ra.length]; exact hi⟩⟩
  obtain ⟨x, hx, _⟩ := ra.get (List.getElem?_eq_getElem hi)
  refine ⟨⟨xs, x, q, hx⟩, fun y H' ⟨ey, hy⟩ => ?_⟩
  subst ey
  refine ⟨fun _ _ z => z, fun d hd => ?_⟩
  obtain ⟨y', hy', ry⟩ := ra.get hd
  rw [hy xs q] at hy'
  cases hy'
  exact ry⟩
/-- as Kt.bind, for what is walked -/
theorem Ki.bind {γ δ : Type} {K : PySem.W.Frag} {ζ ι : List Addr} {H : Hp} {rel : List Addr → Hp → δ → γ → Prop} {r : R γ} {k : γ → Hs → R (List D × List (Nat × List D))} {Q : It → Hp → Prop} {W : WX} {Q1 : δ → Hp → Prop} {σ : L2.St} (w : Ki K ζ ι H σ (r.bind k) Q W)
    (h : ∀ a hs b H' ι', Ext ι H ι' H' → Sim K ζ ι' H' hs → rel ι' H' b a → (∀ p, k a hs = .ok p hs → ∀ J, IterOk K ζ ι' H' J p.1 p.2 → Q J H') → k a hs ≠ .no → Q1 b H') : Kt K ζ rel ι H r Q1 (WE W σ) := by
  cases r with
  | ok a hs => exact fun b H' ι' e s rr => h a hs b H' ι' e s rr (fun p hp J io => by
      simp only [R.bind_ok] at w
      rw [hp] at w
      exact w J H' ι' e s io) (fun z => by
      simp only [R.bind_ok] at w
      rw [z] at w
      exact w)
  | ex c v hs => exact w
  | no => exact w
def iSeq (f : MV) : MI := fun ρ h => (f ρ h).bind fun u h1 => R.opt (seqOf u h1) h1
/-- a value that is a list or a tuple: either way, by cases on the value -/
theorem pi_seq {tg l : Expr} {tl : TE} (hl : PE X l tl) : PI X tg l (fun σ H R => tl σ H fun x H1 => ∃ a, x = .ref a ∧ (((∃ xs, SqL X.K H1 a xs) ∧ R (Itl X.K a) H1) ∨ ((∃ xs, SqT X.K H1 a xs) ∧ R (Itt X.K a) H1))) := by
  refine ⟨fun pins s σ H R I h => ?_⟩
  refine thn (hl.run pins s σ H _ I h) fun v s1 ⟨x, H1, I1, r1, a, ex, q⟩ => ?_
  subst ex
  cases r1
  have fin : ∀ b ∈ [s1.heap.objs.size], FpOk X pins H1 b := fun b hb => by
    have e : b = s1.heap.objs.size := by simpa using hb
    subst e
    exact I1.fpOk (Nat.le_refl _) (I1.hok.fresh (Nat.le_refl _))
  rcases q with ⟨⟨xs, hq⟩, q⟩ | ⟨⟨xs, hq⟩, q⟩
  · obtain ⟨its, rv, p, hz⟩ := I1.list hq
    refine wpAny_pyIter_list p.isList ?_
    exact ⟨s1.heap.objs.size, [s1.heap.objs.size], _, _, H1, rfl, I1.kept (t' := s1.toks) fun b o e => Heap.get?_push_of_some _ e, turn_list a _, ⟨_, Heap.get?_push_size _ rfl, rfl, rfl⟩, fin, q⟩
  · obtain ⟨its, rv, p, hz⟩ := I1.tuple hq
    refine wpAny_pyIter_tuple (show s1.heap.IsTuple a its.toArray from p) ?_
    exact ⟨s1.heap.objs.size, [s1.heap.objs.size], _, _, H1, rfl, I1.kept (t' := s1.toks) fun b o e => Heap.get?_push_of_some _ e, turn_tuple a _, ⟨_, Heap.get?_push_size _ rfl, rfl, rfl⟩, fin, q⟩
theorem ei_seq {tg : Expr} (he : EE X e f) : EI X tg e (iSeq f) := ⟨fun W tk => by
  obtain ⟨t, p, q⟩ := he.run W tk
  refine ⟨_, pi_seq p, fun ζ ι ρ hs σ H Q er s k => q ζ ι ρ hs σ H _ er s (Ki.bind k fun u h1 x H1 ι1 e1 s1 r1 k1 k2 => ?_)⟩
  cases e : seqOf u h1 with
  | none => rw [e] at k2; exact absurd rfl k2
  | some p =>
    rw [e] at k1
    obtain ⟨a, rfl, ⟨_, ⟨xs, hx, _⟩, hl⟩ | ⟨_, ⟨xs, hx, _⟩, hl⟩⟩ := seqOf_ok (its := p.1) (g := p.2) s1 r1 e
    · exact ⟨a, rfl, .inl ⟨⟨xs, hx⟩, k1 p rfl _ (iter_list hl)⟩⟩
    · exact ⟨a, rfl, .inr ⟨⟨xs, hx⟩, k1 p rfl _ (iter_tup hl)⟩⟩⟩
/-- range(n), range(a, b), range(a, b, c) -/
def rng (lo : Int) (n : Nat) : List D := (List.range n).map fun i => .int (lo + (i : Nat))
def rngC (lo c : Int) (n : Nat) : List D := (List.range n).map fun i => .int (lo + (i : Nat) * c)
def smallI (i : Int) : Bool := decide (i.natAbs.log2 < 62)
theorem log2_lt {i : Int} {n : Nat} (h : i.natAbs.log2 < n) : i.natAbs < 2 ^ n := by
  by_cases e : i.natAbs = 0
  · rw [e]; exact Nat.pow_pos (by omega)
  · exact (Nat.log2_lt e).mp h
theorem smallI_ok {i : Int} (h : smallI i = true) : -(2 ^ 62) ≤ i ∧ i < 2 ^ 62 := by
  have z := log2_lt (of_decide_eq_true h)
  omega
theorem smallI_of {i : Int} (h : i.natAbs < 2 ^ 61) : smallI i = true := by
  refine decide_eq_true ?_
  by_cases e : i.natAbs = 0
  · rw [e]; decide
  · exact Nat.lt_trans ((Nat.log2_lt e).mpr h) (by omega)
def rangeOf1 : List Val → Option (List D)
  | [.d (.int j)] => if smallI j = true then some (rng 0 j.toNat) else none
  | _ => none
def rangeOf2 : List Val → Option (List D)
  | [.d (.int i), .d (.int j)] => if smallI i = true ∧ smallI j = true then some (rng i (j - i).toNat) else none
  | _ => none
/-- a step of -1 -/
def rangeOfD : List Val → Option (List D)
  | [.d (.int i), .d (.int j), .d (.int k)] => if smallI i = true ∧ smallI j = true ∧ k = -1 then some (rngC i (-1) (i - j).toNat) else none
  | _ => none
def iRng (o : List Val → Option (List D)) (fas : Env → Hs → R (List Val)) : MI := fun ρ h => (fas ρ h).bind fun us h1 => R.opt ((o us).map fun l => (l, [])) h1
theorem rangeOf1_ok {us : List Val} {l : List D} (h : rangeOf1 us = some l) : ∃ j, us = [.d (.int j)] ∧ smallI j = true ∧ l = rng 0 j.toNat := by
  unfold rangeOf1 at h
  split at h
  · split at h
    · cases h; exact ⟨_, rfl, by assumption, rfl⟩
    · cases h
  · cases h
theorem rangeOf2_ok {us : List Val} {l : List D} (h : rangeOf2 us = some l) : ∃ i j, us = [.d (.int i), .d (.int j)] ∧ smallI i = true ∧ smallI j = true ∧ l = rng i (j - i).toNat := by
  unfold rangeOf2 at h
  split at h
  · split at h
    · rename_i q
      cases h; exact ⟨_, _, rfl, q.1, q.2, rfl⟩
    · cases h
  · cases h
theorem rangeOfD_ok {us : List Val} {l : List D} (h : rangeOfD us = some l) : ∃ i j, us = [.d (.int i), .d (.int j), .d (.int (-1))] ∧ smallI i = true ∧ smallI j = true ∧ l = rngC i (-1) (i - j).toNat := by
  unfold rangeOfD at h
  split at h
  · split at h
    · rename_i q
      obtain ⟨q1, q2, rfl⟩ := q
      cases h; exact ⟨_, _, rfl, q1, q2, rfl⟩
    · cases h
  · cases h
theorem iter_rng {K : PySem.W.Frag} {ζ ι : List Addr} {H : Hp} (lo : Int) (n : Nat) : IterOk K ζ ι H (Itr lo n) (rng lo n) [] := ⟨fun i ζ' ι2 H2 h2 e2 s2 hz hc => by
  have hl : (rng lo n).length = n := by simp [rng]
  rw [hl]
  refine ⟨fun hi => ⟨hi, fun x H' ⟨eh, ex⟩ => ?_⟩, fun hi => hi⟩
  subst eh
  refine ⟨fun _ _ z => z, fun d hd => ?_⟩
  have : (rng lo n)[i]? = some (.int (lo + (i : Nat))) := by simp [rng, hi]
  rw [this] at hd
  cases hd
  subst ex
  exact .int _⟩
theorem iter_rngC {K : PySem.W.Frag} {ζ ι : List Addr} {H : Hp} (lo c : Int) (n : Nat) : IterOk K ζ ι H (Itc lo c n) (rngC lo c n) [] := ⟨fun i ζ' ι2 H2 h2 e2 s2 hz hc => by
  have hl : (rngC lo c n).length = n := by simp [rngC]
  rw [hl]
  refine ⟨fun hi => ⟨hi, fun x H' ⟨eh, ex⟩ => ?_⟩, fun hi => hi⟩
  subst eh
  refine ⟨fun _ _ z => z, fun d hd => ?_⟩
  have : (rngC lo c n)[i]? = some (.int (lo + (i : Nat) * c)) := by simp [rngC, hi]
  rw [this] at hd
  cases hd
  subst ex
  exact .int _⟩
theorem VRep.int {K : PySem.W.Frag} {ζ ι : List Addr} {H : Hp} {v : V} {i : Int} (r : VRep K ζ ι H v (.d (.int i))) : v = .int i := by
  cases r with
  | d r => cases r; rfl
theorem iRng_out {o : List Val → Option (List D)} {us : List Val} {h1 : Hs} (k : R.opt ((o us).map fun l => ((l, []) : List D × List (Nat × List D))) h1 ≠ .no) : ∃ l, o us = some l ∧ R.opt ((o us).map fun l => ((l, []) : List D × List (Nat × List D))) h1 = .ok (l, []) h1 := by
  cases e : o us with
  | none => rw [e] at k; exact absurd rfl k
  | some l => exact ⟨l, rfl, rfl⟩
theorem ei_range1 {tg a : Expr} {fas : Env → Hs → R (List Val)} {p pos : Pos} (hm : X.mg "range" = none) (ha : EA X [a] fas) (hg : Gl X "range" := by rfl) (hs : starEach [a] X.env = [(false, eval a X.env)] := by rfl) : EI X tg (.Call (.Name "range" p) [a] [] pos) (iRng rangeOf1 fas) := ⟨fun W tk => by
  obtain ⟨t, p, q⟩ := ha.run W tk
  refine ⟨_, pi_range1 hg hm p hs, fun ζ ι ρ hs σ H Q er s k => q ζ ι ρ hs σ H _ er s (Ki.bind k fun us h1 xs H1 ι1 e1 s1 r1 k1 k2 => ?_)⟩
  obtain ⟨l, e, e2⟩ := iRng_out k2
  obtain ⟨j, rfl, hj, rfl⟩ := rangeOf1_ok e
  obtain ⟨j1, j2⟩ := smallI_ok hj
  cases r1 with
  | cons r1 rr =>
    cases rr
    cases r1.int
    exact ⟨j, rfl, j1, j2, k1 _ e2 _ (iter_rng 0 _)⟩⟩
theorem ei_range2 {tg a b : Expr} {fas : Env → Hs → R (List Val)} {p pos : Pos} (hm : X.mg "range" = none) (ha : EA X [a, b] fas) (hg : Gl X "range" := by rfl) (hs : starEach [a, b] X.env = [(false, eval a X.env), (false, eval b X.env)] := by rfl) (hs2 : starEach [b] X.env = [(false, eval b X.env)] := by rfl) :
    EI X tg (.Call (.Name "range" p) [a, b] [] pos) (iRng rangeOf2 fas) := ⟨fun W tk => by
  obtain ⟨t, p, q⟩ := ha.run W tk
  refine ⟨_, pi_range2 hg hm p hs hs2, fun ζ ι ρ hs σ H Q er s k => q ζ ι ρ hs σ H _ er s (Ki.bind k fun us h1 xs H1 ι1 e1 s1 r1 k1 k2 => ?_)⟩
  obtain ⟨l, e, e2⟩ := iRng_out k2
  obtain ⟨i, j, rfl, hi, hj, rfl⟩ := rangeOf2_ok e
  obtain ⟨j1, j2⟩ := smallI_ok hj
  obtain ⟨i1, i2⟩ := smallI_ok hi
  cases r1 with
  | cons r1 rr =>
    cases rr with
    | cons r2 rr =>
      cases rr
      cases r1.int
      cases r2.int
      exact ⟨i, j, rfl, ⟨i1, i2, j1, j2⟩, k1 _ e2 _ (iter_rng _ _)⟩⟩
theorem ei_rangeD {tg a b c : Expr} {fas : Env → Hs → R (List Val)} {p pos : Pos} (hm : X.mg "range" = none) (ha : EA X [a, b, c] fas) (hg : Gl X "range" := by rfl) (hs : starEach [a, b, c] X.env = (false, eval a X.env) :: starEach [b, c] X.env := by rfl)
    (hpl : (backTo pos (starEach [b, c] X.env)).any (·.1) = false := by rfl) : EI X tg (.Call (.Name "range" p) [a, b, c] [] pos) (iRng rangeOfD fas) := ⟨fun W tk => by
  obtain ⟨t, p, q⟩ := ha.run W tk
  refine ⟨_, pi_range3 hg hm p hs hpl, fun ζ ι ρ hs σ H Q er s k => q ζ ι ρ hs σ H _ er s (Ki.bind k fun us h1 xs H1 ι1 e1 s1 r1 k1 k2 => ?_)⟩
  obtain ⟨l, e, e2⟩ := iRng_out k2
  obtain ⟨i, j, rfl, hi, hj, rfl⟩ := rangeOfD_ok e
  obtain ⟨j1, j2⟩ := smallI_ok hj
  obtain ⟨i1, i2⟩ := smallI_ok hi
  cases r1 with
  | cons r1 rr =>
    cases rr with
    | cons r2 rr =>
      cases rr with
      | cons r3 rr =>
        cases rr
        cases r1.int
        cases r2.int
        cases r3.int
        exact ⟨i, j, -1, _, rfl, RgC.neg i1 i2 j1 j2, k1 _ e2 _ (iter_rngC _ _ _)⟩⟩
/-- zip of two, each a list or a tuple -/
def zipOf (u v : Val) (h : Hs) : Option (List D × List (Nat × List D)) := match seqOf u h, seqOf v h with
  | some (xs, g1), some (ys, g2) => some (List.zipWith (fun a b => .tuple [a, b]) xs ys, g1 ++ g2)
  | _, _ => none
def iZip2 (fas : Env → Hs → R (List Val)) : MI := fun ρ h => (fas ρ h).bind fun us h1 => match us with
  | [u, v] => R.opt (zipOf u v h1) h1
  | _ => .no
theorem Chk.left {g1 g2 : List (Nat × List D)} {h : Hs} (c : Chk (g1 ++ g2) h) : Chk g1 h := fun p m => c p (List.mem_append_left _ m)
theorem Chk.right {g1 g2 : List (Nat × List D)} {h : Hs} (c : Chk (g1 ++ g2) h) : Chk g2 h := fun p m => c p (List.mem_append_right _ m)
theorem pair_rep {K : PySem.W.Frag} {α : List Addr} {H : Hp} {T : Addr} {x y : V} {a b : D} (ap : Ap α H) (hT : H T = none) (r1 : Rep K α H x a) (r2 : Rep K α H y b) : Rep K α (upd H T (.tup [x, y])) (.ref T) (.tuple [a, b]) :=
  .tup upd_same (.cons (r1.same ap (same_new hT)) (.cons (r2.same ap (same_new hT)) .nil))
/-- a list or a tuple that is walked -/
def SeqW (K : PySem.W.Frag) (p : Bool) (ζ ι : List Addr) (H : Hp) (a : Addr) (its : List D) (g : List (Nat × List D)) : Prop := if p = true then TupAt K ζ ι H a its g else LstAt K ζ ι H a its g
theorem SeqW.at_ {K : PySem.W.Frag} {p : Bool} {ζ ι ζ' ι2 : List Addr} {H H2 : Hp} {a : Addr} {its : List D} {g : List (Nat × List D)} {hh : Hs} (w : SeqW K p ζ ι H a its g) (e : Ext ι H ι2 H2) (s : Sim K ζ' ι2 H2 hh) (hz : ∀ a ∈ ζ', a ∈ ζ ∨ H a = none) (c : Chk g hh) :
    ∃ vs, SqB K p H2 a vs ∧ RepAll K (ζ' ++ ι2) H2 vs its := by
  cases p
  · exact (show LstAt K ζ ι H a its g from w) ζ' ι2 H2 hh e s hz c
  · exact (show TupAt K ζ ι H a its g from w) ζ' ι2 H2 hh e s hz c
theorem iter_zipG {K : PySem.W.Frag} {p q : Bool} {ζ ι : List Addr} {H : Hp} {a b : Addr} {xs ys : List D} {g1 g2 : List (Nat × List D)} (h1 : SeqW K p ζ ι H a xs g1) (h2 : SeqW K q ζ ι H b ys g2) : IterOk K ζ ι H (ItzG K p q a b) (List.zipWith (fun a b => .tuple [a, b]) xs ys) (g1 ++ g2) := ⟨fun i ζ' ι2 H2 hh e2 s2 hz hc => by
  obtain ⟨vs, q1, ra⟩ := h1.at_ e2 s2 hz hc.left
  obtain ⟨ws, q2, rb⟩ := h2.at_ e2 s2 hz hc.right
  rw [List.length_zipWith]
  refine ⟨fun hi => ?_, fun hi => ⟨vs, ws, q1, q2, by rw [ra.length, rb.length]; omega⟩⟩
  have ha : i < xs.length := by omega
  have hb : i < ys.length := by omega
  obtain ⟨x, hx, rx⟩ := ra.get (List.getElem?_eq_getElem ha)
  obtain ⟨y, hy, ry⟩ := rb.get (List.getElem?_eq_getElem hb)
  refine ⟨⟨vs, ws, x, y, q1, q2, hx, hy⟩, fun v H' ⟨T, x', y', ev, hT, eH, f1, f2⟩ => ?_⟩
  subst ev eH
  refine ⟨same_new hT, fun d hd => ?_⟩
  have e1 := f1 vs q1
  have e3 := f2 ws q2
  rw [hx] at e1
  rw [hy] at e3
  cases e1
  cases e3
  rw [List.getElem?_zipWith, List.getElem?_eq_getElem ha, List.getElem?_eq_getElem hb] at hd
  cases hd
  exact pair_rep s2.apA hT rx ry⟩
theorem seqOf_w {K : PySem.W.Frag} {ζ ι : List Addr} {H : Hp} {hs : Hs} {v : V} {u : Val} {its : List D} {g : List (Nat × List D)} (s : Sim K ζ ι H hs) (r : VRep K ζ ι H v u) (e : seqOf u hs = some (its, g)) : ∃ a p vs, v = .ref a ∧ SqB K p H a vs ∧ SeqW K p ζ ι H a its g := by
  obtain ⟨a, rfl, ⟨_, ⟨vs, hv, _⟩, l1⟩ | ⟨_, ⟨vs, hv, _⟩, l1⟩⟩ := seqOf_ok s r e
  · exact ⟨a, false, vs, rfl, hv, l1⟩
  · exact ⟨a, true, vs, rfl, hv, l1⟩
theorem ei_zip {elts : List Expr} {kk : Nat} {tpos : Pos} {a b : Expr} {fas : Env → Hs → R (List Val)} {p pos : Pos} (hm : X.mg "zip" = none) (ha : EA X [a, b] fas) (hg : Gl X "zip" := by rfl) (hs : starEach [a, b] X.env = (false, eval a X.env) :: starEach [b] X.env := by rfl)
    (hpl : (backTo pos (starEach [b] X.env)).any (·.1) = false := by rfl) : EI X (.Tuple elts kk tpos) (.Call (.Name "zip" p) [a, b] [] pos) (iZip2 fas) := ⟨fun W tk => by
  obtain ⟨t, p, q⟩ := ha.run W tk
  refine ⟨_, pi_zipG hg hm p hs hpl, fun ζ ι ρ hs σ H Q er s k => q ζ ι ρ hs σ H _ er s (Ki.bind k fun us h1 xs H1 ι1 e1 s1 r1 k1 k2 => ?_)⟩
  cases r1 with
  | nil => exact absurd rfl k2
  | cons r1 rr => cases rr with
    | nil => exact absurd rfl k2
    | cons r2 rr => cases rr with
      | cons _ _ => exact absurd rfl k2
      | nil =>
        rename_i u _ v
        cases e : zipOf u v h1 with
        | none => simp only [e] at k2; exact absurd rfl k2
        | some p =>
          simp only [e] at k1
          unfold zipOf at e
          split at e
          · rename_i xs g1 ys g2 eu ev
            cases e
            have kk := k1 _ rfl
            obtain ⟨a, p, vs, rfl, hv, l1⟩ := seqOf_w s1 r1 eu
            obtain ⟨b, q, ws, rfl, hw, l2⟩ := seqOf_w s1 r2 ev
            exact ⟨a, b, vs, ws, p, q, rfl, hv, hw, kk _ (iter_zipG l1 l2)⟩
          · cases e⟩
/-- enumerate of a list -/
def enumOf (u : Val) (h : Hs) : Option (List D × List (Nat × List D)) := match seqOf u h with
  | some (xs, g) => if isTup u = false then some ((List.range xs.length).zipWith (fun i a => .tuple [.int (i : Nat), a]) xs, g) else none
  | none => none
def iEnumD (fas : Env → Hs → R (List Val)) : MI := fun ρ h => (fas ρ h).bind fun us h1 => match us with
  | [u] => R.opt (enumOf u h1) h1
  | _ => .no
theorem iter_enum {K : PySem.W.Frag} {ζ ι : List Addr} {H : Hp} {a : Addr} {xs : List D} {g : List (Nat × List D)} (h1 : LstAt K ζ ι H a xs g) : IterOk K ζ ι H (Ite K a) ((List.range xs.length).zipWith (fun i a => .tuple [.int (i : Nat), a]) xs) g := ⟨fun i ζ' ι2 H2 hh e2 s2 hz hc => by
  obtain ⟨vs, q1, ra⟩ := h1 ζ' ι2 H2 hh e2 s2 hz hc
  rw [List.length_zipWith, List.length_range, Nat.min_self]
  refine ⟨fun hi => ?_, fun hi => ⟨vs, q1, by rw [ra.length]; omega⟩⟩
  obtain ⟨x, hx, rx⟩ := ra.get (List.getElem?_eq_getElem hi)
  refine ⟨⟨vs, x, q1, hx⟩, fun v H' ⟨T, x', ev, hT, eH, f1⟩ => ?_⟩
  subst ev eH
  refine ⟨same_new hT, fun d hd => ?_⟩
  have e1 := f1 vs q1
  rw [hx] at e1
  cases e1
  rw [List.getElem?_zipWith, List.getElem?_range hi, List.getElem?_eq_getElem hi] at hd
  cases hd
  exact pair_rep s2.apA hT (.int _) rx⟩
theorem ei_enum {elts : List Expr} {kk : Nat} {tpos : Pos} {a : Expr} {fas : Env → Hs → R (List Val)} {p pos : Pos} (hm : X.mg "enumerate" = none) (ha : EA X [a] fas) (hg : Gl X "enumerate" := by rfl) (hs : starEach [a] X.env = [(false, eval a X.env)] := by rfl) :
    EI X (.Tuple elts kk tpos) (.Call (.Name "enumerate" p) [a] [] pos) (iEnumD fas) := ⟨fun W tk => by
  obtain ⟨t, p, q⟩ := ha.run W tk
  refine ⟨_, pi_enum hg hm p hs, fun ζ ι ρ hs σ H Q er s k => q ζ ι ρ hs σ H _ er s (Ki.bind k fun us h1 xs H1 ι1 e1 s1 r1 k1 k2 => ?_)⟩
  cases r1 with
  | nil => exact absurd rfl k2
  | cons r1 rr => cases rr with
    | cons _ _ => exact absurd rfl k2
    | nil =>
      rename_i u
      cases e : enumOf u h1 with
      | none => simp only [e] at k2; exact absurd rfl k2
      | some p =>
        simp only [e] at k1
        unfold enumOf at e
        split at e
        · rename_i xs g eu
          split at e
          · rename_i et
            cases e
            obtain ⟨a, rfl, ⟨t1, ⟨vs, hv, _⟩, l1⟩ | ⟨t1, ⟨vs, hv, _⟩, l1⟩⟩ := seqOf_ok s1 r1 eu
            · exact ⟨a, vs, rfl, hv, k1 _ rfl _ (iter_enum l1)⟩
            · rw [t1] at et; cases et
          · cases e
        · cases e⟩

/-! ### for -/
open Classical in
noncomputable def forR (g : List (Nat × List D)) (gt : MG) (body : MS) : List D → Env → Hs → S
  | [], ρ, h => if Chk g h then .nx ρ h else .no
  | d :: ds, ρ, h => if Chk g h then (match gt (.d d) ρ h with
    | .ok ρ' h' => (match body ρ' h' with
      | .nx ρ2 h2 => forR g gt body ds ρ2 h2
      | .ct ρ2 h2 => forR g gt body ds ρ2 h2
      | .bk ρ2 h2 => .nx ρ2 h2
      | r => r)
    | _ => .no) else .no
noncomputable def sFor (fi : MI) (gt : MG) (body : MS) : MS := fun ρ h => (fi ρ h).bindS ρ fun p h1 => forR p.2 gt body p.1 ρ h1
theorem Ks.bindI {K : PySem.W.Frag} {ζ ι : List Addr} {H : Hp} {r : R (List D × List (Nat × List D))} {ρ : Env} {k : List D × List (Nat × List D) → Hs → S} {D : Ends} {W : WX} {Q1 : It → Hp → Prop} {σ : L2.St} {hs : Hs} (w : Ks K ζ ι H (r.bindS ρ k) D W) (er : ERep K ζ ι H σ ρ) (s : Sim K ζ ι H hs)
    (h : ∀ p hs J H' ι', Ext ι H ι' H' → Sim K ζ ι' H' hs → IterOk K ζ ι' H' J p.1 p.2 → Ks K ζ ι' H' (k p hs) D W → Q1 J H') : Ki K ζ ι H σ r Q1 W := by
  cases r with
  | ok a hs => exact fun b H' ι' e s r => h a hs b H' ι' e s r (w.mv e)
  | ex c v hs => exact fun cls dd H' ι' e s2 x => w cls dd σ H' ι' e s2 (er.mv s e) x
  | no => exact w
theorem ss_for {tg iter : Expr} {body : List Stmt} {vs : List Nat} {fi : MI} {gt : MG} {gb : MS} {k : Nat} (C : Cn X k) (hi : EI X tg iter fi) (hg : EG X tg vs gt) (hb : SSs X body gb) (hs : ∀ x, foldedSetIterable iter X.env x = pure x := by intro _; rfl) :
    SS X (.For tg iter body [] pos) (sFor fi gt gb) := ⟨fun W tk => by
  obtain ⟨wi, pi, qi⟩ := hi.run W tk
  obtain ⟨tg, pg, qg⟩ := hg.run
  obtain ⟨tb, pb, qb⟩ := hb.run W tk
  refine ⟨_, ps_for C.po C.calm pi pg pb hs, fun ζ ι0 ρ hs σ H0 D er s k => qi ζ ι0 ρ hs σ H0 _ er s (Ks.bindI k er s fun p h1 J H1 ι1 e1 s1 io k1 => ?_)⟩
  obtain ⟨its, g⟩ := p
  refine ⟨fun i m σ H => m = its.length - i ∧ i ≤ its.length ∧ ∃ ι h ρ, Ext ι1 H1 ι H ∧ Sim X.K ζ ι H h ∧ ERep X.K ζ ι H σ ρ ∧ Ks X.K ζ ι H (forR g gt gb (its.drop i) ρ h) D W,
    ⟨its.length, by simp, Nat.zero_le _, ι1, h1, ρ, Ext.refl, s1, er.mv s e1, k1⟩, ?_⟩
  rintro i m σ2 H2 ⟨rfl, hi, ι2, h2, ρ2, e2, s2, er2, k2⟩
  by_cases hlt : i < its.length
  · rw [List.drop_eq_getElem_cons hlt] at k2
    unfold forR at k2
    split at k2
    · rename_i hc
      have st := io.step i ζ ι2 H2 h2 e2 s2 (fun a m => .inl m) hc
      obtain ⟨go, yl⟩ := st.1 hlt
      refine .inr ⟨go, fun σ' H' => its.length - (i + 1) < its.length - i ∧ i + 1 ≤ its.length ∧ ∃ ι h ρ, Ext ι1 H1 ι H' ∧ Sim X.K ζ ι H' h ∧ ERep X.K ζ ι H' σ' ρ ∧ Ks X.K ζ ι H' (forR g gt gb (its.drop (i + 1)) ρ h) D W,
        fun σ' H' ⟨q1, q2, q3⟩ => ⟨_, q1, rfl, q2, q3⟩, fun x H' y => ?_⟩
      obtain ⟨sm, rp⟩ := yl x H' y
      have rx := rp _ (List.getElem?_eq_getElem hlt)
      have ex := Ext.of_same (ι := ι2) sm
      refine qg ζ ι2 ρ2 h2 σ2 H' x (.d its[i]) _ (er2.mv s2 ex) (s2.same sm) (.d rx) ?_
      cases eg : gt (.d its[i]) ρ2 h2 with
      | no => rw [eg] at k2; exact k2.elim
      | ex c v h => rw [eg] at k2; exact k2.elim
      | ok ρ3 h3 =>
        rw [eg] at k2
        intro σ3 H3 ι3 e3 s3 er3 _
        have eA : Ext ι2 H2 ι3 H3 := ex.trans e3
        refine qb ζ ι3 ρ3 h3 σ3 H3 _ er3 s3 ?_
        simp only at k2
        have again : ∀ {ρ4 : Env} {h4 : Hs}, Ks X.K ζ ι2 H2 (forR g gt gb (its.drop (i + 1)) ρ4 h4) D W → ∀ σ' H' ι', Ext ι3 H3 ι' H' → Sim X.K ζ ι' H' h4 → ERep X.K ζ ι' H' σ' ρ4 →
            its.length - (i + 1) < its.length - i ∧ i + 1 ≤ its.length ∧ ∃ ι h ρ, Ext ι1 H1 ι H' ∧ Sim X.K ζ ι H' h ∧ ERep X.K ζ ι H' σ' ρ ∧ Ks X.K ζ ι H' (forR g gt gb (its.drop (i + 1)) ρ h) D W := fun {ρ4 h4} kk σ' H' ι' e4 s4 er4 =>
          ⟨by omega, hlt, ι', h4, ρ4, e2.trans (eA.trans e4), s4, er4, kk.mv (eA.trans e4)⟩
        cases eb : gb ρ3 h3 with
        | nx ρ4 h4 => rw [eb] at k2; exact again k2
        | ct ρ4 h4 => rw [eb] at k2; exact again k2
        | bk ρ4 h4 => rw [eb] at k2; exact fun σ' H' ι' e4 s4 er4 => k2 σ' H' ι' (eA.trans e4) s4 er4
        | rt v h4 => rw [eb] at k2; exact k2.mv eA
        | ex c v ρ4 h4 => rw [eb] at k2; exact k2.mv eA
        | no => rw [eb] at k2; exact k2
    · exact k2.elim
  · have e : i = its.length := by omega
    subst e
    rw [List.drop_length] at k2
    unfold forR at k2
    split at k2
    · rename_i hc
      exact .inl ⟨(io.step _ ζ ι2 H2 h2 e2 s2 (fun a m => .inl m) hc).2 (Nat.le_refl _), k2.nx s2 er2⟩
    · exact k2.elim⟩

/-! ### while -/
def whileN (c : Env → Hs → R Bool) (body : MS) : Nat → Env → Hs → S
  | 0, _, _ => .no
  | n + 1, ρ, h => (c ρ h).bindS ρ fun b h1 => if b = true then (match body ρ h1 with
    | .nx ρ2 h2 => whileN c body n ρ2 h2
    | .ct ρ2 h2 => whileN c body n ρ2 h2
    | .bk ρ2 h2 => .nx ρ2 h2
    | r => r) else .nx ρ h1
open Classical in
/-- as many turns as it takes, if some number of them is enough -/
noncomputable def sWhile (c : Env → Hs → R Bool) (body : MS) : MS := fun ρ h => if q : ∃ n, whileN c body n ρ h ≠ .no then whileN c body q.choose ρ h else .no
theorem whileN_up (c : Env → Hs → R Bool) (body : MS) : ∀ (n m : Nat) (ρ : Env) (h : Hs), whileN c body n ρ h ≠ .no → n ≤ m → whileN c body m ρ h = whileN c body n ρ h := by
  intro n
  induction n with
  | zero => exact fun m ρ h q _ => absurd rfl q
  | succ n ih =>
    intro m ρ h q hm
    obtain ⟨m, rfl⟩ : ∃ m', m = m' + 1 := ⟨m - 1, by omega⟩
    unfold whileN at q ⊢
    cases e : c ρ h with
    | no => rfl
    | ex c v h => rfl
    | ok b h1 =>
      simp only [e, R.bindS_ok] at q ⊢
      cases b with
      | false => rfl
      | true =>
        simp only [if_true] at q ⊢
        cases eb : body ρ h1 with
        | nx ρ2 h2 => simp only [eb] at q ⊢; exact ih m ρ2 h2 q (by omega)
        | ct ρ2 h2 => simp only [eb] at q ⊢; exact ih m ρ2 h2 q (by omega)
        | bk ρ2 h2 => rfl
        | rt v h => rfl
        | ex c v ρ h => rfl
        | no => rfl
theorem sWhile_eq {c : Env → Hs → R Bool} {body : MS} {n : Nat} {ρ : Env} {h : Hs} (q : whileN c body n ρ h ≠ .no) : sWhile c body ρ h = whileN c body n ρ h := by
  have z : ∃ n, whileN c body n ρ h ≠ .no := ⟨n, q⟩
  unfold sWhile
  rw [dif_pos z]
  have y := z.choose_spec
  by_cases hl : z.choose ≤ n
  · exact (whileN_up c body _ n ρ h y hl).symm
  · exact whileN_up c body n _ ρ h q (by omega)
theorem ss_while {c : Expr} {body : List Stmt} {fc : Env → Hs → R Bool} {gb : MS} {k : Nat} (C : Cn X k) (hc : ET X c fc) (hb : SSs X body gb) : SS X (.While c body [] pos) (sWhile fc gb) := ⟨fun W tk => by
  obtain ⟨tc, pc, qc⟩ := hc.run W tk
  obtain ⟨tb, pb, qb⟩ := hb.run W tk
  refine ⟨_, ps_while C.po pc pb, fun ζ ι0 ρ hs σ H0 D er s k => ?_⟩
  unfold sWhile at k
  split at k
  · rename_i q
    generalize q.choose = n at k
    refine ⟨fun m σ H => ∃ ι h ρ, Ext ι0 H0 ι H ∧ Sim X.K ζ ι H h ∧ ERep X.K ζ ι H σ ρ ∧ Ks X.K ζ ι H (whileN fc gb m ρ h) D W, ⟨n, ι0, hs, ρ, Ext.refl, s, er, k⟩, ?_⟩
    rintro m σ2 H2 ⟨ι2, h2, ρ2, e2, s2, er2, k2⟩
    cases m with
    | zero => exact k2.elim
    | succ m =>
      unfold whileN at k2
      refine qc ζ ι2 ρ2 h2 σ2 H2 _ er2 s2 (Ks.bind k2 er2 s2 fun b h3 b' H3 ι3 e3 s3 r3 k3 => ?_)
      subst r3
      cases b' with
      | false => exact k3.nx s3 (er2.mv s2 e3)
      | true =>
        simp only [if_true] at k3 ⊢
        refine ⟨fun σ' H' => ∃ ι h ρ, Ext ι0 H0 ι H' ∧ Sim X.K ζ ι H' h ∧ ERep X.K ζ ι H' σ' ρ ∧ Ks X.K ζ ι H' (whileN fc gb m ρ h) D W, fun σ' H' q => ⟨m, by omega, q⟩, ?_⟩
        refine qb ζ ι3 ρ2 h3 σ2 H3 _ (er2.mv s2 e3) s3 ?_
        have again : ∀ {ρ4 : Env} {h4 : Hs}, Ks X.K ζ ι3 H3 (whileN fc gb m ρ4 h4) D W → ∀ σ' H' ι', Ext ι3 H3 ι' H' → Sim X.K ζ ι' H' h4 → ERep X.K ζ ι' H' σ' ρ4 →
            ∃ ι h ρ, Ext ι0 H0 ι H' ∧ Sim X.K ζ ι H' h ∧ ERep X.K ζ ι H' σ' ρ ∧ Ks X.K ζ ι H' (whileN fc gb m ρ h) D W := fun {ρ4 h4} kk σ' H' ι' e4 s4 er4 =>
          ⟨ι', h4, ρ4, e2.trans (e3.trans e4), s4, er4, kk.mv e4⟩
        cases eb : gb ρ2 h3 with
        | nx ρ4 h4 => simp only [eb] at k3; exact again k3
        | ct ρ4 h4 => simp only [eb] at k3; exact again k3
        | bk ρ4 h4 => simp only [eb] at k3; exact k3
        | rt v h4 => simp only [eb] at k3; exact k3
        | ex c v ρ4 h4 => simp only [eb] at k3; exact k3
        | no => simp only [eb] at k3; exact k3
  · exact k.elim⟩
end
end DL

set_option Elab.async false
set_option linter.all false
set_option maxRecDepth 100000
set_option maxHeartbeats 1000000
namespace DL
open PySem PySem.Spec PyProof.Rows L2

/-! ### the meanings' own readings: the same in every context over K -/
def tE (K : PySem.W.Frag) (f : MV) (W : WX) : TE := fun σ H Q => ∃ ζ ι ρ hs, ERep K ζ ι H σ ρ ∧ Sim K ζ ι H hs ∧ Kt K ζ (VRep K ζ) ι H (f ρ hs) Q (WE W σ)
theorem EE.can {X : Cx} {e : Expr} {f : MV} {W : WX} (h : EE X e f) (tk : Takes X W) : PE X e (tE X.K f W) := by
  obtain ⟨t, p, q⟩ := h.run W tk
  exact ⟨fun pins s σ H Q I ⟨ζ, ι, ρ, hs, er, sm, k⟩ => p.run pins s σ H Q I (q ζ ι ρ hs σ H Q er sm k)⟩
def tT (K : PySem.W.Frag) (f : Env → Hs → R Bool) (W : WX) : TT := fun σ H Q => ∃ ζ ι ρ hs, ERep K ζ ι H σ ρ ∧ Sim K ζ ι H hs ∧ Kt K ζ (fun _ _ b b' => b = b') ι H (f ρ hs) Q (WE W σ)
theorem ET.can {X : Cx} {e : Expr} {f : Env → Hs → R Bool} {W : WX} (h : ET X e f) (tk : Takes X W) : PT X e (tT X.K f W) := by
  obtain ⟨t, p, q⟩ := h.run W tk
  exact ⟨fun pins s σ H Q I ⟨ζ, ι, ρ, hs, er, sm, k⟩ => p.run pins s σ H Q I (q ζ ι ρ hs σ H Q er sm k)⟩
def tG (K : PySem.W.Frag) (vs : List Nat) (g : MG) : TG := fun x σ H Q => ∃ ζ ι ρ hs u, ERep K ζ ι H σ ρ ∧ Sim K ζ ι H hs ∧ VRep K ζ ι H x u ∧ Kg K ζ ι H vs σ (g u ρ hs) Q
theorem EG.can {X : Cx} {tg : Expr} {vs : List Nat} {g : MG} (h : EG X tg vs g) : PG X tg (tG X.K vs g) := by
  obtain ⟨t, p, q⟩ := h.run
  exact ⟨fun pins s σ H v u Q I r ⟨ζ, ι, ρ, hs, uu, er, sm, vr, k⟩ => p.run pins s σ H v u Q I r (q ζ ι ρ hs σ H v uu Q er sm vr k)⟩
def tI (K : PySem.W.Frag) (f : MI) (W : WX) : TI := fun σ H Q => ∃ ζ ι ρ hs, ERep K ζ ι H σ ρ ∧ Sim K ζ ι H hs ∧ Ki K ζ ι H σ (f ρ hs) Q W
theorem EI.can {X : Cx} {tg iter : Expr} {f : MI} {W : WX} (h : EI X tg iter f) (tk : Takes X W) : PI X tg iter (tI X.K f W) := by
  obtain ⟨t, p, q⟩ := h.run W tk
  exact ⟨fun pins s σ H Q I ⟨ζ, ι, ρ, hs, er, sm, k⟩ => p.run pins s σ H Q I (q ζ ι ρ hs σ H Q er sm k)⟩
abbrev W0 : WX := fun _ _ _ _ => False

/-! ### list comprehensions -/
def wipeD (ρ : Env) : List Nat → Env
  | [] => ρ
  | v :: vs => (wipeD ρ vs).set v none
theorem ERep.wipe {K : PySem.W.Frag} {ζ ι : List Addr} {H : Hp} {σ : L2.St} {ρ : Env} (er : ERep K ζ ι H σ ρ) : ∀ vs : List Nat, ERep K ζ ι H (wipe σ vs) (wipeD ρ vs)
  | [] => er
  | v :: vs => (ERep.wipe er vs).gone v none
/-- the tests of a clause: none, one -/
structure ETs (X : Cx) (ifs : List Expr) (f : Env → Hs → R Bool) : Prop where
  run : ∀ W : WX, Takes X W → PTs X ifs (tT X.K f W)
def tYesD : Env → Hs → R Bool := fun _ h => .ok true h
open Classical in
noncomputable def compR (g : List (Nat × List D)) (gt : MG) (ft : Env → Hs → R Bool) (fe : MV) (ρ : Env) : List D → Hs → List D → Option (List D × Hs)
  | [], h, acc => if Chk g h then some (acc, h) else none
  | d :: ds, h, acc => if Chk g h then (match gt (.d d) ρ h with
    | .ok ρ1 h1 => (match ft ρ1 h1 with
      | .ok true h2 => (match fe ρ1 h2 with
        | .ok (.d x) h3 => if acc.length < sizeLine then compR g gt ft fe ρ ds h3 (acc ++ [x]) else none
        | _ => none)
      | .ok false h2 => compR g gt ft fe ρ ds h2 acc
      | _ => none)
    | _ => none) else none
def mkL (o : Option (List D × Hs)) : R Val := match o with
  | some (ds, h) => .ok (.d (.list ds)) h
  | none => .no
def mkLM (o : Option (List D × Hs)) : R Val := match o with
  | some (ds, h) => .ok (.r h.length) (h ++ [.lst ds])
  | none => .no
noncomputable def eLc (vs : List Nat) (fi : MI) (gt : MG) (ft : Env → Hs → R Bool) (fe : MV) : MV := fun ρ h => (fi ρ h).bind fun p h1 => mkL (compR p.2 gt ft fe (wipeD ρ vs) p.1 h1 [])
/-- the new list will be changed: a new place of the store -/
noncomputable def eLcM (vs : List Nat) (fi : MI) (gt : MG) (ft : Env → Hs → R Bool) (fe : MV) : MV := fun ρ h => (fi ρ h).bind fun p h1 => mkLM (compR p.2 gt ft fe (wipeD ρ vs) p.1 h1 [])
theorem Sim.making {K : PySem.W.Frag} {ζ ι : List Addr} {H : Hp} {hs : Hs} (s : Sim K ζ ι H hs) {q : Addr} (hq : H q = none) (xs : List V) : Sim K (q :: ζ) ι (upd H q (.lst xs)) hs ∧ ∀ {v : V} {d : D}, Rep K (ζ ++ ι) H v d → Rep K (q :: ζ ++ ι) (upd H q (.lst xs)) v d := by
  have fr := s.fresh hq
  have mv : Mv (ζ ++ ι) H (q :: ζ ++ ι) (upd H q (.lst xs)) := ⟨fun a o h n => ⟨same_new hq a o h, fun m => by
    rcases List.mem_cons.mp m with e | m
    · rw [e, hq] at h; cases h
    · exact n m⟩, s.mvA⟩
  refine ⟨⟨?_, s.len, fun i a m h1 h2 => ?_, fun a m => ?_⟩, fun r => r.mv mv⟩
  · exact List.nodup_cons.mpr ⟨fr, s.nd⟩
  · have z := s.at_ i a m h1 h2
    cases z with
    | lst z r => exact .lst (same_new hq _ _ z) (r.mv mv)
    | dK z r => exact .dK (same_new hq _ _ z) (r.mv mv)
    | dT z r => exact .dT (same_new hq _ _ z) (r.mv mv)
    | dN z ok k r => exact .dN (same_new hq _ _ z) ok (k.mv mv) (r.mv mv)
  · rcases List.mem_cons.mp m with e | m
    · rw [e]; exact ⟨_, upd_same, .inl ⟨xs, rfl⟩⟩
    · obtain ⟨x, z, im⟩ := s.ap a m
      exact ⟨x, same_new hq _ _ z, im⟩
/-- the list in the making grows -/
theorem Sim.grow {K : PySem.W.Frag} {ζ ι : List Addr} {H : Hp} {hs : Hs} {q : Addr} (s : Sim K (q :: ζ) ι H hs) (xs : List V) : Sim K (q :: ζ) ι (upd H q (.lst xs)) hs ∧ Mv (q :: ζ ++ ι) H (q :: ζ ++ ι) (upd H q (.lst xs)) := by
  have mv : Mv (q :: ζ ++ ι) H (q :: ζ ++ ι) (upd H q (.lst xs)) := ⟨fun a o h n => ⟨by
    rw [upd_ne (fun e => n (by rw [e]; exact List.mem_cons_self))]; exact h, n⟩, s.mvA⟩
  have nq : ∀ {a : Addr}, a ∈ ζ ++ ι → a ≠ q := fun {a} m e => (List.nodup_cons.mp s.nd).1 (e ▸ m)
  refine ⟨⟨s.nd, s.len, fun i a m h1 h2 => ?_, fun a m => ?_⟩, mv⟩
  · have z := s.at_ i a m h1 h2
    have ne : a ≠ q := nq (List.mem_append_right _ (List.mem_of_getElem? h1))
    cases z with
    | lst z r => exact .lst (by rw [upd_ne ne]; exact z) (r.mv mv)
    | dK z r => exact .dK (by rw [upd_ne ne]; exact z) (r.mv mv)
    | dT z r => exact .dT (by rw [upd_ne ne]; exact z) (r.mv mv)
    | dN z ok k r => exact .dN (by rw [upd_ne ne]; exact z) ok (k.mv mv) (r.mv mv)
  · by_cases e : a = q
    · rw [e]; exact ⟨_, upd_same, .inl ⟨xs, rfl⟩⟩
    · obtain ⟨x, z, im⟩ := s.ap a m
      exact ⟨x, by rw [upd_ne e]; exact z, im⟩
/-- it is made: no longer one in the making -/
theorem Sim.made {K : PySem.W.Frag} {ζ ι : List Addr} {H : Hp} {hs : Hs} {q : Addr} (s : Sim K (q :: ζ) ι H hs) : Sim K ζ ι H hs := by
  have sub : ∀ a ∈ ζ ++ ι, a ∈ q :: ζ ++ ι := fun a m => List.mem_cons_of_mem _ m
  refine ⟨(List.nodup_cons.mp s.nd).2, s.len, fun i a m h1 h2 => ?_, fun a m => s.ap a (List.mem_cons_of_mem _ m)⟩
  have z := s.at_ i a m h1 h2
  cases z with
  | lst z r => exact .lst z (r.sub sub)
  | dK z r => exact .dK z (r.sub sub)
  | dT z r => exact .dT z (r.sub sub)
  | dN z ok k r => exact .dN z ok (k.sub sub) (r.sub sub)
/-- it is made, and is a place of the store -/
theorem Sim.madeM {K : PySem.W.Frag} {ζ ι : List Addr} {H : Hp} {hs : Hs} {q : Addr} {xs : List V} {ds : List D} (s : Sim K (q :: ζ) ι H hs) (hq : H q = some (.lst xs)) (r : RepAll K (q :: ζ ++ ι) H xs ds) : Sim K ζ (ι ++ [q]) H (hs ++ [.lst ds]) := by
  have sub : ∀ a ∈ ζ ++ (ι ++ [q]), a ∈ q :: ζ ++ ι := fun a m => by
    simp only [List.mem_append, List.mem_cons, List.mem_nil_iff, or_false, List.cons_append] at m ⊢
    rcases m with m | m | m
    · exact .inr (.inl m)
    · exact .inr (.inr m)
    · exact .inl m
  have nd := List.nodup_cons.mp s.nd
  refine ⟨?_, by simp [s.len], fun i a m h1 h2 => ?_, fun a m => s.ap a (List.mem_cons_of_mem _ m)⟩
  · rw [← List.append_assoc]
    refine List.nodup_append.mpr ⟨nd.2, by simp, fun a ha b hb => ?_⟩
    have e : b = q := by simpa using hb
    rw [e]
    rintro rfl
    exact nd.1 ha
  · by_cases hi : i < ι.length
    · rw [List.getElem?_append_left hi] at h1
      rw [List.getElem?_append_left (by rw [← s.len]; exact hi)] at h2
      have z := s.at_ i a m h1 h2
      cases z with
      | lst z r => exact .lst z (r.sub sub)
      | dK z r => exact .dK z (r.sub sub)
      | dT z r => exact .dT z (r.sub sub)
      | dN z ok k r => exact .dN z ok (k.sub sub) (r.sub sub)
    · have e : i = ι.length := by
        have := (List.getElem?_eq_some_iff.mp h1).1
        rw [List.length_append, List.length_singleton] at this
        omega
      rw [e, List.getElem?_append_right (Nat.le_refl _), Nat.sub_self] at h1
      rw [e, s.len, List.getElem?_append_right (Nat.le_refl _), Nat.sub_self] at h2
      cases h1
      cases h2
      exact .lst hq (r.sub sub)
theorem TRepAll.mvW {K : PySem.W.Frag} {ζ ζ' ι0 ι : List Addr} {H0 H : Hp} (m : Mv (ζ ++ ι0) H0 (ζ' ++ ι) H) (p : ι0 <+: ι) : ∀ {vs : List V} {ms : List (Sum D Nat)}, TRepAll K ζ ι0 H0 vs ms → TRepAll K ζ' ι H vs ms
  | _, _, .nil => .nil
  | _, _, .d q t => .d (q.mv m) (TRepAll.mvW m p t)
  | _, _, .r h t => .r (by
    obtain ⟨u, rfl⟩ := p
    obtain ⟨hi, _⟩ := List.getElem?_eq_some_iff.mp h
    rw [List.getElem?_append_left hi]; exact h) (TRepAll.mvW m p t)
theorem VRep.mvW {K : PySem.W.Frag} {ζ ζ' ι0 ι : List Addr} {H0 H : Hp} {x : V} {u : Val} (m : Mv (ζ ++ ι0) H0 (ζ' ++ ι) H) (p : ι0 <+: ι) (r : VRep K ζ ι0 H0 x u) : VRep K ζ' ι H x u := by
  cases r with
  | d r => exact .d (r.mv m)
  | @r a i h =>
    obtain ⟨t, rfl⟩ := p
    obtain ⟨hi, _⟩ := List.getElem?_eq_some_iff.mp h
    exact .r (by rw [List.getElem?_append_left hi]; exact h)
  | x h1 n1 h2 h3 =>
    obtain ⟨k1, k2⟩ := m.keep _ _ h1 n1
    exact .x k1 k2 (m.fz h2) (h3.mv m)
  | s h =>
    rcases h with ⟨o, h⟩ | h
    · exact .s (.inl ⟨o, m.fz h⟩)
    · exact .s (.inr h)
  | c h => exact .c h
  | t h q => exact .t (m.fz h) (q.mvW m p)
theorem ERep.mvW {K : PySem.W.Frag} {ζ ζ' ι0 ι : List Addr} {H0 H : Hp} {σ : L2.St} {ρ : Env} (m : Mv (ζ ++ ι0) H0 (ζ' ++ ι) H) (p : ι0 <+: ι) (r : ERep K ζ ι0 H0 σ ρ) : ERep K ζ' ι H σ ρ :=
  ⟨r.1, fun i v h => let ⟨x, h1, h2⟩ := r.2 i v h; ⟨x, h1, h2.mvW m p⟩⟩
section
variable {X : Cx} {pos : Pos}
theorem ets_nil : ETs X [] tYesD := ⟨fun W tk => ⟨fun pins s σ H Q I ⟨ζ, ι, ρ, hs, er, sm, k⟩ => pts_nil.run pins s σ H Q I (k.here sm (fun _ _ h => h) rfl)⟩⟩
theorem ets_one {c : Expr} {f : Env → Hs → R Bool} (h : ET X c f) : ETs X [c] f := ⟨fun W tk => pts_one (h.can tk)⟩
/-- the loop of a comprehension, from the iterator's start on -/
theorem lc_loop {K : PySem.W.Frag} {ζ ι1 : List Addr} {H1 : Hp} {h1 : Hs} {J : It} {its : List D} {g : List (Nat × List D)} {gt : MG} {ft : Env → Hs → R Bool} {fe : MV} {vs ws : List Nat} {σ : L2.St} {ρ : Env} {Q : VK} {ds : List D} {hE : Hs}
    (hv : ∀ i ∈ ws, i ∈ vs) (s1 : Sim K ζ ι1 H1 h1) (er : ERep K ζ ι1 H1 σ ρ) (io : IterOk K ζ ι1 H1 J its g) (hc : compR g gt ft fe (wipeD ρ vs) its h1 [] = some (ds, hE))
    (fin : ∀ q xs ι H, H1 q = none → Ext ι1 H1 ι H → Sim K (q :: ζ) ι H hE → H q = some (.lst xs) → RepAll K (q :: ζ ++ ι) H xs ds → Q (.ref q) H) :
    ∀ D, H1 D = none → ∃ W : Nat → Nat → Hp → Prop, (∃ m, W 0 m (upd H1 D (.lst []))) ∧ ∀ i m H, W i m H →
      (J.stop i H ∧ Q (.ref D) H) ∨ (J.go i H ∧ ∃ Nx : Hp → Prop, (∀ H', Nx H' → ∃ m', m' < m ∧ W (i + 1) m' H') ∧ ∀ x H', J.yld i H x H' → tG K ws gt x (wipe σ vs) H' fun σ2 H2 => wipe σ2 vs = wipe σ vs ∧ tT K ft W0 σ2 H2 fun b H3 =>
        if b = true then tE K fe W0 σ2 H3 fun y H4 => ∃ acc, H4 D = some (.lst acc) ∧ acc.length < sizeLine ∧ Nx (upd H4 D (.lst (acc ++ [y]))) else Nx H3) := by
  intro D hD
  have mk := s1.making hD []
  have hz : ∀ a ∈ D :: ζ, a ∈ ζ ∨ H1 a = none := fun a m => by
    rcases List.mem_cons.mp m with e | m
    · rw [e]; exact .inr hD
    · exact .inl m
  -- the invariant
  refine ⟨fun i m H => m = its.length - i ∧ i ≤ its.length ∧ ∃ ι h acc xs, Ext ι1 H1 ι H ∧ Sim K (D :: ζ) ι H h ∧ H D = some (.lst xs) ∧ RepAll K (D :: ζ ++ ι) H xs acc ∧ compR g gt ft fe (wipeD ρ vs) (its.drop i) h acc = some (ds, hE),
    ⟨its.length, by simp, Nat.zero_le _, ι1, h1, [], [], Ext.of_same (same_new hD), mk.1, upd_same, .nil, hc⟩, ?_⟩
  rintro i m H ⟨rfl, hi, ι2, h2, acc, xs, e2, s2, hx, ra, c2⟩
  have er2 : ERep K (D :: ζ) ι2 H (wipe σ vs) (wipeD ρ vs) := (er.wipe vs).mvW (mv_wide s1 e2 hz) e2.pre
  by_cases hlt : i < its.length
  · rw [List.drop_eq_getElem_cons hlt] at c2
    unfold compR at c2
    split at c2
    · rename_i hck
      obtain ⟨go, yl⟩ := (io.step i (D :: ζ) ι2 H h2 e2 s2 hz hck).1 hlt
      refine .inr ⟨go, fun H' => its.length - (i + 1) < its.length - i ∧ i + 1 ≤ its.length ∧ ∃ ι h acc xs, Ext ι1 H1 ι H' ∧ Sim K (D :: ζ) ι H' h ∧ H' D = some (.lst xs) ∧ RepAll K (D :: ζ ++ ι) H' xs acc ∧ compR g gt ft fe (wipeD ρ vs) (its.drop (i + 1)) h acc = some (ds, hE),
        fun H' ⟨q1, q2, q3⟩ => ⟨_, q1, rfl, q2, q3⟩, fun x H' y => ?_⟩
      obtain ⟨sm, rp⟩ := yl x H' y
      have rx := rp _ (List.getElem?_eq_getElem hlt)
      have ex := Ext.of_same (ι := ι2) sm
      split at c2
      · rename_i ρ3 h3 eg
        refine ⟨D :: ζ, ι2, wipeD ρ vs, h2, .d its[i], er2.mv s2 ex, s2.same sm, .d rx, ?_⟩
        rw [eg]
        intro σ3 H3 ι3 e3 s3 er3 w3
        refine ⟨(w3 vs hv).trans ?_, D :: ζ, ι3, ρ3, h3, er3, s3, ?_⟩
        · apply List.ext_getElem?
          intro j
          rw [wipe_get, wipe_get, wipe_length]
          by_cases hj : j ∈ vs ∧ j < σ.length
          · rw [if_pos hj, if_pos hj]
          · rw [if_neg hj, if_neg hj]
        have eA : Ext ι2 H ι3 H3 := ex.trans e3
        split at c2
        · rename_i h4 et
          rw [et]
          intro b H4 ι4 e4 s4 eb
          subst eb
          rw [if_pos rfl]
          split at c2
          · rename_i x5 h5 ee
            split at c2
            · rename_i hl
              refine ⟨D :: ζ, ι4, ρ3, h4, er3.mv s3 e4, s4, ?_⟩
              rw [ee]
              intro y5 H5 ι5 e5 s5 r5
              have eB : Ext ι2 H ι5 H5 := (eA.trans e4).trans e5
              have nD : D ∉ ι2 := fun m => (List.nodup_cons.mp s2.nd).1 (List.mem_append_right _ m)
              have hx5 : H5 D = some (.lst xs) := eB.keep _ _ hx nD
              have ra5 := ra.mv (s2.mv eB)
              obtain ⟨s6, m6⟩ := s5.grow (xs ++ [y5])
              refine ⟨xs, hx5, by rw [ra5.length]; exact hl, by omega, hlt, ι5, h5, acc ++ [x5], xs ++ [y5], ?_, s6, upd_same, ?_, c2⟩
              · have eC := e2.trans eB
                exact ⟨eC.pre, eC.new, fun a o h n => by
                  rw [upd_ne (fun e => by rw [e, hD] at h; cases h)]
                  exact eC.keep a o h n⟩
              · cases r5 with
                | d r5 => exact (ra5.app (.cons r5 .nil)).mv m6
            · cases c2
          · cases c2
        · rename_i h4 et
          rw [et]
          intro b H4 ι4 e4 s4 eb
          subst eb
          rw [if_neg Bool.false_ne_true]
          have eB : Ext ι2 H ι4 H4 := eA.trans e4
          have nD : D ∉ ι2 := fun m => (List.nodup_cons.mp s2.nd).1 (List.mem_append_right _ m)
          exact ⟨by omega, hlt, ι4, h4, acc, xs, e2.trans eB, s4, eB.keep _ _ hx nD, ra.mv (s2.mv eB), c2⟩
        · cases c2
      · cases c2
    · cases c2
  · have e : i = its.length := by omega
    subst e
    rw [List.drop_length] at c2
    unfold compR at c2
    split at c2
    · rename_i hck
      cases c2
      exact .inl ⟨(io.step _ (D :: ζ) ι2 H _ e2 s2 hz hck).2 (Nat.le_refl _), fin D xs ι2 H hD e2 s2 hx ra⟩
    · cases c2
theorem Ki.of_lc {K : PySem.W.Frag} {ζ ι : List Addr} {H : Hp} {σ : L2.St} {r : R (List D × List (Nat × List D))} {k : List D × List (Nat × List D) → Hs → R Val} {Q : VK} {W : WX} {Q1 : It → Hp → Prop} (w : Kt K ζ (VRep K ζ) ι H (r.bind k) Q (WE W σ))
    (h : ∀ p hs J H' ι', Ext ι H ι' H' → Sim K ζ ι' H' hs → IterOk K ζ ι' H' J p.1 p.2 → Kt K ζ (VRep K ζ) ι' H' (k p hs) Q (WE W σ) → Q1 J H') : Ki K ζ ι H σ r Q1 W := by
  cases r with
  | ok a hs => exact fun b H' ι' e s r => h a hs b H' ι' e s r (w.mv e)
  | ex c v hs => exact w
  | no => exact w
variable {elt tg iter : Expr} {ifs : List Expr} {scope : Scope} {own : List (Str × Nat)} {ws : List Nat} {fi : MI} {gt : MG} {ft : Env → Hs → R Bool} {fe : MV}
/-- what both kinds of list comprehension need -/
theorem lc_reads {W : WX} {ζ ι : List Addr} {ρ : Env} {hs : Hs} {σ : L2.St} {H : Hp} {Q : VK} {m : Bool} (hv : ∀ i ∈ ws, i ∈ own.map (·.2)) (er : ERep X.K ζ ι H σ ρ) (s : Sim X.K ζ ι H hs)
    (k : Kt X.K ζ (VRep X.K ζ) ι H ((if m = true then eLcM (own.map (·.2)) fi gt ft fe else eLc (own.map (·.2)) fi gt ft fe) ρ hs) Q (WE W σ)) :
    tLc (tI X.K fi W) (tG X.K ws gt) (tT X.K ft W0) (tE X.K fe W0) (own.map (·.2)) σ H Q := by
  refine ⟨ζ, ι, ρ, hs, er, s, ?_⟩
  cases m with
  | false =>
    simp only [Bool.false_eq_true, if_false] at k
    refine Ki.of_lc k fun p h1 J H1 ι1 e1 s1 io k1 => ?_
    cases hc : compR p.2 gt ft fe (wipeD ρ (own.map (·.2))) p.1 h1 [] with
    | none => rw [hc] at k1; exact k1.elim
    | some y =>
      obtain ⟨ds, hE⟩ := y
      rw [hc] at k1
      refine lc_loop hv s1 (er.mv s e1) io hc fun q xs ι2 H2 hq e2 s2 hx ra => ?_
      exact k1 _ H2 ι2 e2 s2.made (.d (.lst hx (fun m => (List.nodup_cons.mp s2.nd).1 m) (ra.sub fun a m => List.mem_cons_of_mem _ m)))
  | true =>
    simp only [if_true] at k
    refine Ki.of_lc k fun p h1 J H1 ι1 e1 s1 io k1 => ?_
    cases hc : compR p.2 gt ft fe (wipeD ρ (own.map (·.2))) p.1 h1 [] with
    | none => rw [hc] at k1; exact k1.elim
    | some y =>
      obtain ⟨ds, hE⟩ := y
      rw [hc] at k1
      refine lc_loop hv s1 (er.mv s e1) io hc fun q xs ι2 H2 hq e2 s2 hx ra => ?_
      refine k1 _ H2 (ι2 ++ [q]) ⟨e2.pre.trans (List.prefix_append _ _), fun a m n => ?_, e2.keep⟩ (s2.madeM hx ra) (.r ?_)
      · rcases List.mem_append.mp m with m | m
        · exact e2.new a m n
        · have e : a = q := by simpa using m
          rw [e]; exact hq
      · rw [← s2.len, List.getElem?_append_right (Nat.le_refl _), Nat.sub_self]
        rfl
theorem ee_lc0 {k : Nat} (m : Bool) (C : Cn X k) (hi : EI X tg iter fi) (ok : BlkOk X.N X.env.scope scope own) (hv : ∀ i ∈ ws, i ∈ own.map (·.2))
    (hg : ∀ (s : Shared) (H : Hp) (C : Addr) (cl : List (Str × Addr)) (fp : List Addr), EG (X.blk s H scope (compEnvC scope cl C X.env) fp) tg ws gt)
    (ht : ∀ (s : Shared) (H : Hp) (C : Addr) (cl : List (Str × Addr)) (fp : List Addr), ETs (X.blk s H scope (compEnvC scope cl C X.env) fp) ifs ft)
    (he : ∀ (s : Shared) (H : Hp) (C : Addr) (cl : List (Str × Addr)) (fp : List Addr), EE (X.blk s H scope (compEnvC scope cl C X.env) fp) elt fe) (hs : ∀ x, foldedSetIterable iter X.env x = pure x) :
    EE X (.ListComp elt [⟨tg, iter, ifs, 0⟩] scope pos) (if m = true then eLcM (own.map (·.2)) fi gt ft fe else eLc (own.map (·.2)) fi gt ft fe) := ⟨fun W tk =>
  ⟨_, pe_lc C.calm C.nd (hi.can tk) ok (fun s H C cl fp => (hg s H C cl fp).can) (fun s H C cl fp => (ht s H C cl fp).run W0 takes0) (fun s H C cl fp => (he s H C cl fp).can takes0) hs, fun ζ ι ρ hs σ H Q er s k => lc_reads hv er s k⟩⟩
end
end DL

set_option Elab.async false
set_option linter.all false
set_option maxRecDepth 100000
set_option maxHeartbeats 1000000
namespace DL
open PySem PySem.Spec PyProof.Rows L2

/-! ### defs -/
abbrev FnD := List Val → Hs → R Val
/-- what a def hands back of a store of n places at its call: its own places are let go; a list of its own is frozen, or (keep) is the caller's new place -/
def frz (n : Nat) (h : Hs) : List (Sum D Nat) → Option (List D)
  | [] => some []
  | .inl d :: ms => (frz n h ms).map (d :: ·)
  | .inr i :: ms => if i < n then none else match h[i]? with
    | some (.lst ds) => (frz n h ms).map (.list ds :: ·)
    | some (.dic _ kvs) => (frz n h ms).map (.dict kvs :: ·)
    | _ => none
def exitV (keep : Bool) (n : Nat) (v : Val) (h : Hs) : R Val := match v with
  | .d x => .ok (.d x) (h.take n)
  | .x c d => .ok (.x c d) (h.take n)
  | .s ns => .ok (.s ns) (h.take n)
  | .c ns => .ok (.c ns) (h.take n)
  | .t ms => match frz n h ms with
    | some ds => .ok (.d (.tuple ds)) (h.take n)
    | none => .no
  | .r i => if i < n then .ok (.r i) (h.take n) else match h[i]? with
    | some m => if keep = true then .ok (.r n) (h.take n ++ [m]) else (match m with
      | .lst ds => .ok (.d (.list ds)) (h.take n)
      | .dic _ kvs => .ok (.d (.dict kvs)) (h.take n)
      | .dcn _ => .no)
    | none => .no
def exitS (keep : Bool) (n : Nat) (r : S) : R Val := match r with
  | .rt v h => exitV keep n v h
  | .nx _ h => .ok (.d .none) (h.take n)
  | .ex c v _ h => .ex c v (h.take n)
  | _ => .no
def startE (N : Nat) (us : List Val) : Env := us.map some ++ List.replicate (N - us.length) none
def mkF (keep : Bool) (N n : Nat) (g : MS) : FnD := fun us h => if us.length = n then exitS keep h.length (g (startE N us) h) else .no
/-- the promise: the call means F -/
def spOf (K : PySem.W.Frag) (n : Nat) (F : FnD) : Sp := fun vs H Q E => ∃ ζ ι hs us, us.length = n ∧ Sim K ζ ι H hs ∧ VRepAll K ζ ι H vs us ∧ Kt K ζ (VRep K ζ) ι H (F us hs) Q E
/-- a def of the text, and what it means -/
structure FnF (P : Program) (w : World) (K : PySem.W.Frag) (mg : Str → Option Value) (base : Heap) (x : Str) (pa : Arguments) (bd : List Stmt) (sc : Scope) (ps : List Str) (k : Nat) (F : FnD) : Prop where
  ex : ∃ f fd, mg x = some (.ref f) ∧ FunD K x x pa bd sc [] [] f fd ∧ Binds K fd ps [] ∧ FnOk P w K mg base (L2.CX P w) k f fd ps (spOf K ps.length F)
  len : ∀ us h, F us h ≠ .no → us.length = ps.length
section
variable {K : PySem.W.Frag} {ζ ι ι' : List Addr} {H H' : Hp} {hs : Hs}
theorem VRepAll.length : ∀ {vs : List V} {us : List Val}, VRepAll K ζ ι H vs us → vs.length = us.length
  | _, _, .nil => rfl
  | _, _, .cons _ t => by rw [List.length_cons, List.length_cons, VRepAll.length t]
theorem VRepAll.get : ∀ {vs : List V} {us : List Val} {i : Nat} {u : Val}, VRepAll K ζ ι H vs us → us[i]? = some u → ∃ v, vs[i]? = some v ∧ VRep K ζ ι H v u
  | _, _, 0, _, .cons r _, e => ⟨_, rfl, by cases e; exact r⟩
  | _, _, i + 1, _, .cons _ t, e => by
    obtain ⟨v, h1, h2⟩ := VRepAll.get (i := i) t (by simpa using e)
    exact ⟨v, by simpa using h1, h2⟩
  | _, _, _, _, .nil, e => by simp at e
theorem start_rep {N : List Str} {vs : List V} {us : List Val} (r : VRepAll K ζ ι H vs us) : ERep K ζ ι H (L2.start N vs) (startE N.length us) := by
  have hl := r.length
  refine ⟨by simp [L2.start, startE, hl]; try omega, fun i v h => ?_⟩
  unfold startE at h
  unfold L2.start
  by_cases hi : i < us.length
  · rw [List.getElem?_append_left (by simpa using hi), List.getElem?_map] at h
    rw [List.getElem?_append_left (by simpa [hl] using hi), List.getElem?_map]
    cases e : us[i]? with
    | none => rw [e] at h; cases h
    | some u =>
      rw [e] at h
      have : u = v := by simpa using h
      subst this
      obtain ⟨x, q1, q2⟩ := r.get e
      exact ⟨x, by rw [q1]; rfl, q2⟩
  · rw [List.getElem?_append_right (by simpa using hi)] at h
    rw [List.getElem?_replicate] at h
    split at h <;> cases h
theorem Sim.take (s : Sim K ζ ι' H' hs) (e : Ext ι H ι' H') : Sim K ζ ι H' (hs.take ι.length) := by
  obtain ⟨t, rfl⟩ := e.pre
  have sub : ∀ a ∈ ζ ++ ι, a ∈ ζ ++ (ι ++ t) := fun a m => by
    rcases List.mem_append.mp m with m | m
    · exact List.mem_append_left _ m
    · exact List.mem_append_right _ (List.mem_append_left _ m)
  have hl := s.len
  rw [List.length_append] at hl
  refine ⟨?_, by rw [List.length_take]; omega, fun i a m h1 h2 => ?_, s.ap⟩
  · have nd := s.nd
    rw [← List.append_assoc] at nd
    exact (List.nodup_append.mp nd).1
  · obtain ⟨hi, _⟩ := List.getElem?_eq_some_iff.mp h1
    rw [List.getElem?_take_of_lt hi] at h2
    have z := s.at_ i a m (by rw [List.getElem?_append_left hi]; exact h1) h2
    cases z with
    | lst z r => exact .lst z (r.sub sub)
    | dK z r => exact .dK z (r.sub sub)
    | dT z r => exact .dT z (r.sub sub)
    | dN z ok k r => exact .dN z ok (k.sub sub) (r.sub sub)
theorem Ext.back (e : Ext ι H ι' H') : Ext ι H ι H' := ⟨List.prefix_rfl, fun a h1 h2 => absurd h1 h2, e.keep⟩
theorem sub_back (e : Ext ι H ι' H') : ∀ a ∈ ζ ++ ι, a ∈ ζ ++ ι' := fun a m => by
  obtain ⟨t, rfl⟩ := e.pre
  rcases List.mem_append.mp m with m | m
  · exact List.mem_append_left _ m
  · exact List.mem_append_right _ (List.mem_append_left _ m)
theorem frz_ok (s : Sim K ζ ι H hs) {h' : Hs} (e : Ext ι H ι' H') (s' : Sim K ζ ι' H' h') : ∀ {xs : List V} {ms : List (Sum D Nat)} {ds : List D}, TRepAll K ζ ι' H' xs ms → frz hs.length h' ms = some ds → RepAll K (ζ ++ ι) H' xs ds
  | _, _, _, .nil, q => by cases q; exact .nil
  | _, _, _, .d (ms := ms) r t, q => by
    simp only [frz] at q
    cases z : frz hs.length h' ms with
    | none => rw [z] at q; cases q
    | some es =>
      rw [z] at q
      cases q
      exact .cons (r.sub (sub_back e)) (frz_ok s e s' t z)
  | _, _, _, .r (a := a) (i := i) (ms := ms) r t, q => by
    have hl := s.len
    simp only [frz] at q
    split at q
    · cases q
    · rename_i hi
      have na : a ∉ ζ ++ ι := fun mm => by
        obtain ⟨u, rfl⟩ := e.pre
        have nd := s'.nd
        rw [← List.append_assoc] at nd
        have hi2 : ι.length ≤ i := by omega
        rw [List.getElem?_append_right hi2] at r
        exact (List.nodup_append.mp nd).2.2 a mm a (List.mem_of_getElem? r) rfl
      cases em : h'[i]? with
      | none => rw [em] at q; cases q
      | some m =>
        have z := s'.at_ i a m r em
        rw [em] at q
        cases z with
        | lst z1 z2 =>
          simp only at q
          cases y : frz hs.length h' ms with
          | none => rw [y] at q; cases q
          | some es =>
            rw [y] at q
            cases q
            exact .cons (.lst z1 na (z2.sub (sub_back e))) (frz_ok s e s' t y)
        | dK z1 z2 =>
          simp only at q
          cases y : frz hs.length h' ms with
          | none => rw [y] at q; cases q
          | some es =>
            rw [y] at q
            cases q
            exact .cons (.dK z1 na (z2.sub (sub_back e))) (frz_ok s e s' t y)
        | dT z1 z2 =>
          simp only at q
          cases y : frz hs.length h' ms with
          | none => rw [y] at q; cases q
          | some es =>
            rw [y] at q
            cases q
            exact .cons (.dT z1 na (z2.sub (sub_back e))) (frz_ok s e s' t y)
        | dN => cases q
theorem exitV_ok {keep : Bool} {v : Val} {Q : VK} {E : XK} {x : V} (s : Sim K ζ ι H hs) {h' : Hs} (k : Kt K ζ (VRep K ζ) ι H (exitV keep hs.length v h') Q E) (e : Ext ι H ι' H') (s' : Sim K ζ ι' H' h') (r : VRep K ζ ι' H' x v) : Q x H' := by
  have hl := s.len
  have st := s'.take e
  rw [hl] at st
  unfold exitV at k
  cases r with
  | d r => exact k x H' ι e.back st (.d (r.sub (sub_back e)))
  | x q1 n1 q2 q3 => exact k _ H' ι e.back st (.x q1 (fun m => n1 (sub_back e _ m)) q2 (q3.sub (sub_back e)))
  | s q => exact k _ H' ι e.back st (.s q)
  | c q => exact k _ H' ι e.back st (.c q)
  | t q1 q2 =>
    simp only at k
    cases y : frz hs.length h' _ with
    | none => rw [y] at k; exact k.elim
    | some ds =>
      rw [y] at k
      exact k _ H' ι e.back st (.d (.tup q1 (frz_ok s e s' q2 y)))
  | @r a i q =>
    by_cases hi : i < hs.length
    · simp only [if_pos hi] at k
      refine k _ H' ι e.back st (.r ?_)
      obtain ⟨t, rfl⟩ := e.pre
      rw [List.getElem?_append_left (by rw [hl]; exact hi)] at q
      exact q
    · simp only [if_neg hi] at k
      cases em : h'[i]? with
      | none => rw [em] at k; exact k.elim
      | some m =>
        simp only [em] at k
        have z := s'.at_ i a m q em
        have na : a ∉ ζ ++ ι := fun mm => by
          obtain ⟨t, rfl⟩ := e.pre
          have nd := s'.nd
          rw [← List.append_assoc] at nd
          have hi2 : ι.length ≤ i := by omega
          rw [List.getElem?_append_right hi2] at q
          exact (List.nodup_append.mp nd).2.2 a mm a (List.mem_of_getElem? q) rfl
        by_cases hk : keep = true
        · simp only [if_pos hk] at k
          have naz : a ∉ ι := fun mm => na (List.mem_append_right _ mm)
          have ma : a ∈ ι' := List.mem_of_getElem? q
          have ex : Ext ι H (ι ++ [a]) H' := ⟨List.prefix_append _ _, fun b m n => by
            rcases List.mem_append.mp m with m | m
            · exact absurd m n
            · have eb : b = a := by simpa using m
              rw [eb]; exact e.new a ma naz, e.keep⟩
          have sub : ∀ b ∈ ζ ++ (ι ++ [a]), b ∈ ζ ++ ι' := fun b m => by
            rcases List.mem_append.mp m with m | m
            · exact List.mem_append_left _ m
            · rcases List.mem_append.mp m with m | m
              · exact sub_back (ζ := ζ) e b (List.mem_append_right _ m)
              · have eb : b = a := by simpa using m
                rw [eb]; exact List.mem_append_right _ ma
          refine k _ H' (ι ++ [a]) ex ⟨?_, by simp [st.len, hl], fun j b m' h1 h2 => ?_, s'.ap⟩ (.r ?_)
          · rw [← List.append_assoc]
            refine List.nodup_append.mpr ⟨s.nd, by simp, fun b hb c hc => ?_⟩
            have ec : c = a := by simpa using hc
            rw [ec]
            rintro rfl
            exact na hb
          · by_cases hj : j < ι.length
            · rw [List.getElem?_append_left hj] at h1
              have hj2 : j < (h'.take hs.length).length := by rw [← st.len]; exact hj
              rw [List.getElem?_append_left hj2, List.getElem?_take_of_lt (by rw [← hl]; exact hj)] at h2
              obtain ⟨t, rfl⟩ := e.pre
              have y := s'.at_ j b m' (by rw [List.getElem?_append_left hj]; exact h1) h2
              cases y with
              | lst z r => exact .lst z (r.sub sub)
              | dK z r => exact .dK z (r.sub sub)
              | dT z r => exact .dT z (r.sub sub)
              | dN z ok k r => exact .dN z ok (k.sub sub) (r.sub sub)
            · have ej : j = ι.length := by
                have := (List.getElem?_eq_some_iff.mp h1).1
                rw [List.length_append, List.length_singleton] at this
                omega
              have e2 : ι.length = (h'.take hs.length).length := st.len
              rw [ej, List.getElem?_append_right (Nat.le_refl _), Nat.sub_self] at h1
              rw [ej, e2, List.getElem?_append_right (Nat.le_refl _), Nat.sub_self] at h2
              cases h1
              cases h2
              cases z with
              | lst z r => exact .lst z (r.sub sub)
              | dK z r => exact .dK z (r.sub sub)
              | dT z r => exact .dT z (r.sub sub)
              | dN z ok kk r => exact .dN z ok (kk.sub sub) (r.sub sub)
          · rw [← hl, List.getElem?_append_right (Nat.le_refl _), Nat.sub_self]
            rfl
        · simp only [if_neg hk] at k
          cases z with
          | lst z r => exact k _ H' ι e.back st (.d (.lst z na (r.sub (sub_back e))))
          | dK z r => exact k _ H' ι e.back st (.d (.dK z na (r.sub (sub_back e))))
          | dT z r => exact k _ H' ι e.back st (.d (.dT z na (r.sub (sub_back e))))
          | dN => exact k.elim
end
theorem mkF_len {keep : Bool} {N n : Nat} {g : MS} (us : List Val) (h : Hs) (q : mkF keep N n g us h ≠ .no) : us.length = n := by
  unfold mkF at q
  split at q
  · assumption
  · exact absurd rfl q
section
variable {P : Program} {w : World} {K : PySem.W.Frag} {mg : Str → Option Value} {base : Heap}
/-- a def that is never called -/
theorem fn_no {x : Str} {pa : Arguments} {bd : List Stmt} {sc : Scope} {N ps : List Str} {k : Nat} {f : Addr} {fd : FuncData} (hm : mg x = some (.ref f)) (F : FunD K x x pa bd sc [] [] f fd) (S : FnScope N ps sc) (hb : Binds K fd ps []) :
    FnF P w K mg base x pa bd sc ps (k + 1) (fun _ _ => .no) := by
  refine ⟨⟨f, fd, hm, F, hb, ?_⟩, fun us h z => absurd rfl z⟩
  refine F.ok S (fun vs H Q E h => ?_) (fun cdv A outer s H vs Q E hr h => ?_)
  · obtain ⟨ζ, ι, hs, us, hl, s, r, kk⟩ := h
    exact kk.elim
  · obtain ⟨ζ, ι, hs, us, hl, sm, r, kk⟩ := h
    exact kk.elim
/-- THE RULE for a def -/
theorem fn_mk {x : Str} {pa : Arguments} {bd : List Stmt} {sc : Scope} {N ps : List Str} {k : Nat} {G : MS} {f : Addr} {fd : FuncData} (keep : Bool) (hm : mg x = some (.ref f)) (F : FunD K x x pa bd sc [] [] f fd) (S : FnScope N ps sc) (hb : Binds K fd ps [])
    (body : ∀ (cdv : Value) (A : Around) (outer : List PySem.Env) (s : Shared) (H : Hp) (E : XK), Cn (cxOf (L2.CX P w) P w K mg base N x sc f cdv A outer s H E) k → SSs (cxOf (L2.CX P w) P w K mg base N x sc f cdv A outer s H E) bd G) :
    FnF P w K mg base x pa bd sc ps (k + 1) (mkF keep N.length ps.length G) := by
  refine ⟨⟨f, fd, hm, F, hb, ?_⟩, mkF_len⟩
  refine F.ok S (fun vs H Q E h => ?_) (fun cdv A outer s H vs Q E hr h => ?_)
  · obtain ⟨ζ, ι, hs, us, hl, s, r, _⟩ := h
    rw [r.length, hl]
  · obtain ⟨ζ, ι, hs, us, hl, sm, r, kk⟩ := h
    have tk : Takes (cxOf (L2.CX P w) P w K mg base N x sc f cdv A outer s H E) (fun cls d _ H => E cls d H) := takes_of rfl rfl rfl rfl
    have C : Cn (cxOf (L2.CX P w) P w K mg base N x sc f cdv A outer s H E) k := ⟨rfl, S.nd, hr, passes_of rfl⟩
    obtain ⟨t, p, q⟩ := (body cdv A outer s H E C).run _ tk
    refine ⟨t, p, q ζ ι (startE N.length us) hs _ H _ (start_rep r) sm ?_⟩
    unfold mkF at kk
    rw [if_pos hl] at kk
    cases e : G (startE N.length us) hs with
    | nx ρ h =>
      rw [e] at kk
      intro σ' H' ι' e' s' er'
      have st := s'.take e'
      rw [sm.len] at st
      exact kk _ H' ι e'.back st (.d .non)
    | rt v h =>
      rw [e] at kk
      intro y H' ι' e' s' r'
      exact exitV_ok sm kk e' s' r'
    | bk ρ h => rw [e] at kk; exact kk.elim
    | ct ρ h => rw [e] at kk; exact kk.elim
    | no => rw [e] at kk; exact kk.elim
    | ex c v ρ h =>
      rw [e] at kk
      intro cls dd σ' H' ι' e' s' er' x'
      have st := s'.take e'
      rw [sm.len] at st
      obtain ⟨x1, da, w', x2, x3, x4⟩ := x'
      exact kk cls dd H' ι e'.back st ⟨x1, da, w', x2, x3, x4.sub (sub_back e')⟩
end
/-! ### calls -/
def eCall (F : FnD) (fas : Env → Hs → R (List Val)) : MV := fun ρ h => (fas ρ h).bind fun us h1 => F us h1
section
variable {X : Cx} {x : Str} {pa : Arguments} {bd : List Stmt} {sc : Scope} {ps : List Str} {k j : Nat} {F : FnD} {p pos : Pos} {e : Expr} {es : List Expr} {fas : Env → Hs → R (List Val)}
theorem ee_call (hf : FnF X.prog X.w X.K X.mg X.base x pa bd sc ps k F) (C : Cn X j) (ha : EA X (e :: es) fas) (hk : k ≤ j := by decide) (hg : Gl X x := by rfl) (hdb : (x == ("__debug__" : Str)) = false := by decide)
    (he : starEach (e :: es) X.env = (false, eval e X.env) :: starEach es X.env := by rfl) (hpl : (backTo pos (starEach es X.env)).any (·.1) = false := by rfl) : EE X (.Call (.Name x p) (e :: es) [] pos) (eCall F fas) := ⟨fun W tk => by
  obtain ⟨f, fd, hm, FD, hb, G⟩ := hf.ex
  obtain ⟨t, pp, q⟩ := ha.run W tk
  refine ⟨_, pe_callS G (C.room.mono hk) hg hm FD.kp hb (fun σ => passAt tk σ) pp hdb he hpl, fun ζ ι ρ hs σ H Q er s kk => q ζ ι ρ hs σ H _ er s (Kt.bind kk fun us h1 xs H1 ι1 e1 s1 r1 k1 => ?_)⟩
  refine ⟨ζ, ι1, h1, us, hf.len us h1 fun z => ?_, s1, r1, k1⟩
  rw [z] at k1
  exact k1⟩
theorem pe_callS0 {X : Cx} {CX : CXT} {k : Nat} {f : Addr} {fd : FuncData} {ps : List Str} {sp : Sp} {E : L2.St → XK} {x : Str} {p pos : Pos} (F : FnOk X.prog X.w X.K X.mg X.base CX k f fd ps sp) (hr : Room k X.A) (hg : Gl X x) (hm : X.mg x = some (.ref f)) (hk : PySem.W.keepIn X.K (.ref f) = true) (hb : Binds X.K fd ps []) (hx : ∀ σ, PassesAt CX X σ (E σ))
    (hdb : (x == ("__debug__" : Str)) = false := by decide) : PE X (.Call (.Name x p) [] [] pos) (tCallS sp E tNil) := by
  refine ⟨fun pins s σ H Q I h => ?_⟩
  refine wpAny_Call_Name_kw (ld_glob I hg hm ?_ hdb)
  exact PySem.W.callWith_K0 I.kIn hk (run_fnS (us := []) F hr hb (hx σ) I .nil h)
theorem ee_call0 (hf : FnF X.prog X.w X.K X.mg X.base x pa bd sc ps k F) (C : Cn X j) (hk : k ≤ j := by decide) (hg : Gl X x := by rfl) (hdb : (x == ("__debug__" : Str)) = false := by decide) : EE X (.Call (.Name x p) [] [] pos) (eCall F aNil) := ⟨fun W tk => by
  obtain ⟨f, fd, hm, FD, hb, G⟩ := hf.ex
  refine ⟨_, pe_callS0 G (C.room.mono hk) hg hm FD.kp hb (fun σ => passAt tk σ) hdb, fun ζ ι ρ hs σ H Q er s kk => ?_⟩
  refine ⟨ζ, ι, hs, [], hf.len [] hs fun z => ?_, s, .nil, kk⟩
  unfold eCall aNil at kk
  simp only [R.bind_ok] at kk
  rw [z] at kk
  exact kk⟩
theorem Kt.bindE {γ δ γ' δ' : Type} {K : PySem.W.Frag} {ζ ι : List Addr} {H : Hp} {rel : List Addr → Hp → δ → γ → Prop} {rel' : List Addr → Hp → δ' → γ' → Prop} {r : R γ} {k : γ → Hs → R γ'} {Q : δ' → Hp → Prop} {E : XK} {Q1 : δ → Hp → Prop}
    (w : Kt K ζ rel' ι H (r.bind k) Q E) (h : ∀ a hs b H' ι', r = .ok a hs → Ext ι H ι' H' → Sim K ζ ι' H' hs → rel ι' H' b a → Kt K ζ rel' ι' H' (k a hs) Q E → Q1 b H') : Kt K ζ rel ι H r Q1 E := by
  cases r with
  | ok a hs => exact fun b H' ι' e s r => h a hs b H' ι' rfl e s r (w.mv e)
  | ex c v hs => exact w
  | no => exact w
/-- keywords' values -/
structure EK (X : Cx) (kws : List Keyword) (n : Nat) (f : Env → Hs → R (List Val)) : Prop where
  run : ∀ W : WX, Takes X W → ∃ t, PK X kws t ∧ ∀ (ζ ι : List Addr) (ρ : Env) (hs : Hs) (σ : L2.St) (H : Hp) (Q : List V → Hp → Prop), ERep X.K ζ ι H σ ρ → Sim X.K ζ ι H hs → Kt X.K ζ (VRepAll X.K ζ) ι H (f ρ hs) Q (WE W σ) → t σ H Q
  len : ∀ ρ h us h', f ρ h = .ok us h' → us.length = n
theorem ek_nil : EK X [] 0 aNil := ⟨fun W tk => ⟨_, pk_nil, fun ζ ι ρ hs σ H Q er s k => k.here s (fun _ _ h => h) .nil⟩, fun ρ h us h' e => by cases e; rfl⟩
theorem ek_cons {nm : Option Str} {kpos : Pos} {kws : List Keyword} {n : Nat} {fa : MV} {fr : Env → Hs → R (List Val)} (ha : EE X e fa) (hr : EK X kws n fr) : EK X (⟨nm, e, kpos⟩ :: kws) (n + 1) (aCons fa fr) := ⟨fun W tk => by
  obtain ⟨ta, pa, qa⟩ := ha.run W tk
  obtain ⟨tr, pr, qr⟩ := hr.run W tk
  refine ⟨_, pk_cons pa pr, fun ζ ι ρ hs σ H Q er s k => ?_⟩
  refine qa ζ ι ρ hs σ H _ er s (Kt.bind k fun u h1 x H1 ι1 e1 s1 r1 k1 => ?_)
  refine qr ζ ι1 ρ h1 σ H1 _ (er.mv s e1) s1 (Kt.bind k1 fun us h2 xs H2 ι2 e2 s2 r2 k2 => ?_)
  exact k2.here s2 (fun _ _ h => h) (.cons (r1.mv s1 e2) r2), fun ρ h us h' e => by
  unfold aCons at e
  cases e1 : fa ρ h with
  | no => rw [e1] at e; cases e
  | ex c v h => rw [e1] at e; cases e
  | ok u h1 =>
    rw [e1] at e
    simp only [R.bind_ok] at e
    cases e2 : fr ρ h1 with
    | no => rw [e2] at e; cases e
    | ex c v h => rw [e2] at e; cases e
    | ok us2 h2 =>
      rw [e2] at e
      cases e
      rw [List.length_cons, hr.len _ _ _ _ e2]⟩
/-- the j-th of the keywords' values in the parameters' order: us ahead, then ws by π -/
def byPi {γ : Type} (π : List Nat) (us ws : List γ) : List γ := us ++ π.filterMap fun i => ws[i]?
def eCallK (F : FnD) (π : List Nat) (fas fks : Env → Hs → R (List Val)) : MV := fun ρ h => (fas ρ h).bind fun us h1 => (fks ρ h1).bind fun ws h2 => F (byPi π us ws) h2
theorem VRepAll.pi {K : PySem.W.Frag} {ζ ι : List Addr} {H : Hp} {zs : List V} {ws : List Val} (r : VRepAll K ζ ι H zs ws) : ∀ π : List Nat, VRepAll K ζ ι H (π.filterMap fun i => zs[i]?) (π.filterMap fun i => ws[i]?)
  | [] => .nil
  | i :: π => by
    rw [List.filterMap_cons, List.filterMap_cons]
    cases e : ws[i]? with
    | none =>
      have : zs[i]? = none := by
        rw [List.getElem?_eq_none_iff] at e ⊢
        rw [r.length]
        exact e
      rw [this]
      exact VRepAll.pi r π
    | some u =>
      obtain ⟨v, h1, h2⟩ := r.get e
      rw [h1]
      exact .cons h2 (VRepAll.pi r π)
theorem VRepAll.app {K : PySem.W.Frag} {ζ ι : List Addr} {H : Hp} : ∀ {vs zs : List V} {us ws : List Val}, VRepAll K ζ ι H vs us → VRepAll K ζ ι H zs ws → VRepAll K ζ ι H (vs ++ zs) (us ++ ws)
  | _, _, _, _, .nil, s => s
  | _, _, _, _, .cons r t, s => .cons r (VRepAll.app t s)
theorem vals_pi {zs : List V} {ws : List Value} (r : Vals zs ws) : ∀ π : List Nat, Vals (π.filterMap fun i => zs[i]?) (π.filterMap fun i => ws[i]?)
  | [] => .nil
  | i :: π => by
    rw [List.filterMap_cons, List.filterMap_cons]
    cases e : zs[i]? with
    | none =>
      rw [Vals.none_of r e]
      exact vals_pi r π
    | some u =>
      obtain ⟨v, h1, h2⟩ := Vals.get r e
      rw [h1]
      exact .cons h2 (vals_pi r π)
def tCallKS (sp : Sp) (gV : List V → List V → List V) (E : L2.St → XK) (t tk : TA) : TE := fun σ H Q => t σ H fun vs H1 => tk σ H1 fun zs H2 => sp (gV vs zs) H2 Q (E σ)
section
variable {CX : CXT} {f : Addr} {fd : FuncData} {sp : Sp} {E : L2.St → XK} {ks : List Str} {g : List Value → List Value → List Value} {gV : List V → List V → List V} {kws : List Keyword} {t tk : TA}
theorem run_fnkS {pins : List (Addr × Obj)} {σ : L2.St} {H : Hp} {s : Shared} {Q : VK} {us ws : List Value} {vs zs : List V} (F : FnOk X.prog X.w X.K X.mg X.base CX k f fd ps sp) (hr : Room k X.A) (hb : BindsTo s fd ⟨us, ks.zip ws⟩ (ps.zip (g us ws))) (hx : PassesAt CX X σ (E σ))
    (I : Inv X pins σ H s) (r2 : Vals (gV vs zs) (g us ws)) (h : sp (gV vs zs) H Q (E σ)) : wpAny (model X.prog X.w) X.A (call (.ref f) us (ks.zip ws)) (EP X pins σ Q) X.xe s := by
  refine wpAny_call (codeAny_mono (F.run X.A X.stack s H ⟨us, ks.zip ws⟩ (g us ws) (gV vs zs) Q (E σ) hr I.env0 hb r2 h) fun r s' hq => ?_)
  cases r with
  | error e => exact hx pins H s e s' I hq
  | ok fl =>
    cases fl with
    | ret u => exact I.after hq
    | next => exact False.elim hq
    | brk => exact False.elim hq
    | cont => exact False.elim hq
end
variable {kws : List Keyword} {fks : Env → Hs → R (List Val)}
/-- f(k = v, ..) with keywords alone; π puts their values in the parameters' order -/
theorem ee_callK0 (hf : FnF X.prog X.w X.K X.mg X.base x pa bd sc ps k F) (C : Cn X j) (ks : List Str) (π : List Nat) (hkw : EK X kws ks.length fks)
    (hbind : ∀ (kV doc pm : Value) (an : Option Addr) (cdv ct : Value) (ws : List Value), ws.length = ks.length → bindArgs (PySem.W.fnOf x x pa bd sc .none kV doc pm an cdv ct) ⟨[], ks.zip ws⟩ = pure (ps.zip (byPi π [] ws)))
    (hk : k ≤ j := by decide) (hg : Gl X x := by rfl) (hall : (backToKw pos (keywordEach kws X.env)).all (·.1.isSome) = true := by rfl) (hks : (backToKw pos (keywordEach kws X.env)).filterMap (·.1) = ks := by rfl)
    (hdb : (x == ("__debug__" : Str)) = false := by decide) (hpl : ((backTo pos (starEach [] X.env)).any (·.1) || (backToKw pos (keywordEach kws X.env)).any (·.1.isNone)) = false := by rfl) :
    EE X (.Call (.Name x p) [] kws pos) (eCallK F π aNil fks) := ⟨fun W tk => by
  obtain ⟨f, fd, hm, FD, hb, G⟩ := hf.ex
  obtain ⟨t, pp, q⟩ := hkw.run W tk
  have G := G
  refine ⟨fun σ H Q => t σ H fun zs H2 => zs.length = ks.length ∧ spOf X.K ps.length F (byPi π [] zs) H2 Q (WE W σ), ⟨fun pins s σ H Q I h => ?_⟩, fun ζ ι ρ hs σ H Q er s kk => ?_⟩
  · refine wpAny_Call_Name_kw (ld_glob I hg hm ?_ hdb)
    refine PySem.W.callWith_KW0 (h₀ := X.base) I.ok.mod.kin FD.kp hall ?_ hpl
    refine thn (pp.run pos pins s σ H _ I h) fun ws s2 ⟨zs, H2, I2, rz, hz, q2⟩ => ⟨I2.kIn, ?_⟩
    rw [hks]
    refine run_fnkS (g := byPi π) (gV := byPi π) (us := []) (vs := []) G (C.room.mono hk) ?_ (passAt tk σ) I2 (vals_pi rz π) q2
    obtain ⟨oc, od, dV, kV, doc, pm, an, cdv, ct, osl, rfl, lk, hcd, hD, hK⟩ := FD.ex
    rcases hD with ⟨_, rfl⟩ | ⟨e, _⟩
    · exact .of_eq (hbind kV doc pm an cdv ct ws (by rw [← Paired.length rz]; exact hz))
    · exact absurd rfl e
  · unfold eCallK aNil at kk
    simp only [R.bind_ok] at kk
    refine q ζ ι ρ hs σ H _ er s (Kt.bindE kk fun us h1 xs H1 ι1 eu e1 s1 r1 k1 => ⟨?_, ζ, ι1, h1, byPi π [] us, hf.len _ h1 fun z => ?_, s1, ?_, k1⟩)
    · rw [r1.length, hkw.len _ _ _ _ eu]
    · rw [z] at k1; exact k1
    · exact (VRepAll.nil).app (r1.pi π)⟩
/-- f(e, .., k = v, ..) -/
theorem ee_callK (hf : FnF X.prog X.w X.K X.mg X.base x pa bd sc ps k F) (C : Cn X j) (ks : List Str) (π : List Nat) (n : Nat) (ha : EA X (e :: es) fas) (hal : ∀ ρ h us h', fas ρ h = .ok us h' → us.length = n) (hkw : EK X kws ks.length fks)
    (hbind : ∀ (kV doc pm : Value) (an : Option Addr) (cdv ct : Value) (us ws : List Value), us.length = n → ws.length = ks.length → bindArgs (PySem.W.fnOf x x pa bd sc .none kV doc pm an cdv ct) ⟨us, ks.zip ws⟩ = pure (ps.zip (byPi π us ws)))
    (hk : k ≤ j := by decide) (hg : Gl X x := by rfl) (hall : (backToKw pos (keywordEach kws X.env)).all (·.1.isSome) = true := by rfl) (hks : (backToKw pos (keywordEach kws X.env)).filterMap (·.1) = ks := by rfl)
    (hdb : (x == ("__debug__" : Str)) = false := by decide) (he : starEach (e :: es) X.env = (false, eval e X.env) :: starEach es X.env := by rfl)
    (hpl : ((backTo pos (starEach (e :: es) X.env)).any (·.1) || (backToKw pos (keywordEach kws X.env)).any (·.1.isNone)) = false := by rfl) :
    EE X (.Call (.Name x p) (e :: es) kws pos) (eCallK F π fas fks) := ⟨fun W tk => by
  obtain ⟨f, fd, hm, FD, hb, G⟩ := hf.ex
  obtain ⟨t, pp, q⟩ := hkw.run W tk
  obtain ⟨ta, pa', qa⟩ := ha.run W tk
  have G := G
  refine ⟨fun σ H Q => ta σ H fun vs H1 => t σ H1 fun zs H2 => vs.length = n ∧ zs.length = ks.length ∧ spOf X.K ps.length F (byPi π vs zs) H2 Q (WE W σ), ⟨fun pins s σ H Q I h => ?_⟩, fun ζ ι ρ hs σ H Q er s kk => ?_⟩
  · refine wpAny_Call_Name_kw (ld_glob I hg hm ?_ hdb)
    refine PySem.W.callWith_KW (h₀ := X.base) I.ok.mod.kin FD.kp hall (thn (pa'.run pos pins s σ H _ I h) fun us s1 ⟨vs, H1, I1, r, q1⟩ => ?_) hpl he
    refine thn (pp.run pos pins s1 σ H1 _ I1 q1) fun ws s2 ⟨zs, H2, I2, rz, hn, hz, q2⟩ => ⟨I2.kIn, ?_⟩
    rw [hks]
    refine run_fnkS (g := byPi π) (gV := byPi π) G (C.room.mono hk) ?_ (passAt tk σ) I2 (r.append (vals_pi rz π)) q2
    obtain ⟨oc, od, dV, kV, doc, pm, an, cdv, ct, osl, rfl, lk, hcd, hD, hK⟩ := FD.ex
    rcases hD with ⟨_, rfl⟩ | ⟨e, _⟩
    · exact .of_eq (hbind kV doc pm an cdv ct us ws (by rw [← Paired.length r]; exact hn) (by rw [← Paired.length rz]; exact hz))
    · exact absurd rfl e
  · refine qa ζ ι ρ hs σ H _ er s (Kt.bindE kk fun vs h1 xs H1 ι1 ev e1 s1 r1 k1 => ?_)
    refine q ζ ι1 ρ h1 σ H1 _ (er.mv s e1) s1 (Kt.bindE k1 fun us h2 zs H2 ι2 eu e2 s2 r2 k2 => ⟨?_, ?_, ζ, ι2, h2, byPi π vs us, hf.len _ h2 fun z => ?_, s2, ?_, k2⟩)
    · rw [r1.length, hal _ _ _ _ ev]
    · rw [r2.length, hkw.len _ _ _ _ eu]
    · rw [z] at k2; exact k2
    · exact (r1.mv s1 e2).app (r2.pi π)⟩
theorem aNil_len {ρ : Env} {h : Hs} {us : List Val} {h' : Hs} (e : aNil ρ h = .ok us h') : us.length = 0 := by cases e; rfl
theorem aCons_len {n : Nat} {fa : MV} {fr : Env → Hs → R (List Val)} (hr : ∀ ρ h us h', fr ρ h = .ok us h' → us.length = n) (ρ : Env) (h : Hs) (us : List Val) (h' : Hs) (e : aCons fa fr ρ h = .ok us h') : us.length = n + 1 := by
  unfold aCons at e
  cases e1 : fa ρ h with
  | no => rw [e1] at e; cases e
  | ex c v h => rw [e1] at e; cases e
  | ok u h1 =>
    rw [e1] at e
    simp only [R.bind_ok] at e
    cases e2 : fr ρ h1 with
    | no => rw [e2] at e; cases e
    | ex c v h => rw [e2] at e; cases e
    | ok us2 h2 =>
      rw [e2] at e
      cases e
      rw [List.length_cons, hr _ _ _ _ e2]

/-! ### changing a thing of the store -/
theorem Sim.store {K : PySem.W.Frag} {ζ ι : List Addr} {H : Hp} {hs : Hs} (s : Sim K ζ ι H hs) {i : Nat} {a : Addr} {m : MO} {o : HO} (hi : ι[i]? = some a) (hm : MRep K (ζ ++ ι) (upd H a o) a m) :
    Sim K ζ ι (upd H a o) (hs.set i m) ∧ Ext ι H ι (upd H a o) := by
  have ma : a ∈ ι := List.mem_of_getElem? hi
  have mv : Mv (ζ ++ ι) H (ζ ++ ι) (upd H a o) := ⟨fun b u h n => ⟨by
    rw [upd_ne (fun e => n (by rw [e]; exact List.mem_append_right _ ma))]; exact h, n⟩, s.mvA⟩
  refine ⟨⟨s.nd, by simp [s.len], fun j b m' h1 h2 => ?_, fun b mb => ?_⟩, ⟨List.prefix_rfl, fun b h1 h2 => absurd h1 h2, fun b u h n => by
    rw [upd_ne (fun e => n (by rw [e]; exact ma))]; exact h⟩⟩
  · by_cases e : i = j
    · subst e
      rw [hi] at h1
      cases h1
      have hl : i < hs.length := by
        have := (List.getElem?_eq_some_iff.mp hi).1
        rw [s.len] at this
        exact this
      rw [List.getElem?_set_self hl] at h2
      cases h2
      exact hm
    · rw [List.getElem?_set_ne e] at h2
      have z := s.at_ j b m' h1 h2
      have ne : b ≠ a := fun eq => by
        subst eq
        have nd := (List.nodup_append.mp s.nd).2.1
        obtain ⟨l1, e1⟩ := List.getElem?_eq_some_iff.mp hi
        obtain ⟨l2, e2⟩ := List.getElem?_eq_some_iff.mp h1
        exact e ((List.getElem_inj nd).mp (e1.trans e2.symm))
      cases z with
      | lst z r => exact .lst (by rw [upd_ne ne]; exact z) (r.mv mv)
      | dK z r => exact .dK (by rw [upd_ne ne]; exact z) (r.mv mv)
      | dT z r => exact .dT (by rw [upd_ne ne]; exact z) (r.mv mv)
      | dN z ok k r => exact .dN (by rw [upd_ne ne]; exact z) ok (k.mv mv) (r.mv mv)
  · have ne : b ≠ a := fun eq => (List.nodup_append.mp s.nd).2.2 b mb a ma eq
    obtain ⟨x, z, im⟩ := s.ap b mb
    exact ⟨x, by rw [upd_ne ne]; exact z, im⟩
/-- the places that keep their reps when a place of the store changes -/
theorem Sim.storeMv {K : PySem.W.Frag} {ζ ι : List Addr} {H : Hp} {hs : Hs} (s : Sim K ζ ι H hs) {i : Nat} {a : Addr} (o : HO) (hi : ι[i]? = some a) : Mv (ζ ++ ι) H (ζ ++ ι) (upd H a o) := ⟨fun b u h n => ⟨by
    rw [upd_ne (fun e => n (by rw [e]; exact List.mem_append_right _ (List.mem_of_getElem? hi)))]; exact h, n⟩, s.mvA⟩
/-- xs.m(e, ..) of a list of the store: g tells of its items and the arguments the new items and the answer -/
def eLM (g : List D → List D → Option (List D × D)) (fo : MV) (fas : Env → Hs → R (List Val)) : MV := fun ρ h => (fo ρ h).bind fun u h1 => match u with
  | .r i => (match h1[i]? with
    | some (.lst _) => (fas ρ h1).bind fun us h2 => (match h2[i]?, pDs us with
      | some (.lst ds), some as => (match g ds as with
        | some (es, d) => .ok (.d d) (h2.set i (.lst es))
        | none => .no)
      | _, _ => .no)
    | _ => .no)
  | _ => .no
/-- what a method of lists by values means -/
def LmD (X : Cx) (r : V → List V → Hp → VK → Prop) (g : List D → List D → Option (List D × D)) : Prop := ∀ (α : List Addr) (H : Hp) (l : Addr) (xs as : List V) (ds ads es : List D) (d : D) (Q : VK), l ∈ α → H l = some (.lst xs) → RepAll X.K α H xs ds → RepAll X.K α H as ads → g ds ads = some (es, d) →
  (∀ ys z, RepAll X.K α H ys es → Rep X.K α H z d → Q z (upd H l (.lst ys))) → r (.ref l) as H Q
theorem lm_out {ζ ι : List Addr} {H : Hp} {h2 : Hs} {i : Nat} {g : List D → List D → Option (List D × D)} {r : V → List V → Hp → VK → Prop} {a : Addr} {us : List Val} {as : List V} {Q : VK} {E : XK} (hd : LmD X r g) (s2 : Sim X.K ζ ι H h2) (q : ι[i]? = some a) (r2 : VRepAll X.K ζ ι H as us)
    (k : Kt X.K ζ (VRep X.K ζ) ι H (match h2[i]?, pDs us with
      | some (.lst ds), some as => (match g ds as with
        | some (es, d) => .ok (.d d) (h2.set i (.lst es))
        | none => .no)
      | _, _ => .no) Q E) : r (.ref a) as H Q := by
  split at k
  · rename_i ds ads em ep
    split at k
    · rename_i es d eg
      have z := s2.at_ i a _ q em
      cases z with
      | lst z1 z2 =>
        refine hd (ζ ++ ι) H a _ as ds ads es d Q (List.mem_append_right _ (List.mem_of_getElem? q)) z1 z2 (pDs_ok r2 ep) eg fun ys z ry rz => ?_
        have mv := s2.storeMv (.lst ys) q
        obtain ⟨s3, e3⟩ := s2.store (m := .lst es) q (.lst upd_same (ry.mv mv))
        exact k z _ ι e3 s3 (.d (rz.mv mv))
    · exact k.elim
  · exact k.elim
theorem ee_lm {o : Expr} {name : Str} {apos cpos : Pos} {id : String} {r : V → List V → Hp → VK → Prop} {g : List D → List D → Option (List D × D)} {fo : MV} (slot : Slot "list" name id) (hty : typeOf (.builtin id) = pure (.type "method_descriptor")) (hm : MtR X id r) (hd : LmD X r g) (ho : EE X o fo) (ha : EA X (e :: es) fas)
    (hbase : attributeBase o name X.env (eval o X.env) = eval o X.env := by rfl)
    (hfew : ((backTo cpos (starEach (e :: es) X.env)).all (fun x => !x.1) && (backToKw cpos (keywordEach [] X.env)).all (fun x => x.1.isSome)
      && decide ((e :: es).length + ([] : List Keyword).length + (if ([] : List Keyword).isEmpty then 0 else 1) < 30)) = true := by rfl)
    (hline : (apos.endLine == cpos.line) = true := by rfl) (hs : starEach (e :: es) X.env = (false, eval e X.env) :: starEach es X.env := by rfl) (hplain : (backTo cpos (starEach es X.env)).any (·.1) = false := by rfl) :
    EE X (.Call (.Attribute o name apos) (e :: es) [] cpos) (eLM g fo fas) := ⟨fun W tk => by
  obtain ⟨to, po, qo⟩ := ho.run W tk
  obtain ⟨ta, pa, qa⟩ := ha.run W tk
  refine ⟨_, pe_bm PySem.F.plainAttrs_list slot hty hm po pa hbase hfew hline hs hplain, fun ζ ι ρ hs σ H Q er s k => ?_⟩
  refine qo ζ ι ρ hs σ H _ er s (Kt.bind k fun u h1 x H1 ι1 e1 s1 r1 k1 => ?_)
  cases r1 with
  | @r a i q =>
    simp only at k1
    split at k1
    · rename_i em
      have z := s1.at_ i a _ q em
      cases z with
      | lst z1 z2 =>
        refine ⟨.inl ⟨rfl, _, SqL.of z1⟩, ?_⟩
        refine qa ζ ι1 ρ h1 σ H1 _ (er.mv s e1) s1 (Kt.bind k1 fun us h2 xs H2 ι2 e2 s2 r2 k2 => ?_)
        have q2 : ι2[i]? = some a := by
          obtain ⟨t, rfl⟩ := e2.pre
          obtain ⟨hi, _⟩ := List.getElem?_eq_some_iff.mp q
          rw [List.getElem?_append_left hi]
          exact q
        exact lm_out hd s2 q2 r2 k2
    · exact k1.elim
  | d r => exact k1.elim
  | x _ _ _ => exact k1.elim
  | s _ => exact k1.elim
  | c _ => exact k1.elim
  | t _ _ => exact k1.elim⟩
theorem ee_lm0 {o : Expr} {name : Str} {apos cpos : Pos} {id : String} {r : V → List V → Hp → VK → Prop} {g : List D → List D → Option (List D × D)} {fo : MV} (slot : Slot "list" name id) (hty : typeOf (.builtin id) = pure (.type "method_descriptor")) (hm : MtR X id r) (hd : LmD X r g) (ho : EE X o fo)
    (hbase : attributeBase o name X.env (eval o X.env) = eval o X.env := by rfl) (hline : (apos.endLine == cpos.line) = true := by rfl) : EE X (.Call (.Attribute o name apos) [] [] cpos) (eLM g fo aNil) := ⟨fun W tk => by
  obtain ⟨to, po, qo⟩ := ho.run W tk
  refine ⟨_, pe_bm0 PySem.F.plainAttrs_list slot hty hm po hbase hline, fun ζ ι ρ hs σ H Q er s k => ?_⟩
  refine qo ζ ι ρ hs σ H _ er s (Kt.bind k fun u h1 x H1 ι1 e1 s1 r1 k1 => ?_)
  cases r1 with
  | @r a i q =>
    simp only at k1
    split at k1
    · rename_i em
      have z := s1.at_ i a _ q em
      cases z with
      | lst z1 z2 =>
        refine ⟨.inl ⟨rfl, _, SqL.of z1⟩, ?_⟩
        exact lm_out hd s1 q .nil k1
    · exact k1.elim
  | d r => exact k1.elim
  | x _ _ _ => exact k1.elim
  | s _ => exact k1.elim
  | c _ => exact k1.elim
  | t _ _ => exact k1.elim⟩
def gAppend : List D → List D → Option (List D × D) := fun ds as => match as with
  | [a] => if ds.length < sizeLine then some (ds ++ [a], .none) else none
  | _ => none
theorem lm_append : LmD X rAppend gAppend := by
  intro α H l xs as ds ads es d Q hl hx ra rb e k
  unfold gAppend at e
  split at e
  · split at e
    · cases e
      cases rb with
      | cons r1 rr =>
        cases rr
        exact ⟨l, xs, _, rfl, rfl, hx, by rw [ra.length]; assumption, k _ _ (ra.app (.cons r1 .nil)) .non⟩
    · cases e
  · cases e
def gPop : List D → List D → Option (List D × D) := fun ds as => match as with
  | [] => (ds[ds.length - 1]?).map fun d => (ds.dropLast, d)
  | _ => none
theorem RepAll.dropLast {K : PySem.W.Frag} {α : List Addr} {H : Hp} {vs : List V} {ds : List D} (r : RepAll K α H vs ds) : RepAll K α H vs.dropLast ds.dropLast := by
  rw [List.dropLast_eq_take, List.dropLast_eq_take, r.length]
  exact r.take _
theorem lm_pop : LmD X rPop gPop := by
  intro α H l xs as ds ads es d Q hl hx ra rb e k
  unfold gPop at e
  split at e
  · cases rb
    cases q : ds[ds.length - 1]? with
    | none => rw [q] at e; cases e
    | some y =>
      rw [q] at e
      cases e
      obtain ⟨v, h1, h2⟩ := ra.get q
      exact ⟨l, xs, v, rfl, rfl, hx, by rw [ra.length]; exact h1, k _ _ ra.dropLast h2⟩
  · cases e
def gPopAt : List D → List D → Option (List D × D) := fun ds as => match as with
  | [.int i] => if i.natAbs.log2 < 63 then (match seqIndex? i ds.length with
    | some k => (ds[k]?).map fun d => (ds.eraseIdx k, d)
    | none => none) else none
  | _ => none
theorem RepAll.eraseIdx {K : PySem.W.Frag} {α : List Addr} {H : Hp} : ∀ (n : Nat) {vs : List V} {ds : List D}, RepAll K α H vs ds → RepAll K α H (vs.eraseIdx n) (ds.eraseIdx n)
  | _, _, _, .nil => .nil
  | 0, _, _, .cons _ t => t
  | n + 1, _, _, .cons q t => .cons q (RepAll.eraseIdx n t)
theorem lm_popAt : LmD X rPopAt gPopAt := by
  intro α H l xs as ds ads es d Q hl hx ra rb e k
  unfold gPopAt at e
  split at e
  · split at e
    · rename_i i hi
      split at e
      · rename_i kk ek
        cases q : ds[kk]? with
        | none => rw [q] at e; cases e
        | some y =>
          rw [q] at e
          cases e
          obtain ⟨v, h1, h2⟩ := ra.get q
          cases rb with
          | cons r1 rr =>
            cases rr
            cases r1
            have hi' := log2_lt hi
            exact ⟨l, xs, i, kk, v, rfl, rfl, hx, by omega, by omega, by rw [ra.length]; exact ek, h1, k _ _ (ra.eraseIdx kk) h2⟩
      · cases e
    · cases e
  · cases e
def gReverse : List D → List D → Option (List D × D) := fun ds as => match as with
  | [] => some (ds.reverse, .none)
  | _ => none
theorem RepAll.reverse {K : PySem.W.Frag} {α : List Addr} {H : Hp} : ∀ {vs : List V} {ds : List D}, RepAll K α H vs ds → RepAll K α H vs.reverse ds.reverse
  | _, _, .nil => .nil
  | _, _, .cons r t => by
    rw [List.reverse_cons, List.reverse_cons]
    exact (RepAll.reverse t).app (.cons r .nil)
theorem lm_reverse : LmD X rReverse gReverse := by
  intro α H l xs as ds ads es d Q hl hx ra rb e k
  unfold gReverse at e
  split at e
  · cases rb
    cases e
    exact ⟨l, xs, rfl, rfl, hx, k _ _ ra.reverse .non⟩
  · cases e
/-- xs[i] = e, xs a list of the store -/
def sSub (fe fo fi : MV) : MS := fun ρ h => (fe ρ h).bindS ρ fun v h1 => (fo ρ h1).bindS ρ fun u h2 => (fi ρ h2).bindS ρ fun w h3 => match v, u, w with
  | .d x, .r i, .d (.int k) => (match h3[i]? with
    | some (.lst ds) => (match ixN ds.length k with
      | some j => .nx ρ (h3.set i (.lst (ds.set j x)))
      | none => .no)
    | _ => .no)
  | _, _, _ => .no
theorem ss_sub {o i e : Expr} {fe fo fi : MV} {tpos : Pos} (he : EE X e fe) (ho : EE X o fo) (hi : EE X i fi)
    (hs : swapsWithSole [.Subscript o i tpos] e pos.line X.env = pure false := by rfl) (hw : swappedStores [.Subscript o i tpos] e X.env = pure none := by rfl) (ha : (assignEach [.Subscript o i tpos] X.env).map (·.2) = [assign (.Subscript o i tpos) X.env] := by rfl)
    (hv : ∀ v, assign (.Subscript o i tpos) X.env v = (do
      let ov ← holding [v] (eval o X.env)
      let iv ← holding [v, ov] (eval i X.env)
      standAt tpos
      holding [v, ov, iv] (setItem ov iv v)
      release [v, ov, iv] []) := by exact fun _ => rfl) :
    SS X (.Assign [.Subscript o i tpos] e pos) (sSub fe fo fi) := ⟨fun W tk => by
  obtain ⟨te, pe, qe⟩ := he.run W tk
  obtain ⟨to, po, qo⟩ := ho.run W tk
  obtain ⟨ti, pi, qi⟩ := hi.run W tk
  refine ⟨_, ps_asg pe (pg_sub po pi set_list hv) hs hw ha, fun ζ ι ρ hs σ H D er s k => ?_⟩
  refine qe ζ ι ρ hs σ H _ er s (Ks.bind k er s fun v h1 x H1 ι1 e1 s1 r1 k1 => ?_)
  have er1 := er.mv s e1
  refine qo ζ ι1 ρ h1 σ H1 _ er1 s1 (Ks.bind k1 er1 s1 fun u h2 y H2 ι2 e2 s2 r2 k2 => ?_)
  have er2 := er1.mv s1 e2
  refine qi ζ ι2 ρ h2 σ H2 _ er2 s2 (Ks.bind k2 er2 s2 fun w h3 z H3 ι3 e3 s3 r3 k3 => ?_)
  have er3 := er2.mv s2 e3
  have r1' := (r1.mv s1 e2).mv s2 e3
  have r2' := r2.mv s2 e3
  split at k3
  · rename_i dx j kk
    split at k3
    · rename_i ds em
      split at k3
      · rename_i jj ej
        cases r1' with
        | d r1' =>
          cases r2' with
          | @r a _ q =>
            cases r3.int
            have zz := s3.at_ j a _ q em
            cases zz with
            | @lst zs _ z1 z2 =>
              refine ⟨a, _, kk, jj, rfl, rfl, z1, by rw [z2.length]; exact ej, ?_⟩
              have mv := s3.storeMv (.lst (zs.set jj x)) q
              obtain ⟨s4, e4⟩ := s3.store (m := .lst (ds.set jj dx)) q (.lst upd_same ((z2.set r1' jj).mv mv))
              exact (k3.mv e4).nx s4 (er3.mv s3 e4)
      · exact k3.elim
    · exact k3.elim
  · exact k3.elim⟩
end
end DL

set_option Elab.async false
set_option linter.all false
set_option maxRecDepth 100000
set_option maxHeartbeats 4000000
namespace DL
open PySem PySem.Spec PyProof.Rows L2
/-! ### tuple * int, the rest: none, once -/
theorem tup_none (l : Addr) (items : Array Value) (n : Nat) (dd : Option Addr) (sl : Array (Option Value)) (x : Int) (u : Tok) (c0 : (decide (x < -(2 ^ 63)) || decide (x ≥ 2 ^ 63)) = false) (c1 : (items.isEmpty || x == 1) = false) (c2 : (decide (x ≤ 0) || items.isEmpty) = true) :
    Meets (Builtin.«tuple.__mul__» ⟨[.ref l, .int x u], []⟩) (fun _ R s => s.heap.get? l = some { cls := .type "tuple", dict := dd, data := .seq items n, slots := sl } ∧
      R (.ok (.ret (Value.ref s.heap.objs.size))) { s with heap := s.heap.push { cls := Value.type "tuple", data := Data.seq #[] }, toks := s.toks }) :=
  .of_wp fun prog w A R s h => by
    obtain ⟨hp, g, d, tk, os⟩ := s
    obtain ⟨hl, h⟩ := h
    have f1 := AutoSeq1.idx_int
    wp_walk using wpAny_loadPart' hl
    repeat (first
      | (refine wpAny_ite_false (decide_eq_false (by rw [c0]; exact Bool.false_ne_true)) ?_; wp_walk using wpAny_loadPart' hl)
      | (refine wpAny_ite_false (decide_eq_false (by rw [c1]; exact Bool.false_ne_true)) ?_; wp_walk using wpAny_loadPart' hl)
      | (refine wpAny_ite_true (decide_eq_true c2) ?_; wp_walk using wpAny_loadPart' hl))
    exact ⟨_, rfl, h⟩
theorem tup_once (l : Addr) (items : Array Value) (n : Nat) (dd : Option Addr) (sl : Array (Option Value)) (x : Int) (u : Tok) (c0 : (decide (x < -(2 ^ 63)) || decide (x ≥ 2 ^ 63)) = false) (c1 : (items.isEmpty || x == 1) = true) :
    Meets (Builtin.«tuple.__mul__» ⟨[.ref l, .int x u], []⟩) (fun _ R s => s.heap.get? l = some { cls := .type "tuple", dict := dd, data := .seq items n, slots := sl } ∧
      R (.ok (.ret (Value.ref l))) s) :=
  .of_wp fun prog w A R s h => by
    obtain ⟨hp, g, d, tk, os⟩ := s
    obtain ⟨hl, h⟩ := h
    have f1 := AutoSeq1.idx_int
    wp_walk using wpAny_loadPart' hl
    repeat (first
      | (refine wpAny_ite_false (decide_eq_false (by rw [c0]; exact Bool.false_ne_true)) ?_; wp_walk using wpAny_loadPart' hl)
      | (refine wpAny_ite_true (decide_eq_true c1) ?_; wp_walk using wpAny_loadPart' hl))
    exact ⟨_, rfl, h⟩
def rRepF (K : PySem.W.Frag) : R2 := fun x y H Q => ∃ l k xs, x = .ref l ∧ y = .int k ∧ SqT K H l xs ∧ -(2 ^ 63) ≤ k ∧ ((xs ≠ [] ∧ k ≤ 0 ∧ ∀ p, H p = none → Q (.ref p) (upd H p (.tup []))) ∨ ((xs = [] ∨ k = 1) ∧ k < 2 ^ 63 ∧ Q (.ref l) H))
theorem op_repF {X : Cx} : OpR X (binaryOp .Mult) (rRepF X.K) := by
  intro pins s σ H x y v u Q I rx ry h
  obtain ⟨l, k, xs, rfl, rfl, hT, h1, h⟩ := h
  cases rx
  obtain ⟨t, rfl⟩ := ry
  obtain ⟨its, r, ⟨⟨cls, dd, data, sl⟩, ho, hc, n, hd⟩, hs⟩ := I.tuple hT
  simp only at hc hd
  subst hc hd
  rcases h with ⟨hne, h2, q⟩ | ⟨h2, h3, q⟩
  · have some_ : its.toArray.isEmpty = false := by
      cases its with
      | nil => cases xs with
        | nil => exact absurd rfl hne
        | cons _ _ => cases r
      | cons a b => rfl
    have c0 : (decide (k < -(2 ^ 63)) || decide (k ≥ 2 ^ 63)) = false := by rw [decide_eq_false (by omega), decide_eq_false (by omega)]; rfl
    have c1 : (its.toArray.isEmpty || k == 1) = false := by
      rw [some_, Bool.false_or]
      exact beq_eq_false_iff_ne.mpr (by omega)
    have c2 : (decide (k ≤ 0) || its.toArray.isEmpty) = true := by rw [decide_eq_true h2]; rfl
    refine wpAny_binaryOp_repeat_ref (T := "tuple") (U := "int") (by decide) ⟨_, ho, rfl⟩ (fun s' => typeIs_int s' k t) noFill_tuple_mul F.fills_int_mul F.slot_int_rmul repeat_tuple F.slot_int_index.lookup
      (call_meets F.slot_int_rmul (typeIs_int s k t) F.entry_int_rmul (F.args_int_rmul_2 _ _) (int_rmul_tuple k t l its.toArray n dd sl) ⟨ho, rfl, ⟨_, ho, rfl⟩, call_meets F.slot_tuple_mul ⟨_, ho, rfl⟩ F.entry_tuple_mul (F.args_tuple_mul_2 _ _) (tup_none l its.toArray n dd sl k t c0 c1 c2) ⟨ho, ?_⟩⟩)
    refine ⟨.ref s.heap.objs.size, _, I.laid (t' := s.toks) (o := .tup []) (fun b ob z => Heap.get?_push_of_some _ z) (Nat.le_refl _) ?_, rfl, q _ (I.hok.fresh (Nat.le_refl _))⟩
    exact ⟨Nat.zero_le _, [], .nil, IsTup.new _ _⟩
  · have c0 : (decide (k < -(2 ^ 63)) || decide (k ≥ 2 ^ 63)) = false := by rw [decide_eq_false (by omega), decide_eq_false (by omega)]; rfl
    have c1 : (its.toArray.isEmpty || k == 1) = true := by
      rcases h2 with rfl | rfl
      · cases r
        rfl
      · simp
    refine wpAny_binaryOp_repeat_ref (T := "tuple") (U := "int") (by decide) ⟨_, ho, rfl⟩ (fun s' => typeIs_int s' k t) noFill_tuple_mul F.fills_int_mul F.slot_int_rmul repeat_tuple F.slot_int_index.lookup
      (call_meets F.slot_int_rmul (typeIs_int s k t) F.entry_int_rmul (F.args_int_rmul_2 _ _) (int_rmul_tuple k t l its.toArray n dd sl) ⟨ho, rfl, ⟨_, ho, rfl⟩, call_meets F.slot_tuple_mul ⟨_, ho, rfl⟩ F.entry_tuple_mul (F.args_tuple_mul_2 _ _) (tup_once l its.toArray n dd sl k t c0 c1) ⟨ho, ?_⟩⟩)
    exact ⟨.ref l, H, I, rfl, q⟩
end DL

set_option Elab.async false
set_option linter.all false
set_option maxRecDepth 100000
set_option maxHeartbeats 1000000
namespace DL
open PySem PySem.Spec PyProof.Rows L2

/-! ### data by operators -/
section
variable {K : PySem.W.Frag} {α : List Addr} {H : Hp} {v : V}
theorem RdV.int {i : Int} (r : RdV K α H v (.int i)) : v = .int i := by
  cases r with
  | imm r => cases r; rfl
theorem RdV.bool {b : Bool} (r : RdV K α H v (.bool b)) : v = .bl b := by
  cases r with
  | imm r => cases r; rfl
theorem RdV.str {x : Str} (r : RdV K α H v (.str x)) : v = .str x := by
  cases r with
  | imm r => cases r; rfl
theorem RdV.tup {ds : List D} (r : RdV K α H v (.tuple ds)) : ∃ a xs, v = .ref a ∧ SqT K H a xs ∧ RepAll K α H xs ds ∧ Rep K α H (.ref a) (.tuple ds) := by
  cases r with
  | imm r => cases r with
    | tup h ra => exact ⟨_, _, rfl, SqT.of h, ra, .tup h ra⟩
    | con h hc ra => exact ⟨_, _, rfl, h, ra, .con h hc ra⟩
theorem RdV.list {ds : List D} (r : RdV K α H v (.list ds)) : ∃ a xs, v = .ref a ∧ H a = some (.lst xs) ∧ RepAll K α H xs ds := by
  cases r with
  | imm r => cases r with
    | lst h n ra => exact ⟨_, _, rfl, h, ra⟩
  | lst h ra => exact ⟨_, _, rfl, h, ra⟩
end
/-! numbers -/
def dInt2 (g : Int → Int → Option D) : D → D → Option D := fun a b => match a, b with
  | .int i, .int j => g i j
  | _, _ => none
theorem dInt2_ok {g : Int → Int → Option D} {a b c : D} (h : dInt2 g a b = some c) : ∃ i j, a = .int i ∧ b = .int j ∧ g i j = some c := by
  unfold dInt2 at h
  split at h
  · exact ⟨_, _, rfl, rfl, h⟩
  · cases h
section
variable {X : Cx}
theorem od_int {r : R2} {g : Int → Int → Option D} (h : ∀ i j c, g i j = some c → ∀ H Q, (∀ z, (∀ (α : List Addr) (H' : Hp), Rep X.K α H' z c) → Q z H) → r (.int i) (.int j) H Q) : OpD X r (dInt2 g) := by
  intro α H x y a b c Q ap rx ry e k
  obtain ⟨i, j, rfl, rfl, e⟩ := dInt2_ok e
  cases rx.int
  cases ry.int
  exact h i j c e H Q fun z rz => k z H (fun _ _ h => h) (rz α H)
/-- the sign of a product's size is known -/
def CMulV (i j : Int) : Prop := i.natAbs.log2 + j.natAbs.log2 < 50000000
theorem CMulV.ok {i j : Int} (h : CMulV i j) : IntMulOk i j := by
  have b : ∀ x : Int, Builtin.Int.intBits x ≤ x.natAbs.log2 + 1 := fun x => by
    unfold Builtin.Int.intBits
    split <;> omega
  have h1 := b i
  have h2 := b j
  have h3 : i.natAbs.log2 + j.natAbs.log2 < 50000000 := h
  have e : bitsLine = 134217728 := by decide
  unfold IntMulOk
  intro z
  rw [Bool.and_eq_true] at z
  have z2 := z.2
  unfold Builtin.Int.intTooBig at z2
  have z3 := of_decide_eq_true z2
  rw [e] at z3
  omega
theorem op_mulV : OpR X (binaryOp .Mult) (rI CMulV fun i j => .int (i * j)) := opI fun _ _ _ _ _ _ _ hc q => mul_int q hc.ok
def mulOk (i j : Int) : Bool := decide (i.natAbs.log2 + j.natAbs.log2 < 50000000)
def gMul (i j : Int) : Option D := if mulOk i j = true then some (.int (i * j)) else none
def gSub (i j : Int) : Option D := some (.int (i - j))
def gFdiv (i j : Int) : Option D := if 0 < j ∧ j.natAbs.log2 < 9000 then some (.int (i / j)) else none
def gFdivN (i j : Int) : Option D := if j ≠ 0 ∧ j.natAbs.log2 < 9000 then some (.int (i.fdiv j)) else none
def gMod (i j : Int) : Option D := if j ≠ 0 then some (.int (i.fmod j)) else none
def CPowW (i j : Int) : Prop := 0 ≤ j ∧ ((j ≤ 1000000 ∧ i.natAbs < 2 ^ 64) ∨ (j ≤ 1000 ∧ i.natAbs.log2 < 100000))
instance (i j : Int) : Decidable (CPowW i j) := by unfold CPowW; exact inferInstance
def gPow (i j : Int) : Option D := if CPowW i j then some (.int (i ^ j.toNat)) else none
theorem gPow_small {i j : Int} (h0 : 0 ≤ j) (h1 : j ≤ 1000) (h2 : i.natAbs.log2 < 100000) : gPow i j = some (.int (i ^ j.toNat)) := if_pos ⟨h0, .inr ⟨h1, h2⟩⟩
def gCmp (p : Int → Int → Bool) (i j : Int) : Option D := some (.bool (p i j))
theorem op_fdivNW : OpR X (binaryOp .FloorDiv) (rI (fun _ j => j ≠ 0 ∧ j.natAbs.log2 < 9000) fun i j => .int (i.fdiv j)) := opI fun i j _ _ _ _ _ hc q => floordiv_int hc.1 q (.inl (PyProof.noPylong_of_log2 hc.2))
theorem od_sub : OpD X (rI0 fun i j => .int (i - j)) (dInt2 gSub) := od_int fun i j c e H Q k => by
  cases e
  exact ⟨i, j, rfl, rfl, k _ fun _ _ => .int _⟩
theorem od_fdiv : OpD X (rI (fun _ j => j ≠ 0 ∧ j.natAbs.log2 < 9000) fun i j => .int (i.fdiv j)) (dInt2 gFdivN) := od_int fun i j c e H Q k => by
  unfold gFdivN at e
  split at e
  · rename_i h
    cases e
    exact ⟨i, j, rfl, rfl, h, k _ fun _ _ => .int _⟩
  · cases e
theorem od_mod : OpD X (rI (fun _ j => j ≠ 0) fun i j => .int (i.fmod j)) (dInt2 gMod) := od_int fun i j c e H Q k => by
  unfold gMod at e
  split at e
  · rename_i h
    cases e
    exact ⟨i, j, rfl, rfl, h, k _ fun _ _ => .int _⟩
  · cases e
theorem op_powW : OpR X (binaryOp .Pow) (rI CPowW fun i j => .int (i ^ j.toNat)) := opI fun i j _ _ _ _ _ hc q => pow_int hc.1 (by
  obtain ⟨h0, ⟨h1, h2⟩ | ⟨h1, h2⟩⟩ := hc
  · exact bits_mul_le h2 h0 h1
  · have hb : Builtin.Int.intBits i ≤ 100000 := by
      unfold Builtin.Int.intBits
      split <;> omega
    have h3 : (Builtin.Int.intBits i : Int) * j ≤ 100000 * j := Int.mul_le_mul_of_nonneg_right (by omega) h0
    omega) q
theorem od_pow : OpD X (rI CPowW fun i j => .int (i ^ j.toNat)) (dInt2 gPow) := od_int fun i j c e H Q k => by
  unfold gPow at e
  split at e
  · rename_i h
    cases e
    exact ⟨i, j, rfl, rfl, h, k _ fun _ _ => .int _⟩
  · cases e
theorem od_cmp {p : Int → Int → Bool} : OpD X (rI0 fun i j => .bl (p i j)) (dInt2 (gCmp p)) := od_int fun i j c e H Q k => by
  cases e
  exact ⟨i, j, rfl, rfl, k _ fun _ _ => .bl _⟩
/-! + : ints, texts, tuples, lists -/
def dAdd : D → D → Option D
  | .int i, .int j => some (.int (i + j))
  | .str x, .str y => if x.length + y.length ≤ sizeLine then some (.str (x ++ y)) else none
  | .tuple xs, .tuple ys => if xs.length + ys.length ≤ sizeLine then some (.tuple (xs ++ ys)) else none
  | .list xs, .list ys => if xs.length + ys.length ≤ sizeLine then some (.list (xs ++ ys)) else none
  | _, _ => none
def rAddD (K : PySem.W.Frag) : R2 := fun x y H Q => rI0 (fun i j => .int (i + j)) x y H Q ∨ (∃ i j, x = .str i ∧ y = .str j ∧ i.length + j.length ≤ sizeLine ∧ Q (.str (i ++ j)) H) ∨ rCatA K x y H Q ∨ rCat x y H Q
theorem op_addD : OpR X (binaryOp .Add) (rAddD X.K) := op_add.or (op_add_str.or (op_catA.or op_cat))
theorem od_add : OpD X (rAddD X.K) dAdd := by
  intro α H x y a b c Q ap rx ry e k
  unfold dAdd at e
  split at e
  · cases e
    cases rx.int
    cases ry.int
    exact .inl ⟨_, _, rfl, rfl, k _ H (fun _ _ h => h) (.int _)⟩
  · split at e
    · cases e
      cases rx.str
      cases ry.str
      exact .inr (.inl ⟨_, _, rfl, rfl, by assumption, k _ H (fun _ _ h => h) (.str _)⟩)
    · cases e
  · split at e
    · rename_i xs ys hl
      cases e
      obtain ⟨p, us, rfl, hp, ra, rt⟩ := rx.tup
      obtain ⟨q, vs, rfl, hq, rb, ru⟩ := ry.tup
      refine .inr (.inr (.inl ⟨p, q, us, vs, rfl, rfl, hp, hq, by rw [ra.length, rb.length]; exact hl, fun e0 => ?_, fun _ e1 => ?_, fun _ _ r hr => ?_⟩))
      · subst e0
        cases ra
        exact k _ H (fun _ _ h => h) ru
      · subst e1
        cases rb
        rw [List.append_nil] at k
        exact k _ H (fun _ _ h => h) rt
      · exact k _ _ (same_new hr) (.tup upd_same ((ra.app rb).same ap (same_new hr)))
    · cases e
  · split at e
    · rename_i xs ys hl
      cases e
      obtain ⟨p, us, rfl, hp, ra⟩ := rx.list
      obtain ⟨q, vs, rfl, hq, rb⟩ := ry.list
      exact .inr (.inr (.inr ⟨p, q, us, vs, rfl, rfl, hp, hq, by rw [ra.length, rb.length]; exact hl, fun r hr => k _ _ (same_new hr) (.lst upd_same (ap.fresh hr) ((ra.app rb).same ap (same_new hr)))⟩))
    · cases e
  · cases e
/-! * : ints, a list or a tuple and an int -/
def dMul : D → D → Option D
  | .int i, .int j => if mulOk i j = true then some (.int (i * j)) else none
  | .list xs, .int k => if k.natAbs.log2 < 63 ∧ xs.length * k.toNat ≤ sizeLine then some (.list (List.replicate k.toNat xs).flatten) else none
  | .tuple xs, .int k => if k.natAbs.log2 < 63 ∧ k ≤ 1000 ∧ xs.length ≤ 1000 then some (.tuple (List.replicate k.toNat xs).flatten) else none
  | _, _ => none
def rMulD (K : PySem.W.Frag) : R2 := fun x y H Q => rI CMulV (fun i j => .int (i * j)) x y H Q ∨ rRep x y H Q ∨ rRepT K x y H Q ∨ rRepF K x y H Q
theorem op_mulD : OpR X (binaryOp .Mult) (rMulD X.K) := op_mulV.or (op_rep.or (op_repT.or op_repF))
theorem RepAll.rep {K : PySem.W.Frag} {α : List Addr} {H : Hp} {vs : List V} {ds : List D} (r : RepAll K α H vs ds) : ∀ n : Nat, RepAll K α H (List.replicate n vs).flatten (List.replicate n ds).flatten
  | 0 => .nil
  | n + 1 => by
    rw [List.replicate_succ, List.replicate_succ, List.flatten_cons, List.flatten_cons]
    exact r.app (RepAll.rep r n)
theorem od_mul : OpD X (rMulD X.K) dMul := by
  intro α H x y a b c Q ap rx ry e k
  unfold dMul at e
  split at e
  · split at e
    · rename_i h
      cases e
      cases rx.int
      cases ry.int
      exact .inl ⟨_, _, rfl, rfl, (show _ + _ < 50000000 from of_decide_eq_true h), k _ H (fun _ _ h => h) (.int _)⟩
    · cases e
  · split at e
    · rename_i h
      cases e
      obtain ⟨p, us, rfl, hp, ra⟩ := rx.list
      cases ry.int
      have hb := log2_lt h.1
      exact .inr (.inl ⟨p, _, us, rfl, rfl, hp, by omega, by omega, by rw [ra.length]; exact h.2, fun r hr => k _ _ (same_new hr) (.lst upd_same (ap.fresh hr) ((ra.rep _).same ap (same_new hr)))⟩)
    · cases e
  · rename_i xs kk
    split at e
    · rename_i h
      cases e
      obtain ⟨p, us, rfl, hp, ra, rt⟩ := rx.tup
      cases ry.int
      have hb := log2_lt h.1
      have elen := ra.length
      have enil : us = [] → xs = [] := fun z => List.eq_nil_of_length_eq_zero (by rw [← elen, z]; rfl)
      have eall : ∀ m : Nat, xs = [] → (List.replicate m xs).flatten = [] := fun m z => by rw [z]; simp
      by_cases hu : us = []
      · refine .inr (.inr (.inr ⟨p, _, us, rfl, rfl, hp, by omega, .inr ⟨.inl hu, by omega, ?_⟩⟩))
        have z := eall kk.toNat (enil hu)
        rw [z] at k
        rw [enil hu] at rt
        exact k _ H (fun _ _ h => h) rt
      · by_cases h1 : kk = 1
        · subst h1
          refine .inr (.inr (.inr ⟨p, _, us, rfl, rfl, hp, by omega, .inr ⟨.inr rfl, by omega, ?_⟩⟩))
          have z : (List.replicate (1 : Int).toNat xs).flatten = xs := by simp
          rw [z] at k
          exact k _ H (fun _ _ h => h) rt
        · by_cases h0 : kk ≤ 0
          · refine .inr (.inr (.inr ⟨p, _, us, rfl, rfl, hp, by omega, .inl ⟨hu, h0, fun r hr => ?_⟩⟩))
            have z : (List.replicate kk.toNat xs).flatten = [] := by rw [show kk.toNat = 0 by omega]; rfl
            rw [z] at k
            exact k _ _ (same_new hr) (.tup upd_same .nil)
          · exact .inr (.inr (.inl ⟨p, _, us, rfl, rfl, hp, hu, by omega, h.2.1, by rw [ra.length]; exact h.2.2, fun r hr => k _ _ (same_new hr) (.tup upd_same ((ra.rep _).same ap (same_new hr)))⟩))
    · cases e
  · cases e
def dNeg : D → Option D
  | .int i => some (.int (-i))
  | _ => none
theorem ud_neg : UnD X (rU fun i => .int (-i)) dNeg := by
  intro α H x a c Q ap rx e k
  unfold dNeg at e
  split at e
  · cases e
    cases rx.int
    exact ⟨_, rfl, k _ H (fun _ _ h => h) (.int _)⟩
  · cases e
/-! == and != -/
mutual
theorem Rep.dp {K : PySem.W.Frag} {α : List Addr} {H : Hp} : ∀ {d : D} {v : V}, Rep K α H v d → d.canLay0 = true → Dp K H v d
  | _, _, .non, _ => .non
  | _, _, .bl b, _ => .bl b
  | _, _, .int i, _ => .int i
  | _, _, .str x, _ => .str x
  | _, _, .lst r n a, h => .lst (SqL.of r) (RepAll.dp a (by simpa [PyData.canLay0] using h))
  | _, _, .tup r a, h => .tup (SqT.of r) (RepAll.dp a (by simpa [PyData.canLay0] using h))
  | _, _, .con r c a, h => .tup r (RepAll.dp a (by simpa [PyData.canLay0] using h))
  | _, _, .dK r n a, h => by simp [PyData.canLay0] at h
  | _, _, .dT r n a, h => by simp [PyData.canLay0] at h
theorem RepAll.dp {K : PySem.W.Frag} {α : List Addr} {H : Hp} : ∀ {ds : List D} {vs : List V}, RepAll K α H vs ds → PyData.canLayAll0 ds = true → DpAll K H vs ds
  | _, _, .nil, _ => .nil
  | _, _, .cons r t, h => by
    have h' := Bool.and_eq_true_iff.mp (show (_ && _) = true from by simpa [PyData.canLayAll0] using h)
    exact .cons (Rep.dp r h'.1) (RepAll.dp t h'.2)
end
def dEq (a b : D) : Option D := if SeqAt.shaped a = true ∧ SeqAt.shaped b = true then some (.bool (PyData.eqv a b)) else none
def dNe (a b : D) : Option D := if SeqAt.shaped a = true ∧ SeqAt.shaped b = true then some (.bool (!PyData.eqv a b)) else none
theorem od_eq : OpD X (rEqD X.K) dEq := by
  intro α H x y a b c Q ap rx ry e k
  unfold dEq at e
  split at e
  · rename_i h
    cases e
    exact ⟨a, b, rx.rep0.dp (SeqAt.canLay_of_shaped h.1), ry.rep0.dp (SeqAt.canLay_of_shaped h.2), h.1, h.2, k _ H (fun _ _ h => h) (.bl _)⟩
  · cases e
theorem od_ne : OpD X (rNeD X.K) dNe := by
  intro α H x y a b c Q ap rx ry e k
  unfold dNe at e
  split at e
  · rename_i h
    cases e
    exact ⟨a, b, rx.rep0.dp (SeqAt.canLay_of_shaped h.1), ry.rep0.dp (SeqAt.canLay_of_shaped h.2), h.1, h.2, k _ H (fun _ _ h => h) (.bl _)⟩
  · cases e
/-! in, not in: a list of anything; a tuple of flat things -/
def flatD : D → Bool
  | .none => true
  | .bool _ => true
  | .int _ => true
  | .str _ => true
  | _ => false
def inD (x : D) (ys : List D) : Bool := ys.any fun y => PyData.eqv y x
def dIn (neg : Bool) : D → D → Option D := fun x y => match y with
  | .list ys => if SeqAt.shaped x = true ∧ SeqAt.shaped (.list ys) = true then some (.bool (if neg then !inD x ys else inD x ys)) else none
  | .tuple ys => if flatD x = true ∧ ys.all flatD = true then some (.bool (if neg then !inD x ys else inD x ys)) else none
  | _ => none
theorem Rep.flat {K : PySem.W.Frag} {α : List Addr} {H : Hp} {v : V} {d : D} (r : Rep K α H v d) (h : flatD d = true) : flatV v = true := by
  cases r <;> first | rfl | cases h
theorem RdV.flat {K : PySem.W.Frag} {α : List Addr} {H : Hp} {v : V} {d : D} (r : RdV K α H v d) (h : flatD d = true) : flatV v = true := by
  cases r with
  | imm r => exact r.flat h
  | lst => cases h
  | dK => cases h
  | dT => cases h
theorem RepAll.flat {K : PySem.W.Frag} {α : List Addr} {H : Hp} : ∀ {vs : List V} {ds : List D}, RepAll K α H vs ds → ds.all flatD = true → vs.all flatV = true
  | _, _, .nil, _ => rfl
  | _, _, .cons r t, h => by
    rw [List.all_cons, Bool.and_eq_true] at h ⊢
    exact ⟨r.flat h.1, RepAll.flat t h.2⟩
theorem eqV_eqv {K : PySem.W.Frag} {α β : List Addr} {H : Hp} {v w : V} {d e : D} (r : Rep K α H v d) (q : Rep K β H w e) (h : flatD d = true) (h' : flatD e = true) : eqV v w = PyData.eqv d e := by
  cases r <;> first | (simp [flatD] at h; done) | (cases q <;> first | (simp [flatD] at h'; done) | simp [eqV, PyData.eqv])
theorem inV_inD {K : PySem.W.Frag} {α β : List Addr} {H : Hp} {v : V} {d : D} (r : Rep K β H v d) (h : flatD d = true) : ∀ {vs : List V} {ds : List D}, RepAll K α H vs ds → ds.all flatD = true → inV v vs = inD d ds
  | _, _, .nil, _ => rfl
  | _, _, .cons q t, hh => by
    rw [List.all_cons, Bool.and_eq_true] at hh
    have := inV_inD r h t hh.2
    unfold inV inD at this ⊢
    rw [List.any_cons, List.any_cons, this, eqV_eqv q r hh.1 h]
def rInX (K : PySem.W.Frag) (neg : Bool) : R2 := fun x y H Q => rIn K neg x y H Q ∨ (if neg = true then rNotInD K x y H Q else rInD K x y H Q)
theorem op_inX (hu : X.A.units + 65 < cLine) : OpR X (compareOp .In) (rInX X.K false) := op_in_seq.or (op_inD hu)
theorem op_notInX (hu : X.A.units + 65 < cLine) : OpR X (compareOp .NotIn) (rInX X.K true) := op_notIn_seq.or (op_notInD hu)
theorem od_in (neg : Bool) : OpD X (rInX X.K neg) (dIn neg) := by
  intro α H x y a b c Q ap rx ry e k
  unfold dIn at e
  split at e
  · rename_i ys
    split at e
    · rename_i h
      cases e
      have h1 := rx.rep0.dp (SeqAt.canLay_of_shaped h.1)
      have h2 := ry.rep0.dp (SeqAt.canLay_of_shaped h.2)
      refine .inr ?_
      cases neg with
      | true => exact ⟨a, ys, h1, h2, h.1, h.2, k _ H (fun _ _ h => h) (.bl _)⟩
      | false => exact ⟨a, ys, h1, h2, h.1, h.2, k _ H (fun _ _ h => h) (.bl _)⟩
    · cases e
  · rename_i ys
    split at e
    · rename_i h
      cases e
      obtain ⟨p, us, rfl, hp, ra, rt⟩ := ry.tup
      refine .inl ⟨p, us, rfl, .inr hp, rx.flat h.1, ra.flat h.2, ?_⟩
      rw [inV_inD rx.rep0 h.1 ra h.2]
      exact k _ H (fun _ _ h => h) (.bl _)
    · cases e
  · cases e
/-! a subscript: also of the script -/
def vS : Val → Hs → Option D
  | .s ns, _ => some (.list (ns.map .int))
  | .c ns, _ => some (.tuple (ns.map .int))
  | u, h => vD u h
@[simp] theorem vS_d (x : D) (h : Hs) : vS (.d x) h = some x := rfl
def dIx : D → D → Option D := fun a b => match a, b with
  | .list xs, .int i => atI xs i
  | .tuple xs, .int i => atI xs i
  | .str z, .int i => if z.length ≤ sizeLine then (atI z.cps.toList i).map fun c => .str ⟨#[c]⟩ else none
  | _, _ => none
def eIx (fa fb : MV) : MV := fun ρ h => (fa ρ h).bind fun u h1 => (fb ρ h1).bind fun v h2 => match vS u h2, vD v h2 with
  | some a, some b => R.opt ((dIx a b).map .d) h2
  | _, _ => .no
theorem vS_ok {ζ ι : List Addr} {H : Hp} {hs : Hs} {v : V} {u : Val} {d : D} {K : PySem.W.Frag} (s : Sim K ζ ι H hs) (r : VRep K ζ ι H v u) (e : vS u hs = some d) : (∃ a xs ds, v = .ref a ∧ d = .list ds ∧ SqL K H a xs ∧ RepAll K (ζ ++ ι) H xs ds) ∨ ((∀ ds, d ≠ .list ds) ∧ (RdV K (ζ ++ ι) H v d ∨ ∃ a xs ds, v = .ref a ∧ d = .tuple ds ∧ SqT K H a xs ∧ RepAll K (ζ ++ ι) H xs ds)) := by
  have go : RdV K (ζ ++ ι) H v d → (∃ a xs ds, v = .ref a ∧ d = .list ds ∧ SqL K H a xs ∧ RepAll K (ζ ++ ι) H xs ds) ∨ ((∀ ds, d ≠ .list ds) ∧ (RdV K (ζ ++ ι) H v d ∨ ∃ a xs ds, v = .ref a ∧ d = .tuple ds ∧ SqT K H a xs ∧ RepAll K (ζ ++ ι) H xs ds)) := fun r => by
    by_cases hl : ∃ ds, d = .list ds
    · obtain ⟨ds, rfl⟩ := hl
      obtain ⟨a, xs, rfl, hx, ra⟩ := r.list
      exact .inl ⟨a, xs, ds, rfl, rfl, .of hx, ra⟩
    · exact .inr ⟨fun ds z => hl ⟨ds, z⟩, .inl r⟩
  cases u with
  | c ns =>
    cases e
    cases r with
    | @c a _ h => exact .inr ⟨fun ds z => (by cases z), .inr ⟨a, _, _, rfl, rfl, h H, RepAll.ints ns⟩⟩
  | s ns =>
    cases e
    cases r with
    | @s a _ h =>
      refine .inl ⟨a, _, _, rfl, rfl, ?_, RepAll.ints ns⟩
      rcases h with ⟨o, h⟩ | h
      · exact .inl (.inr ⟨o, h⟩)
      · exact h H
  | d x => exact go (vD_ok s r e)
  | r i => exact go (vD_ok s r e)
  | x c w => exact go (vD_ok s r e)
  | t ms => exact go (vD_ok s r e)
theorem RepAll.atI {K : PySem.W.Frag} {α : List Addr} {H : Hp} {vs : List V} {ds : List D} {i : Int} {d : D} (r : RepAll K α H vs ds) (e : L2.atI ds i = some d) : ∃ v, L2.atI vs i = some v ∧ Rep K α H v d := by
  unfold L2.atI at e ⊢
  rw [r.length]
  cases q : ixN ds.length i with
  | none => rw [q] at e; cases e
  | some j =>
    rw [q] at e
    exact r.get e
variable {e a b : Expr} {fa fb : MV} {pos : Pos}
theorem ee_ixS (ha : EE X a fa) (hb : EE X b fb) (hs : PlainIx b := by exact fun _ _ => rfl) : EE X (.Subscript a b pos) (eIx fa fb) := ⟨fun W tk => by
  obtain ⟨ta, pa, qa⟩ := ha.run W tk
  obtain ⟨tb, pb, qb⟩ := hb.run W tk
  refine ⟨_, pe_ix ix_seq pa pb hs, fun ζ ι ρ hs σ H Q er s k => ?_⟩
  refine qa ζ ι ρ hs σ H _ er s (Kt.bind k fun u h1 x H1 ι1 e1 s1 r1 k1 => ?_)
  refine qb ζ ι1 ρ h1 σ H1 _ (er.mv s e1) s1 (Kt.bind k1 fun v h2 y H2 ι2 e2 s2 r2 k2 => ?_)
  split at k2
  · rename_i da db ea eb
    obtain ⟨c, ec, k3⟩ := k2.opt
    cases hg : dIx da db with
    | none => rw [hg] at ec; cases ec
    | some c' =>
      rw [hg] at ec
      cases ec
      unfold dIx at hg
      split at hg
      · cases (vD_ok s2 r2 eb).int
        rcases vS_ok s2 (r1.mv s1 e2) ea with ⟨p, xs, ds, rfl, ed, hq, ra⟩ | ⟨n, _⟩
        · cases ed
          obtain ⟨v, hv, rv⟩ := ra.atI hg
          exact .inl ⟨p, xs, _, v, rfl, rfl, hq, hv, k3.here s2 (fun _ _ h => h) (.d rv)⟩
        · exact absurd rfl (n _)
      · cases (vD_ok s2 r2 eb).int
        rcases vS_ok s2 (r1.mv s1 e2) ea with ⟨p, xs, ds, rfl, ed, hq, ra⟩ | ⟨n, r | ⟨p, xs, ds, rfl, ed, hq, ra⟩⟩
        · cases ed
        · obtain ⟨p, xs, rfl, hq, ra, rt⟩ := r.tup
          obtain ⟨v, hv, rv⟩ := ra.atI hg
          exact .inr (.inl ⟨p, xs, _, v, rfl, rfl, hq, hv, k3.here s2 (fun _ _ h => h) (.d rv)⟩)
        · cases ed
          obtain ⟨v, hv, rv⟩ := ra.atI hg
          exact .inr (.inl ⟨p, xs, _, v, rfl, rfl, hq, hv, k3.here s2 (fun _ _ h => h) (.d rv)⟩)
      · cases (vD_ok s2 r2 eb).int
        rcases vS_ok s2 (r1.mv s1 e2) ea with ⟨p, xs, ds, rfl, ed, hq, ra⟩ | ⟨n, r | ⟨p, xs, ds, rfl, ed, hq, ra⟩⟩
        · cases ed
        rotate_left
        · cases ed
        · cases r.str
          split at hg
          · rename_i hl
            cases hc : L2.atI (Str.cps _).toList _ with
            | none => rw [hc] at hg; cases hg
            | some c =>
              rw [hc] at hg
              cases hg
              exact .inr (.inr ⟨_, _, c, rfl, rfl, hl, hc, k3.here s2 (fun _ _ h => h) (.d (.str _))⟩)
          · cases hg
      · cases hg
  · exact k2.elim⟩
/-! a slice -/
def oNone : Env → Hs → R (Option Int) := fun _ h => .ok none h
def oSome (f : MV) : Env → Hs → R (Option Int) := fun ρ h => (f ρ h).bind fun u h1 => match u with
  | .d (.int i) => .ok (some i) h1
  | _ => .no
structure EO (X : Cx) (e : Option Expr) (f : Env → Hs → R (Option Int)) : Prop where
  run : ∀ W : WX, Takes X W → ∃ t, PO X e t ∧ ∀ (ζ ι : List Addr) (ρ : Env) (hs : Hs) (σ : L2.St) (H : Hp) (Q : Option Int → Hp → Prop), ERep X.K ζ ι H σ ρ → Sim X.K ζ ι H hs → Kt X.K ζ (fun _ _ b b' => b = b') ι H (f ρ hs) Q (WE W σ) → t σ H Q
theorem eo_none : EO X none oNone := ⟨fun W tk => ⟨_, po_none, fun ζ ι ρ hs σ H Q er s k => k.here s (fun _ _ h => h) rfl⟩⟩
theorem eo_some (ha : EE X a fa) : EO X (some a) (oSome fa) := ⟨fun W tk => by
  obtain ⟨ta, pa, qa⟩ := ha.run W tk
  refine ⟨_, po_some pa, fun ζ ι ρ hs σ H Q er s k => ?_⟩
  refine qa ζ ι ρ hs σ H _ er s (Kt.bind k fun u h1 x H1 ι1 e1 s1 r1 k1 => ?_)
  split at k1
  · cases r1.int
    exact ⟨_, rfl, k1.here s1 (fun _ _ h => h) rfl⟩
  · exact k1.elim⟩
def cutD (xs : List D) (lo hi : Option Int) : List D := (xs.drop (HT.sIx xs.length 0 lo)).take (HT.sIx xs.length xs.length hi - HT.sIx xs.length 0 lo)
def dSl (a : D) (lo hi : Option Int) : Option D := match a with
  | .list xs => some (.list (cutD xs lo hi))
  | .tuple xs => some (.tuple (cutD xs lo hi))
  | .str z => if z.length ≤ sizeLine then some (.str (cutS z lo hi)) else none
  | _ => none
def eSl (fa : MV) (fl fh : Env → Hs → R (Option Int)) : MV := fun ρ h => (fa ρ h).bind fun u h1 => (fl ρ h1).bind fun lo h2 => (fh ρ h2).bind fun hi h3 => match vD u h3 with
  | some a => R.opt ((dSl a lo hi).map .d) h3
  | none => .no
theorem RepAll.cut {K : PySem.W.Frag} {α : List Addr} {H : Hp} {vs : List V} {ds : List D} (r : RepAll K α H vs ds) (lo hi : Option Int) : RepAll K α H (cutV vs lo hi) (cutD ds lo hi) := by
  unfold cutV cutD
  rw [r.length]
  exact (r.drop _).take _
def rSlD (K : PySem.W.Frag) : V → Option Int → Option Int → Hp → VK → Prop := fun x lo hi H Q => rSlL K x lo hi H Q ∨ rSlA K x lo hi H Q ∨ ∃ z, x = .str z ∧ z.length ≤ sizeLine ∧ Q (.str (cutS z lo hi)) H
theorem sl_all : SlR X (rSlD X.K) := sl_list.or (sl_tupA.or sl_str)
theorem ee_sl {lo hi : Option Expr} {fl fh : Env → Hs → R (Option Int)} {p2 : Pos} (ha : EE X a fa) (hl : EO X lo fl) (hh : EO X hi fh) : EE X (.Subscript a (.Slice lo hi none p2) pos) (eSl fa fl fh) := ⟨fun W tk => by
  obtain ⟨ta, pa, qa⟩ := ha.run W tk
  obtain ⟨tl, pl, ql⟩ := hl.run W tk
  obtain ⟨th, ph, qh⟩ := hh.run W tk
  refine ⟨_, pe_slice sl_all pa pl ph, fun ζ ι ρ hs σ H Q er s k => ?_⟩
  refine qa ζ ι ρ hs σ H _ er s (Kt.bind k fun u h1 x H1 ι1 e1 s1 r1 k1 => ?_)
  have er1 := er.mv s e1
  refine ql ζ ι1 ρ h1 σ H1 _ er1 s1 (Kt.bind k1 fun l h2 l' H2 ι2 e2 s2 r2 k2 => ?_)
  subst r2
  refine qh ζ ι2 ρ h2 σ H2 _ (er1.mv s1 e2) s2 (Kt.bind k2 fun m h3 m' H3 ι3 e3 s3 r3 k3 => ?_)
  subst r3
  split at k3
  · rename_i da ea
    have rx := vD_ok s3 ((r1.mv s1 e2).mv s2 e3) ea
    obtain ⟨c, ec, k3⟩ := k3.opt
    unfold dSl at ec
    split at ec
    · cases ec
      obtain ⟨p, us, rfl, hp, ra⟩ := rx.list
      exact .inl ⟨p, us, rfl, .of hp, fun r hr => k3.here s3 (same_new hr) (.d (.lst upd_same (s3.fresh hr) ((ra.cut _ _).same s3.apA (same_new hr))))⟩
    · rename_i xs
      cases ec
      obtain ⟨p, us, rfl, hp, ra, rt⟩ := rx.tup
      refine .inr (.inl ⟨p, us, rfl, hp, fun hw => ?_, fun _ r hr => ?_⟩)
      · have e0 : cutV us l' m' = us := by
          unfold cutV
          rw [hw.1, hw.2, List.drop_zero, Nat.sub_zero, List.take_length]
        have e2 : cutD xs l' m' = xs := by
          unfold cutD
          rw [← ra.length, hw.1, hw.2, List.drop_zero, Nat.sub_zero, ra.length, List.take_length]
        rw [e2] at k3
        exact k3.here s3 (fun _ _ h => h) (.d rt)
      · exact k3.here s3 (same_new hr) (.d (.tup upd_same ((ra.cut _ _).same s3.apA (same_new hr))))
    · split at ec
      · rename_i z hz
        cases ec
        cases rx.str
        exact .inr (.inr ⟨_, rfl, hz, k3.here s3 (fun _ _ h => h) (.d (.str _))⟩)
      · cases ec
    · cases ec
  · exact k3.elim⟩
/-! built-ins -/
def d1 (g : D → Option D) : List D → Option D
  | [a] => g a
  | _ => none
def d2 (g : D → D → Option D) : List D → Option D
  | [a, b] => g a b
  | _ => none
theorem d1_ok {g : D → Option D} {ds : List D} {c : D} (h : d1 g ds = some c) : ∃ a, ds = [a] ∧ g a = some c := by
  unfold d1 at h
  split at h
  · exact ⟨_, rfl, h⟩
  · cases h
theorem d2_ok {g : D → D → Option D} {ds : List D} {c : D} (h : d2 g ds = some c) : ∃ a b, ds = [a, b] ∧ g a b = some c := by
  unfold d2 at h
  split at h
  · exact ⟨_, _, rfl, h⟩
  · cases h
theorem RdVs.one {K : PySem.W.Frag} {α : List Addr} {H : Hp} {vs : List V} {a : D} (r : RdVs K α H vs [a]) : ∃ v, vs = [v] ∧ RdV K α H v a := by
  cases r with
  | cons r t => cases t; exact ⟨_, rfl, r⟩
theorem RdVs.two {K : PySem.W.Frag} {α : List Addr} {H : Hp} {vs : List V} {a b : D} (r : RdVs K α H vs [a, b]) : ∃ v w, vs = [v, w] ∧ RdV K α H v a ∧ RdV K α H w b := by
  cases r with
  | cons r t => cases t with
    | cons q t => cases t; exact ⟨_, _, rfl, r, q⟩
theorem cd1 {r : List V → Hp → VK → Prop} {g : D → Option D} (h : ∀ (α : List Addr) (H : Hp) (v : V) (a c : D) (Q : VK), Ap α H → RdV X.K α H v a → g a = some c → (∀ z H', Same H H' → Rep X.K α H' z c → Q z H') → r [v] H Q) : CallD X r (d1 g) := by
  intro α H xs ds c Q ap rx e k
  obtain ⟨a, rfl, e⟩ := d1_ok e
  obtain ⟨v, rfl, r⟩ := rx.one
  exact h α H v a c Q ap r e k
theorem cd2 {r : List V → Hp → VK → Prop} {g : D → D → Option D} (h : ∀ (α : List Addr) (H : Hp) (v w : V) (a b c : D) (Q : VK), Ap α H → RdV X.K α H v a → RdV X.K α H w b → g a b = some c → (∀ z H', Same H H' → Rep X.K α H' z c → Q z H') → r [v, w] H Q) : CallD X r (d2 g) := by
  intro α H xs ds c Q ap rx e k
  obtain ⟨a, b, rfl, e⟩ := d2_ok e
  obtain ⟨v, w, rfl, r, q⟩ := rx.two
  exact h α H v w a b c Q ap r q e k
def dTuple : D → Option D
  | .list xs => some (.tuple xs)
  | .tuple xs => some (.tuple xs)
  | _ => none
theorem cd_tuple : CallD X (fun xs H Q => ∃ p ys, xs = [.ref p] ∧ ((SqL X.K H p ys ∧ ∀ l, H l = none → Q (.ref l) (upd H l (.tup ys))) ∨ (SqT X.K H p ys ∧ Q (.ref p) H))) (d1 dTuple) := cd1 fun α H v a c Q ap r e k => by
  unfold dTuple at e
  split at e
  · cases e
    obtain ⟨p, us, rfl, hp, ra⟩ := r.list
    exact ⟨p, us, rfl, .inl ⟨.of hp, fun l hl => k _ _ (same_new hl) (.tup upd_same (ra.same ap (same_new hl)))⟩⟩
  · cases e
    obtain ⟨p, us, rfl, hp, ra, rt⟩ := r.tup
    exact ⟨p, us, rfl, .inr ⟨hp, k _ H (fun _ _ h => h) rt⟩⟩
  · cases e
def dList : D → Option D
  | .list xs => some (.list xs)
  | .tuple xs => some (.list xs)
  | _ => none
theorem cd_list : CallD X (fun xs H Q => ∃ p ys, xs = [.ref p] ∧ (SqL X.K H p ys ∨ SqT X.K H p ys) ∧ ∀ l, H l = none → Q (.ref l) (upd H l (.lst ys))) (d1 dList) := cd1 fun α H v a c Q ap r e k => by
  unfold dList at e
  split at e
  · cases e
    obtain ⟨p, us, rfl, hp, ra⟩ := r.list
    exact ⟨p, us, rfl, .inl (.of hp), fun l hl => k _ _ (same_new hl) (.lst upd_same (ap.fresh hl) (ra.same ap (same_new hl)))⟩
  · cases e
    obtain ⟨p, us, rfl, hp, ra, rt⟩ := r.tup
    exact ⟨p, us, rfl, .inr hp, fun l hl => k _ _ (same_new hl) (.lst upd_same (ap.fresh hl) (ra.same ap (same_new hl)))⟩
  · cases e
def boolsOf : List D → Option (List Bool)
  | [] => some []
  | .bool b :: ds => (boolsOf ds).map (b :: ·)
  | _ :: _ => none
theorem boolsOf_ok {K : PySem.W.Frag} {α : List Addr} {H : Hp} : ∀ {vs : List V} {ds : List D} {bs : List Bool}, RepAll K α H vs ds → boolsOf ds = some bs → vs = bs.map V.bl
  | _, _, _, .nil, e => by cases e; rfl
  | _, _, _, .cons (d := d) r t, e => by
    cases d with
    | bool b =>
      simp only [boolsOf] at e
      cases q : boolsOf _ with
      | none => rw [q] at e; cases e
      | some bs =>
        rw [q] at e
        cases e
        cases r
        rw [boolsOf_ok t q]
        rfl
    | _ => cases e
def dAll : D → Option D
  | .list xs => (boolsOf xs).map fun bs => .bool (bs.all id)
  | _ => none
def dAny : D → Option D
  | .list xs => (boolsOf xs).map fun bs => .bool (bs.any id)
  | _ => none
theorem cd_all : CallD X (rAll X.K) (d1 dAll) := cd1 fun α H v a c Q ap r e k => by
  unfold dAll at e
  split at e
  · cases q : boolsOf _ with
    | none => rw [q] at e; cases e
    | some bs =>
      rw [q] at e
      cases e
      obtain ⟨p, us, rfl, hp, ra⟩ := r.list
      rw [boolsOf_ok ra q] at hp
      exact ⟨p, bs, rfl, .of hp, k _ H (fun _ _ h => h) (.bl _)⟩
  · cases e
theorem cd_any : CallD X (rAny X.K) (d1 dAny) := cd1 fun α H v a c Q ap r e k => by
  unfold dAny at e
  split at e
  · cases q : boolsOf _ with
    | none => rw [q] at e; cases e
    | some bs =>
      rw [q] at e
      cases e
      obtain ⟨p, us, rfl, hp, ra⟩ := r.list
      rw [boolsOf_ok ra q] at hp
      exact ⟨p, bs, rfl, .of hp, k _ H (fun _ _ h => h) (.bl _)⟩
  · cases e
def dInt : D → Option D
  | .int i => some (.int i)
  | .bool b => some (.int (if b then 1 else 0))
  | _ => none
theorem cd_int : CallD X (fun xs H Q => (∃ i, xs = [.int i] ∧ Q (.int i) H) ∨ ∃ k, xs = [.bl k] ∧ Q (.int (if k then 1 else 0)) H) (d1 dInt) := cd1 fun α H v a c Q ap r e k => by
  unfold dInt at e
  split at e
  · cases e
    cases r.int
    exact .inl ⟨_, rfl, k _ H (fun _ _ h => h) (.int _)⟩
  · cases e
    cases r.bool
    exact .inr ⟨_, rfl, k _ H (fun _ _ h => h) (.int _)⟩
  · cases e
def dAbs : D → Option D
  | .int i => some (.int (if i < 0 then -i else i))
  | _ => none
theorem cd_abs : CallD X (fun xs H Q => ∃ i, xs = [.int i] ∧ Q (.int (if i < 0 then -i else i)) H) (d1 dAbs) := cd1 fun α H v a c Q ap r e k => by
  unfold dAbs at e
  split at e
  · cases e
    cases r.int
    exact ⟨_, rfl, k _ H (fun _ _ h => h) (.int _)⟩
  · cases e
theorem cd_max2 : CallD X (fun xs H Q => ∃ i j, xs = [.int i, .int j] ∧ Q (.int (if j > i then j else i)) H) (d2 (dInt2 fun i j => some (.int (if j > i then j else i)))) := cd2 fun α H v w a b c Q ap r q e k => by
  obtain ⟨i, j, rfl, rfl, e⟩ := dInt2_ok e
  cases e
  cases r.int
  cases q.int
  exact ⟨i, j, rfl, k _ H (fun _ _ h => h) (.int _)⟩
theorem cd_min2 : CallD X (fun xs H Q => ∃ i j, xs = [.int i, .int j] ∧ Q (.int (if j < i then j else i)) H) (d2 (dInt2 fun i j => some (.int (if j < i then j else i)))) := cd2 fun α H v w a b c Q ap r q e k => by
  obtain ⟨i, j, rfl, rfl, e⟩ := dInt2_ok e
  cases e
  cases r.int
  cases q.int
  exact ⟨i, j, rfl, k _ H (fun _ _ h => h) (.int _)⟩
theorem cd_gcd : CallD X rGcd (d2 (dInt2 fun i j => some (.int ((Nat.gcd i.natAbs j.natAbs : Nat) : Int)))) := cd2 fun α H v w a b c Q ap r q e k => by
  obtain ⟨i, j, rfl, rfl, e⟩ := dInt2_ok e
  cases e
  cases r.int
  cases q.int
  exact ⟨i, j, rfl, k _ H (fun _ _ h => h) (.int _)⟩
/-- a module's name for a built-in -/
theorem ee_callFun {x : Str} {p : Pos} {es : List Expr} {fas : Env → Hs → R (List Val)} {g : List D → Option D} {r : List V → Hp → VK → Prop} {id : String} (hc : CallR X (.builtin id) r) (hd : CallD X r g) (hm : X.mg x = some (.builtin id)) (ha : EA X (e :: es) fas) (hg : Gl X x := by rfl) (hdb : (x == ("__debug__" : Str)) = false := by decide)
    (he : starEach (e :: es) X.env = (false, eval e X.env) :: starEach es X.env := by rfl) (hpl : (backTo pos (starEach es X.env)).any (·.1) = false := by rfl) : EE X (.Call (.Name x p) (e :: es) [] pos) (eCallB g fas) :=
  ee_tcb (fun pa => pe_callBfun hc hg hm pa hdb he hpl) hd ha
def intsOf : List D → Option (List Int)
  | [] => some []
  | .int b :: ds => (intsOf ds).map (b :: ·)
  | _ :: _ => none
theorem intsOf_ok {K : PySem.W.Frag} {α : List Addr} {H : Hp} : ∀ {vs : List V} {ds : List D} {bs : List Int}, RepAll K α H vs ds → intsOf ds = some bs → vs = bs.map V.int
  | _, _, _, .nil, e => by cases e; rfl
  | _, _, _, .cons (d := d) r t, e => by
    cases d with
    | int b =>
      simp only [intsOf] at e
      cases q : intsOf _ with
      | none => rw [q] at e; cases e
      | some bs =>
        rw [q] at e
        cases e
        cases r
        rw [intsOf_ok t q]
        rfl
    | _ => cases e
@[simp] theorem intsOf_map (ns : List Int) : intsOf (ns.map .int) = some ns := by
  induction ns with
  | nil => rfl
  | cons n ns ih => simp [intsOf, ih]
@[simp] theorem boolsOf_map (bs : List Bool) : boolsOf (bs.map .bool) = some bs := by
  induction bs with
  | nil => rfl
  | cons n ns ih => simp [boolsOf, ih]
def maxL (ns : List Int) : Int := ns.foldl (fun m n => if n > m then n else m) (ns.headD 0)
def minL (ns : List Int) : Int := ns.foldl (fun m n => if n < m then n else m) (ns.headD 0)
theorem foldmax_spec : ∀ (ns : List Int) (m : Int), (ns.foldl (fun m n => if n > m then n else m) m = m ∨ ns.foldl (fun m n => if n > m then n else m) m ∈ ns) ∧ m ≤ ns.foldl (fun m n => if n > m then n else m) m ∧ ∀ y ∈ ns, y ≤ ns.foldl (fun m n => if n > m then n else m) m
  | [], m => ⟨.inl rfl, Int.le_refl _, fun _ h => by cases h⟩
  | n :: ns, m => by
    obtain ⟨h1, h2, h3⟩ := foldmax_spec ns (if n > m then n else m)
    rw [List.foldl_cons]
    have a1 : m ≤ if n > m then n else m := by split <;> omega
    have a2 : n ≤ if n > m then n else m := by split <;> omega
    refine ⟨?_, by omega, fun y hy => ?_⟩
    · rcases h1 with h | h
      · rw [h]
        split
        · exact .inr List.mem_cons_self
        · exact .inl rfl
      · exact .inr (List.mem_cons_of_mem _ h)
    · rcases List.mem_cons.mp hy with e | e
      · rw [e]; omega
      · exact h3 y e
theorem foldmin_spec : ∀ (ns : List Int) (m : Int), (ns.foldl (fun m n => if n < m then n else m) m = m ∨ ns.foldl (fun m n => if n < m then n else m) m ∈ ns) ∧ ns.foldl (fun m n => if n < m then n else m) m ≤ m ∧ ∀ y ∈ ns, ns.foldl (fun m n => if n < m then n else m) m ≤ y
  | [], m => ⟨.inl rfl, Int.le_refl _, fun _ h => by cases h⟩
  | n :: ns, m => by
    obtain ⟨h1, h2, h3⟩ := foldmin_spec ns (if n < m then n else m)
    rw [List.foldl_cons]
    have a1 : (if n < m then n else m) ≤ m := by split <;> omega
    have a2 : (if n < m then n else m) ≤ n := by split <;> omega
    refine ⟨?_, by omega, fun y hy => ?_⟩
    · rcases h1 with h | h
      · rw [h]
        split
        · exact .inr List.mem_cons_self
        · exact .inl rfl
      · exact .inr (List.mem_cons_of_mem _ h)
    · rcases List.mem_cons.mp hy with e | e
      · rw [e]; omega
      · exact h3 y e
theorem maxL_spec {ns : List Int} (h : ns ≠ []) : maxL ns ∈ ns ∧ ∀ y ∈ ns, y ≤ maxL ns := by
  cases ns with
  | nil => exact absurd rfl h
  | cons n ns =>
    obtain ⟨h1, h2, h3⟩ := foldmax_spec (n :: ns) n
    refine ⟨?_, h3⟩
    rcases h1 with e | e
    · show List.foldl _ n (n :: ns) ∈ _
      rw [e]; exact List.mem_cons_self
    · exact e
theorem minL_spec {ns : List Int} (h : ns ≠ []) : minL ns ∈ ns ∧ ∀ y ∈ ns, minL ns ≤ y := by
  cases ns with
  | nil => exact absurd rfl h
  | cons n ns =>
    obtain ⟨h1, h2, h3⟩ := foldmin_spec (n :: ns) n
    refine ⟨?_, h3⟩
    rcases h1 with e | e
    · show List.foldl _ n (n :: ns) ∈ _
      rw [e]; exact List.mem_cons_self
    · exact e
def dMax : D → Option D
  | .list xs => (intsOf xs).bind fun ns => if ns = [] then none else some (.int (maxL ns))
  | _ => none
def dMin : D → Option D
  | .list xs => (intsOf xs).bind fun ns => if ns = [] then none else some (.int (minL ns))
  | _ => none
def dSum : D → Option D
  | .list xs => (intsOf xs).map fun ns => .int ns.sum
  | _ => none
theorem cd_max : CallD X (rMax X.K) (d1 dMax) := cd1 fun α H v a c Q ap r e k => by
  unfold dMax at e
  split at e
  · cases q : intsOf _ with
    | none => rw [q] at e; cases e
    | some ns =>
      rw [q] at e
      simp only [Option.bind_some] at e
      split at e
      · cases e
      · rename_i hn
        cases e
        obtain ⟨p, us, rfl, hp, ra⟩ := r.list
        rw [intsOf_ok ra q] at hp
        refine ⟨p, ns, rfl, .of hp, List.length_pos_iff.mpr hn, fun m hm hle => ?_⟩
        obtain ⟨h1, h2⟩ := maxL_spec hn
        have e : m = maxL ns := by
          have z1 := h2 m hm
          have z2 := hle _ h1
          omega
        subst e
        exact k _ H (fun _ _ h => h) (.int _)
  · cases e
theorem cd_min : CallD X (rMin X.K) (d1 dMin) := cd1 fun α H v a c Q ap r e k => by
  unfold dMin at e
  split at e
  · cases q : intsOf _ with
    | none => rw [q] at e; cases e
    | some ns =>
      rw [q] at e
      simp only [Option.bind_some] at e
      split at e
      · cases e
      · rename_i hn
        cases e
        obtain ⟨p, us, rfl, hp, ra⟩ := r.list
        rw [intsOf_ok ra q] at hp
        refine ⟨p, ns, rfl, .of hp, List.length_pos_iff.mpr hn, fun m hm hle => ?_⟩
        obtain ⟨h1, h2⟩ := minL_spec hn
        have e : m = minL ns := by
          have z1 := h2 m hm
          have z2 := hle _ h1
          omega
        subst e
        exact k _ H (fun _ _ h => h) (.int _)
  · cases e
theorem cd_sum : CallD X (rSum X.K) (d1 dSum) := cd1 fun α H v a c Q ap r e k => by
  unfold dSum at e
  split at e
  · cases q : intsOf _ with
    | none => rw [q] at e; cases e
    | some ns =>
      rw [q] at e
      cases e
      obtain ⟨p, us, rfl, hp, ra⟩ := r.list
      rw [intsOf_ok ra q] at hp
      exact ⟨p, ns, rfl, .of hp, k _ H (fun _ _ h => h) (.int _)⟩
  · cases e
end
end DL

set_option Elab.async false
set_option linter.all false
set_option maxRecDepth 100000
set_option maxHeartbeats 1000000
namespace DL
open PySem PySem.Spec PyProof.Rows L2
section
variable {X : Cx} {e a b c : Expr} {fa fb fc : MV} {pos : Pos}
/-! ### comparisons as tests -/
theorem Kt.bind2 {γ γ' : Type} {δ'' : Type} {K : PySem.W.Frag} {ζ ι : List Addr} {H : Hp} {rel : List Addr → Hp → δ'' → γ → Prop} {γ2 : Type} {r : R γ'} {k : γ' → Hs → R γ2} {k2 : γ2 → Hs → R γ} {Q : δ'' → Hp → Prop} {E : XK} (w : Kt K ζ rel ι H ((r.bind k).bind k2) Q E) : Kt K ζ rel ι H (r.bind fun a h => (k a h).bind k2) Q E := by
  cases r with
  | ok a h => exact w
  | ex c v h => exact w
  | no => exact w
theorem et_cmp {op : CmpOp} {r : R2} {g : D → D → Option D} (ho : OpR X (compareOp op) r) (hd : OpD X r g) (ha : EE X a fa) (hb : EE X b fb) (hm : behindInMarks op b = false := by first | exact nomark _ | rfl) : ET X (.Compare a [op] [b] pos) (tVal (eOp g fa fb)) := ⟨fun W tk => by
  obtain ⟨ta, pa, qa⟩ := ha.run W tk
  obtain ⟨tb, pb, qb⟩ := hb.run W tk
  refine ⟨_, pt_cmpR ho pa pb hm, fun ζ ι ρ hs σ H Q er s k => ?_⟩
  refine qa ζ ι ρ hs σ H _ er s (Kt.bind (Kt.bind2 k) fun u h1 x H1 ι1 e1 s1 r1 k1 => ?_)
  refine qb ζ ι1 ρ h1 σ H1 _ (er.mv s e1) s1 (Kt.bind (Kt.bind2 k1) fun v h2 y H2 ι2 e2 s2 r2 k2 => ?_)
  cases ea : vD u h2 with
  | none => simp only [ea] at k2; exact k2.elim
  | some da =>
    cases eb : vD v h2 with
    | none => simp only [ea, eb] at k2; exact k2.elim
    | some db =>
      simp only [ea, eb] at k2
      cases hg : g da db with
      | none => rw [hg] at k2; exact k2.elim
      | some c' =>
        rw [hg] at k2
        obtain ⟨bb, ebb, k3⟩ := Kt.opt (show Kt X.K ζ (fun _ _ b b' => b = b') ι2 H2 (R.opt (asB (.d c')) h2) Q _ from k2)
        cases c' with
        | bool b0 =>
          obtain rfl : b0 = bb := by cases ebb; rfl
          exact hd _ H2 x y da db (.bool b0) _ s2.apA (vD_ok s2 (r1.mv s1 e2) ea) (vD_ok s2 r2 eb) hg fun z H' sm rp => by
            cases rp
            exact ⟨b0, rfl, k3.here s2 sm rfl⟩
        | _ => cases ebb⟩
theorem et_isN {j : Nat} {p' : Pos} (ha : EE X a fa) : ET X (.Compare a [.Is] [.Constant .none j p'] pos) (tVal (eIsN fa)) := ⟨fun W tk => by
  obtain ⟨ta, pa, qa⟩ := ha.run W tk
  refine ⟨_, pt_cmp (pc_isN pa) rfl, fun ζ ι ρ hs σ H Q er s k => ?_⟩
  refine qa ζ ι ρ hs σ H _ er s (Kt.bind (Kt.bind2 k) fun u h1 x H1 ι1 e1 s1 r1 k1 => ?_)
  have e := isN_ok r1
  exact ⟨_, rfl, k1.here s1 (fun _ _ h => h) e⟩⟩
theorem et_notN {j : Nat} {p' : Pos} (ha : EE X a fa) : ET X (.Compare a [.IsNot] [.Constant .none j p'] pos) (tVal (eNotN fa)) := ⟨fun W tk => by
  obtain ⟨ta, pa, qa⟩ := ha.run W tk
  refine ⟨_, pt_cmp (pc_notN pa) rfl, fun ζ ι ρ hs σ H Q er s k => ?_⟩
  refine qa ζ ι ρ hs σ H _ er s (Kt.bind (Kt.bind2 k) fun u h1 x H1 ι1 e1 s1 r1 k1 => ?_)
  have e := isN_ok r1
  exact ⟨_, rfl, k1.here s1 (fun _ _ h => h) (by rw [e])⟩⟩
/-! ### chains -/
def dB : D → Option Bool
  | .bool b => some b
  | _ => none
def eChain (g g' : D → D → Option D) (fa fb fc : MV) : MV := fun ρ h => (fa ρ h).bind fun u h1 => (fb ρ h1).bind fun v h2 => match vD u h2, vD v h2 with
  | some a, some b => (match (g a b).bind dB with
    | some true => (fc ρ h2).bind fun w h3 => (match vD v h3, vD w h3 with
      | some b', some c => R.opt ((g' b' c).map .d) h3
      | _, _ => .no)
    | some false => .ok (.d (.bool false)) h2
    | none => .no)
  | _, _ => .no
theorem chain_reads {r r' : R2} {g g' : D → D → Option D} {ta tb tc : TE} {W : WX} {ζ ι : List Addr} {ρ : Env} {hs : Hs} {σ : L2.St} {H : Hp} {Q : VK} (hd : OpD X r g) (hd' : OpD X r' g')
    (qa : ∀ (ζ ι : List Addr) (ρ : Env) (hs : Hs) (σ : L2.St) (H : Hp) (Q : VK), ERep X.K ζ ι H σ ρ → Sim X.K ζ ι H hs → Kt X.K ζ (VRep X.K ζ) ι H (fa ρ hs) Q (WE W σ) → ta σ H Q)
    (qb : ∀ (ζ ι : List Addr) (ρ : Env) (hs : Hs) (σ : L2.St) (H : Hp) (Q : VK), ERep X.K ζ ι H σ ρ → Sim X.K ζ ι H hs → Kt X.K ζ (VRep X.K ζ) ι H (fb ρ hs) Q (WE W σ) → tb σ H Q)
    (qc : ∀ (ζ ι : List Addr) (ρ : Env) (hs : Hs) (σ : L2.St) (H : Hp) (Q : VK), ERep X.K ζ ι H σ ρ → Sim X.K ζ ι H hs → Kt X.K ζ (VRep X.K ζ) ι H (fc ρ hs) Q (WE W σ) → tc σ H Q)
    (er : ERep X.K ζ ι H σ ρ) (s : Sim X.K ζ ι H hs) (k : Kt X.K ζ (VRep X.K ζ) ι H (eChain g g' fa fb fc ρ hs) Q (WE W σ)) : tChain r r' ta tb tc σ H Q := by
  refine qa ζ ι ρ hs σ H _ er s (Kt.bind k fun u h1 x H1 ι1 e1 s1 r1 k1 => ?_)
  have er1 := er.mv s e1
  refine qb ζ ι1 ρ h1 σ H1 _ er1 s1 (Kt.bind k1 fun v h2 y H2 ι2 e2 s2 r2 k2 => ?_)
  have er2 := er1.mv s1 e2
  cases ea : vD u h2 with
  | none => simp only [ea] at k2; exact k2.elim
  | some da =>
    cases eb : vD v h2 with
    | none => simp only [ea, eb] at k2; exact k2.elim
    | some db =>
      simp only [ea, eb] at k2
      cases hg : g da db with
      | none => simp only [hg, Option.bind_none] at k2; exact k2.elim
      | some c' =>
        simp only [hg, Option.bind_some] at k2
        cases c' with
        | bool b0 =>
          simp only [dB] at k2
          refine hd _ H2 x y da db (.bool b0) _ s2.apA (vD_ok s2 (r1.mv s1 e2) ea) (vD_ok s2 r2 eb) hg fun z H' sm rp => ?_
          cases rp
          refine ⟨b0, rfl, ?_⟩
          have e3 := Ext.of_same (ι := ι2) sm
          have s3 := s2.same sm
          cases b0 with
          | false =>
            rw [if_neg Bool.false_ne_true]
            exact (k2.mv e3).here s3 (fun _ _ h => h) (.d (.bl false))
          | true =>
            rw [if_pos rfl]
            refine qc ζ ι2 ρ h2 σ H' _ (er2.mv s2 e3) s3 (Kt.bind (k2.mv e3) fun w h3 zz H3 ι3 e4 s4 r4 k4 => ?_)
            split at k4
            · rename_i db' dc eb' ec'
              obtain ⟨c, ec, k5⟩ := k4.opt
              cases hg' : g' db' dc with
              | none => rw [hg'] at ec; cases ec
              | some c' =>
                rw [hg'] at ec
                cases ec
                exact hd' _ H3 y zz db' dc c' Q s4.apA (vD_ok s4 ((r2.mv s2 e3).mv s3 e4) eb') (vD_ok s4 r4 ec') hg' fun z H' sm rp => k5.here s4 sm (.d rp)
            · exact k4.elim
        | _ => exact k2.elim
theorem ee_chain {op op' : CmpOp} {r r' : R2} {g g' : D → D → Option D} (ho : OpR X (compareOp op) r) (hd : OpD X r g) (ho' : OpR X (compareOp op') r') (hd' : OpD X r' g') (ha : EE X a fa) (hb : EE X b fb) (hc : EE X c fc)
    (hm : lastMarks [op, op'] [b, c] = false := by with_unfolding_all rfl) : EE X (.Compare a [op, op'] [b, c] pos) (eChain g g' fa fb fc) := ⟨fun W tk => by
  obtain ⟨ta, pa, qa⟩ := ha.run W tk
  obtain ⟨tb, pb, qb⟩ := hb.run W tk
  obtain ⟨tc, pc, qc⟩ := hc.run W tk
  exact ⟨_, pe_chain ho ho' pa pb pc hm, fun ζ ι ρ hs σ H Q er s k => chain_reads hd hd' qa qb qc er s k⟩⟩
theorem et_chain {op op' : CmpOp} {r r' : R2} {g g' : D → D → Option D} (ho : OpR X (compareOp op) r) (hd : OpD X r g) (ho' : OpR X (compareOp op') r') (hd' : OpD X r' g') (ha : EE X a fa) (hb : EE X b fb) (hc : EE X c fc)
    (hm : lastMarks [op, op'] [b, c] = false := by with_unfolding_all rfl) : ET X (.Compare a [op, op'] [b, c] pos) (tVal (eChain g g' fa fb fc)) := ⟨fun W tk => by
  obtain ⟨ta, pa, qa⟩ := ha.run W tk
  obtain ⟨tb, pb, qb⟩ := hb.run W tk
  obtain ⟨tc, pc, qc⟩ := hc.run W tk
  refine ⟨_, pt_chain ho ho' pa pb pc hm, fun ζ ι ρ hs σ H Q er s k => chain_reads hd hd' qa qb qc er s (Kt.bind k fun u h1 x H1 ι1 e1 s1 r1 k1 => ?_)⟩
  obtain ⟨c, ec, k2⟩ := k1.opt
  exact ⟨c, asB_ok r1 ec, k2.here s1 (fun _ _ h => h) rfl⟩⟩
/-! ### isinstance with built-in classes -/
def dTy : D → String
  | .none => "NoneType"
  | .bool _ => "bool"
  | .int _ => "int"
  | .str _ => "str"
  | .list _ => "list"
  | .tuple _ => "tuple"
  | .dict _ => "dict"
theorem RdV.ty {K : PySem.W.Frag} {α : List Addr} {H : Hp} {v : V} {d : D} (r : RdV K α H v d) : TyX K H v (.type (dTy d)) := by
  cases r with
  | imm r =>
    cases r with
    | non => exact .base .non
    | bl b => exact .base (.bl b)
    | int i => exact .base (.int i)
    | str x => exact .base (.str x)
    | lst h _ _ => exact .base (.lst h)
    | tup h _ => exact .base (.tup h)
    | con h _ _ =>
      rcases h with (h | ⟨o, h⟩) | ⟨o, its, n, h1, h2, _⟩
      · exact .base (.tup h)
      · exact .fTuple h
      · exact .kTuple h1 h2
    | dK h _ _ => exact .base (.dK h)
    | dT h _ _ => exact .base (.dT h)
  | lst h _ => exact .base (.lst h)
  | dK h _ => exact .base (.dK h)
  | dT h _ => exact .base (.dT h)
def eIsi (f : D → Bool) (fa : MV) : MV := fun ρ h => (fa ρ h).bind fun u h1 => match vD u h1 with
  | some d => .ok (.d (.bool (f d))) h1
  | none => .no
theorem ee_isi {t : String} {T : Str} {f : D → Bool} {p p2 : Pos} (hk : ∀ (K : PySem.W.Frag) (d : D), PySem.W.kitOne K (.type (dTy d)) (.type t) = some (f d)) (hm : X.mg "isinstance" = none) (hm2 : X.mg T = none) (hv : bootBuiltins T = some (.type t)) (ha : EE X a fa)
    (hg : Gl X "isinstance" := by rfl) (hg2 : Gl X T := by rfl) (hn2 : T ≠ "__name__" := by decide) (hdb : (T == ("__debug__" : Str)) = false := by decide)
    (he : starEach (a :: [.Name T p2]) X.env = (false, eval a X.env) :: starEach [.Name T p2] X.env := by rfl) (he2 : starEach ([.Name T p2]) X.env = (false, eval (.Name T p2) X.env) :: starEach [] X.env := by rfl) (hpl : (backTo pos (starEach [.Name T p2] X.env)).any (·.1) = false := by rfl) :
    EE X (.Call (.Name "isinstance" p) [a, .Name T p2] [] pos) (eIsi f fa) := ⟨fun W tk => by
  obtain ⟨ta, pa, qa⟩ := ha.run W tk
  refine ⟨_, pe_callB call_isi hg hm (by rfl) (pa_cons pa (pa_cons (pe_bltn (v := .ty t) hg2 hm2 hv rfl hn2 hdb) pa_nil he2) he) (by decide) (by decide) he hpl, fun ζ ι ρ hs σ H Q er s k => ?_⟩
  refine qa ζ ι ρ hs σ H _ er s (Kt.bind k fun u h1 x H1 ι1 e1 s1 r1 k1 => ?_)
  split at k1
  · rename_i d ed
    exact ⟨x, .ty t, _, _, _, rfl, .ty t, (vD_ok s1 r1 ed).ty, hk _ d, k1.here s1 (fun _ _ h => h) (.d (.bl _))⟩
  · exact k1.elim⟩
theorem ee_isi2 {t1 t2 : String} {T1 T2 : Str} {f : D → Bool} {p p1 p2 p3 : Pos} {kk : Nat} (hk : ∀ (K : PySem.W.Frag) (d : D), PySem.W.kitAny K (.type (dTy d)) [.type t1, .type t2] = some (f d)) (hm : X.mg "isinstance" = none) (hm1 : X.mg T1 = none) (hv1 : bootBuiltins T1 = some (.type t1)) (hm2 : X.mg T2 = none) (hv2 : bootBuiltins T2 = some (.type t2)) (ha : EE X a fa)
    (hg : Gl X "isinstance" := by rfl) (hg1 : Gl X T1 := by rfl) (hn1 : T1 ≠ "__name__" := by decide) (hdb1 : (T1 == ("__debug__" : Str)) = false := by decide) (hg2 : Gl X T2 := by rfl) (hn2 : T2 ≠ "__name__" := by decide) (hdb : (T2 == ("__debug__" : Str)) = false := by decide)
    (he : starEach (a :: [.Tuple [.Name T1 p1, .Name T2 p2] kk p3]) X.env = (false, eval a X.env) :: starEach [.Tuple [.Name T1 p1, .Name T2 p2] kk p3] X.env := by rfl) (he2 : starEach ([.Tuple [.Name T1 p1, .Name T2 p2] kk p3]) X.env = (false, eval (.Tuple [.Name T1 p1, .Name T2 p2] kk p3) X.env) :: starEach [] X.env := by rfl)
    (he3 : starEach ([.Name T1 p1, .Name T2 p2]) X.env = (false, eval (.Name T1 p1) X.env) :: starEach [.Name T2 p2] X.env := by rfl) (he4 : starEach ([.Name T2 p2]) X.env = (false, eval (.Name T2 p2) X.env) :: starEach [] X.env := by rfl) (hpl : (backTo pos (starEach [.Tuple [.Name T1 p1, .Name T2 p2] kk p3] X.env)).any (·.1) = false := by rfl) :
    EE X (.Call (.Name "isinstance" p) [a, .Tuple [.Name T1 p1, .Name T2 p2] kk p3] [] pos) (eIsi f fa) := ⟨fun W tk => by
  obtain ⟨ta, pa, qa⟩ := ha.run W tk
  refine ⟨_, pe_callB call_isiT hg hm (by rfl) (pa_cons pa (pa_cons (pe_tup (pa_cons (pe_bltn (v := .ty t1) hg1 hm1 hv1 rfl hn1 hdb1) (pa_cons (pe_bltn (v := .ty t2) hg2 hm2 hv2 rfl hn2 hdb) pa_nil he4) he3)) pa_nil he2) he) (by decide) (by decide) he hpl, fun ζ ι ρ hs σ H Q er s k => ?_⟩
  refine qa ζ ι ρ hs σ H _ er s (Kt.bind k fun u h1 x H1 ι1 e1 s1 r1 k1 => ?_)
  split at k1
  · rename_i d ed
    refine ⟨by show 2 ≤ sizeLine; decide, fun tp htp => ⟨x, tp, _, _, _, _, rfl, upd_same, .cons (.ty t1) (.cons (.ty t2) .nil), ?_, hk _ d, k1.here s1 (same_new htp) (.d (.bl _))⟩⟩
    have r := vD_ok s1 r1 ed
    have e := same_new (o := .tup [V.ty t1, V.ty t2]) htp
    have mvr : RdV X.K (ζ ++ ι1) (upd H1 tp (.tup [V.ty t1, V.ty t2])) x d := by
      cases r with
      | imm r => exact .imm (r.same s1.apA e)
      | lst h r => exact .lst (e _ _ h) (r.same s1.apA e)
      | dK h r => exact .dK (e _ _ h) (r.same s1.apA e)
      | dT h r => exact .dT (e _ _ h) (r.same s1.apA e)
    exact mvr.ty
  · exact k1.elim⟩
def isInt : D → Bool
  | .int _ => true
  | .bool _ => true
  | _ => false
def isBool : D → Bool
  | .bool _ => true
  | _ => false
def isTuple : D → Bool
  | .tuple _ => true
  | _ => false
def isList : D → Bool
  | .list _ => true
  | _ => false
def isStr : D → Bool
  | .str _ => true
  | _ => false
def isTL : D → Bool
  | .tuple _ => true
  | .list _ => true
  | _ => false
theorem hk_int (K : PySem.W.Frag) (d : D) : PySem.W.kitOne K (.type (dTy d)) (.type "int") = some (isInt d) := by cases d <;> rfl
theorem hk_bool (K : PySem.W.Frag) (d : D) : PySem.W.kitOne K (.type (dTy d)) (.type "bool") = some (isBool d) := by cases d <;> rfl
theorem hk_tuple (K : PySem.W.Frag) (d : D) : PySem.W.kitOne K (.type (dTy d)) (.type "tuple") = some (isTuple d) := by cases d <;> rfl
theorem hk_list (K : PySem.W.Frag) (d : D) : PySem.W.kitOne K (.type (dTy d)) (.type "list") = some (isList d) := by cases d <;> rfl
theorem hk_str (K : PySem.W.Frag) (d : D) : PySem.W.kitOne K (.type (dTy d)) (.type "str") = some (isStr d) := by cases d <;> rfl
theorem hk_tl (K : PySem.W.Frag) (d : D) : PySem.W.kitAny K (.type (dTy d)) [.type "tuple", .type "list"] = some (isTL d) := by cases d <;> rfl
theorem hk_lt (K : PySem.W.Frag) (d : D) : PySem.W.kitAny K (.type (dTy d)) [.type "list", .type "tuple"] = some (isTL d) := by cases d <;> rfl
/-! ### constants of the module -/
theorem ee_con {x : Str} {v : V} {u : Value} {d : D} (hm : X.mg x = some u) (r : RelV v u) (rp : ∀ (α : List Addr) (H : Hp), Rep X.K α H v d) (hg : Gl X x := by rfl) (hd : (x == ("__debug__" : Str)) = false := by decide) : EE X (.Name x pos) (eC d) :=
  ⟨fun W tk => ⟨_, pe_glob hg hm r hd, fun ζ ι ρ hs σ H Q er s k => k.here s (fun _ _ h => h) (.d (rp _ H))⟩⟩
/-- a tuple of integers that is only looked into -/
def eK (ns : List Int) : MV := fun _ h => .ok (.c ns) h
theorem ee_conK {x : Str} {a : Addr} {u : Value} {ns : List Int} (hm : X.mg x = some u) (r : RelV (.ref a) u) (rp : ∀ H : Hp, SqT X.K H a (ns.map V.int)) (hg : Gl X x := by rfl) (hd : (x == ("__debug__" : Str)) = false := by decide) : EE X (.Name x pos) (eK ns) :=
  ⟨fun W tk => ⟨_, pe_glob hg hm r hd, fun ζ ι ρ hs σ H Q er s k => k.here s (fun _ _ h => h) (.c rp)⟩⟩
/-! ### len -/
def eLen (fa : MV) : MV := fun ρ h => (fa ρ h).bind fun u h1 => match vS u h1 with
  | some (.list xs) => .ok (.d (.int xs.length)) h1
  | some (.tuple xs) => .ok (.d (.int xs.length)) h1
  | some (.str z) => if z.length ≤ sizeLine then .ok (.d (.int z.length)) h1 else .no
  | some (.dict kvs) => .ok (.d (.int kvs.length)) h1
  | _ => .no
theorem call_lenX : CallR X (.builtin "len") (fun xs H Q => (∃ p ys, xs = [.ref p] ∧ (SqL X.K H p ys ∨ SqT X.K H p ys) ∧ Q (.int ys.length) H) ∨ (∃ z, xs = [.str z] ∧ z.length ≤ sizeLine ∧ Q (.int z.length) H) ∨ rLenT xs H Q ∨ (∃ p kvs, xs = [.ref p] ∧ H p = some (.dK kvs) ∧ Q (.int kvs.length) H)) :=
  call_len_seq.or (call_len_str.or (call_len_dT.or call_lenD))
theorem ee_len {p : Pos} (hm : X.mg "len" = none) (ha : EE X a fa) (hg : Gl X "len" := by rfl) (he : starEach (a :: []) X.env = (false, eval a X.env) :: starEach [] X.env := by rfl) (hpl : (backTo pos (starEach [] X.env)).any (·.1) = false := by rfl) :
    EE X (.Call (.Name "len" p) [a] [] pos) (eLen fa) := ⟨fun W tk => by
  obtain ⟨ta, pa, qa⟩ := ha.run W tk
  refine ⟨_, pe_callB call_lenX hg hm PySem.boot_len (pa_cons pa pa_nil he) (by decide) (by decide) he hpl, fun ζ ι ρ hs σ H Q er s k => ?_⟩
  refine qa ζ ι ρ hs σ H _ er s (Kt.bind k fun u h1 x H1 ι1 e1 s1 r1 k1 => ?_)
  cases e : vS u h1 with
  | none => rw [e] at k1; exact k1.elim
  | some d =>
    rw [e] at k1
    rcases vS_ok s1 r1 e with ⟨p, xs, ds, rfl, rfl, hq, ra⟩ | ⟨n, r | ⟨p, xs, ds, rfl, rfl, hq, ra⟩⟩
    rotate_left 2
    · refine .inl ⟨p, xs, rfl, .inr hq, ?_⟩
      rw [ra.length]
      exact k1.here s1 (fun _ _ h => h) (.d (.int _))
    · refine .inl ⟨p, xs, rfl, .inl hq, ?_⟩
      rw [ra.length]
      exact k1.here s1 (fun _ _ h => h) (.d (.int _))
    · cases d with
      | list xs => exact absurd rfl (n _)
      | tuple xs =>
        obtain ⟨p, us, rfl, hp, ra, rt⟩ := r.tup
        refine .inl ⟨p, us, rfl, .inr hp, ?_⟩
        rw [ra.length]
        exact k1.here s1 (fun _ _ h => h) (.d (.int _))
      | str z =>
        simp only at k1
        split at k1
        · cases r.str
          exact .inr (.inl ⟨z, rfl, by assumption, k1.here s1 (fun _ _ h => h) (.d (.int _))⟩)
        · exact k1.elim
      | dict kvs =>
        have fin : ∀ {κ : Type} (ks : List (κ × V)) (f : κ × V → D) (ds : List D), kvs = (ks.map f).zip ds → ks.length = ds.length → (kvs.length : Int) = ks.length := fun ks f ds e hl => by
          rw [e, List.length_zip, List.length_map, hl, Nat.min_self]
        cases r with
        | imm r =>
          generalize hd : PyData.dict kvs = d at r
          cases r with
          | dK h _ ra =>
            injection hd with hd
            have := fin _ _ _ hd (by simpa using ra.length)
            refine .inr (.inr (.inr ⟨_, _, rfl, h, ?_⟩))
            rw [← this]
            exact k1.here s1 (fun _ _ h => h) (.d (.int _))
          | dT h _ ra =>
            injection hd with hd
            have := fin _ _ _ hd (by simpa using ra.length)
            refine .inr (.inr (.inl ⟨_, _, rfl, h, ?_⟩))
            rw [← this]
            exact k1.here s1 (fun _ _ h => h) (.d (.int _))
          | _ => cases hd
        | dK h ra =>
          have := fin _ _ _ rfl (by simpa using ra.length)
          refine .inr (.inr (.inr ⟨_, _, rfl, h, ?_⟩))
          rw [← this]
          exact k1.here s1 (fun _ _ h => h) (.d (.int _))
        | dT h ra =>
          have := fin _ _ _ rfl (by simpa using ra.length)
          refine .inr (.inr (.inl ⟨_, _, rfl, h, ?_⟩))
          rw [← this]
          exact k1.here s1 (fun _ _ h => h) (.d (.int _))
      | none => exact k1.elim
      | bool _ => exact k1.elim
      | int _ => exact k1.elim⟩
/-! ### comprehensions, by their two kinds; stored on one line -/
variable {elt tg iter : Expr} {ifs : List Expr} {scope : Scope} {own : List (Str × Nat)} {ws : List Nat} {fi : MI} {gt : MG} {ft : Env → Hs → R Bool} {fe : MV}
theorem ee_lc {k : Nat} (own : List (Str × Nat)) (C : Cn X k) (hi : EI X tg iter fi) (ok : blkC X.N X.env.scope scope own = true)
    (hg : ∀ (s : Shared) (H : Hp) (C : Addr) (cl : List (Str × Addr)) (fp : List Addr), EG (X.blk s H scope (compEnvC scope cl C X.env) fp) tg ws gt)
    (ht : ∀ (s : Shared) (H : Hp) (Ca : Addr) (cl : List (Str × Addr)) (fp : List Addr), Cn (X.blk s H scope (compEnvC scope cl Ca X.env) fp) k → ETs (X.blk s H scope (compEnvC scope cl Ca X.env) fp) ifs ft)
    (he : ∀ (s : Shared) (H : Hp) (Ca : Addr) (cl : List (Str × Addr)) (fp : List Addr), Cn (X.blk s H scope (compEnvC scope cl Ca X.env) fp) k → EE (X.blk s H scope (compEnvC scope cl Ca X.env) fp) elt fe) (hv : ∀ i ∈ ws, i ∈ own.map (·.2) := by decide) (hs : ∀ x, foldedSetIterable iter X.env x = pure x := by intro _; rfl) :
    EE X (.ListComp elt [⟨tg, iter, ifs, 0⟩] scope pos) (eLc (own.map (·.2)) fi gt ft fe) :=
  ee_lc0 false C hi (blkOk_by ok) hv hg (fun s H Ca cl fp => ht s H Ca cl fp ⟨C.calm, C.nd, C.room, PassesOwn.never⟩) (fun s H Ca cl fp => he s H Ca cl fp ⟨C.calm, C.nd, C.room, PassesOwn.never⟩) hs
theorem ee_lcM {k : Nat} (own : List (Str × Nat)) (C : Cn X k) (hi : EI X tg iter fi) (ok : blkC X.N X.env.scope scope own = true)
    (hg : ∀ (s : Shared) (H : Hp) (C : Addr) (cl : List (Str × Addr)) (fp : List Addr), EG (X.blk s H scope (compEnvC scope cl C X.env) fp) tg ws gt)
    (ht : ∀ (s : Shared) (H : Hp) (Ca : Addr) (cl : List (Str × Addr)) (fp : List Addr), Cn (X.blk s H scope (compEnvC scope cl Ca X.env) fp) k → ETs (X.blk s H scope (compEnvC scope cl Ca X.env) fp) ifs ft)
    (he : ∀ (s : Shared) (H : Hp) (Ca : Addr) (cl : List (Str × Addr)) (fp : List Addr), Cn (X.blk s H scope (compEnvC scope cl Ca X.env) fp) k → EE (X.blk s H scope (compEnvC scope cl Ca X.env) fp) elt fe) (hv : ∀ i ∈ ws, i ∈ own.map (·.2) := by decide) (hs : ∀ x, foldedSetIterable iter X.env x = pure x := by intro _; rfl) :
    EE X (.ListComp elt [⟨tg, iter, ifs, 0⟩] scope pos) (eLcM (own.map (·.2)) fi gt ft fe) :=
  ee_lc0 true C hi (blkOk_by ok) hv hg (fun s H Ca cl fp => ht s H Ca cl fp ⟨C.calm, C.nd, C.room, PassesOwn.never⟩) (fun s H Ca cl fp => he s H Ca cl fp ⟨C.calm, C.nd, C.room, PassesOwn.never⟩) hs
theorem ss_lc0 {k i : Nat} {y : Str} {py spos : Pos} (m : Bool) (C : Cn X k) (hi : EI X tg iter fi) (ok : BlkOk X.N X.env.scope scope own) (hv : ∀ i ∈ ws, i ∈ own.map (·.2)) (hy : X.N[i]? = some y) (hyl : X.env.scope.names.lookup y = some .local)
    (hsw : swapsWith (.ListComp elt [⟨tg, iter, ifs, 0⟩] scope pos) (some (.Name y py)) spos.line X.env = pure true)
    (hg : ∀ (s : Shared) (H : Hp) (C : Addr) (cl : List (Str × Addr)) (fp : List Addr), EG (X.blk s H scope (compEnvC scope cl C X.env) fp) tg ws gt)
    (ht : ∀ (s : Shared) (H : Hp) (C : Addr) (cl : List (Str × Addr)) (fp : List Addr), ETs (X.blk s H scope (compEnvC scope cl C X.env) fp) ifs ft)
    (he : ∀ (s : Shared) (H : Hp) (C : Addr) (cl : List (Str × Addr)) (fp : List Addr), EE (X.blk s H scope (compEnvC scope cl C X.env) fp) elt fe) (hs : ∀ x, foldedSetIterable iter X.env x = pure x) :
    SS X (.Assign [.Name y py] (.ListComp elt [⟨tg, iter, ifs, 0⟩] scope pos) spos) (sSet i (if m = true then eLcM (own.map (·.2)) fi gt ft fe else eLc (own.map (·.2)) fi gt ft fe)) := ⟨fun W tk =>
  ⟨_, ps_setLc C.calm C.nd hy hyl hsw (hi.can tk) ok (fun s H C cl fp => (hg s H C cl fp).can) (fun s H C cl fp => (ht s H C cl fp).run W0 takes0) (fun s H C cl fp => (he s H C cl fp).can takes0) hs,
    fun ζ ι ρ hs σ H D er s k => lc_reads hv er s (Ks.bind k er s fun u h1 x H1 ι1 e1 s1 r1 k1 => k1.nx s1 ((er.mv s e1).set r1 i))⟩⟩
theorem ss_lc {k : Nat} (i : Nat) (own : List (Str × Nat)) {y : Str} {py spos : Pos} (C : Cn X k) (hi : EI X tg iter fi) (ok : blkC X.N X.env.scope scope own = true)
    (hg : ∀ (s : Shared) (H : Hp) (C : Addr) (cl : List (Str × Addr)) (fp : List Addr), EG (X.blk s H scope (compEnvC scope cl C X.env) fp) tg ws gt)
    (ht : ∀ (s : Shared) (H : Hp) (Ca : Addr) (cl : List (Str × Addr)) (fp : List Addr), Cn (X.blk s H scope (compEnvC scope cl Ca X.env) fp) k → ETs (X.blk s H scope (compEnvC scope cl Ca X.env) fp) ifs ft)
    (he : ∀ (s : Shared) (H : Hp) (Ca : Addr) (cl : List (Str × Addr)) (fp : List Addr), Cn (X.blk s H scope (compEnvC scope cl Ca X.env) fp) k → EE (X.blk s H scope (compEnvC scope cl Ca X.env) fp) elt fe) (hy : X.N[i]? = some y := by rfl) (hyl : X.env.scope.names.lookup y = some .local := by rfl)
    (hsw : swapsWith (.ListComp elt [⟨tg, iter, ifs, 0⟩] scope pos) (some (.Name y py)) spos.line X.env = pure true := by exact sw_true rfl rfl rfl (by decide +kernel)) (hv : ∀ i ∈ ws, i ∈ own.map (·.2) := by decide) (hs : ∀ x, foldedSetIterable iter X.env x = pure x := by intro _; rfl) :
    SS X (.Assign [.Name y py] (.ListComp elt [⟨tg, iter, ifs, 0⟩] scope pos) spos) (sSet i (eLc (own.map (·.2)) fi gt ft fe)) :=
  ss_lc0 false C hi (blkOk_by ok) hv hy hyl hsw hg (fun s H Ca cl fp => ht s H Ca cl fp ⟨C.calm, C.nd, C.room, PassesOwn.never⟩) (fun s H Ca cl fp => he s H Ca cl fp ⟨C.calm, C.nd, C.room, PassesOwn.never⟩) hs
theorem ss_lcM {k : Nat} (i : Nat) (own : List (Str × Nat)) {y : Str} {py spos : Pos} (C : Cn X k) (hi : EI X tg iter fi) (ok : blkC X.N X.env.scope scope own = true)
    (hg : ∀ (s : Shared) (H : Hp) (C : Addr) (cl : List (Str × Addr)) (fp : List Addr), EG (X.blk s H scope (compEnvC scope cl C X.env) fp) tg ws gt)
    (ht : ∀ (s : Shared) (H : Hp) (Ca : Addr) (cl : List (Str × Addr)) (fp : List Addr), Cn (X.blk s H scope (compEnvC scope cl Ca X.env) fp) k → ETs (X.blk s H scope (compEnvC scope cl Ca X.env) fp) ifs ft)
    (he : ∀ (s : Shared) (H : Hp) (Ca : Addr) (cl : List (Str × Addr)) (fp : List Addr), Cn (X.blk s H scope (compEnvC scope cl Ca X.env) fp) k → EE (X.blk s H scope (compEnvC scope cl Ca X.env) fp) elt fe) (hy : X.N[i]? = some y := by rfl) (hyl : X.env.scope.names.lookup y = some .local := by rfl)
    (hsw : swapsWith (.ListComp elt [⟨tg, iter, ifs, 0⟩] scope pos) (some (.Name y py)) spos.line X.env = pure true := by exact sw_true rfl rfl rfl (by decide +kernel)) (hv : ∀ i ∈ ws, i ∈ own.map (·.2) := by decide) (hs : ∀ x, foldedSetIterable iter X.env x = pure x := by intro _; rfl) :
    SS X (.Assign [.Name y py] (.ListComp elt [⟨tg, iter, ifs, 0⟩] scope pos) spos) (sSet i (eLcM (own.map (·.2)) fi gt ft fe)) :=
  ss_lc0 true C hi (blkOk_by ok) hv hy hyl hsw hg (fun s H Ca cl fp => ht s H Ca cl fp ⟨C.calm, C.nd, C.room, PassesOwn.never⟩) (fun s H Ca cl fp => he s H Ca cl fp ⟨C.calm, C.nd, C.room, PassesOwn.never⟩) hs

/-! ### several names at once -/
theorem ss_par3 {x y z : Str} {a b c : Expr} {fs : Env → Hs → R (List Val)} {px py pz pt spos : Pos} {kt k2 : Nat} {pt2 : Pos} (i j l : Nat) (hc : X.calm = true) (hN : X.N.Nodup) (ha : EA X [a, b, c] fs) (hi : X.N[i]? = some x := by rfl) (hj : X.N[j]? = some y := by rfl) (hl : X.N[l]? = some z := by rfl)
    (hij : i ≠ j := by decide) (hil : i ≠ l := by decide) (hjl : j ≠ l := by decide)
    (hx : X.env.scope.names.lookup x = some .local := by rfl) (hy : X.env.scope.names.lookup y = some .local := by rfl) (hz : X.env.scope.names.lookup z = some .local := by rfl)
    (hw : swappedStores [.Tuple [.Name x px, .Name y py, .Name z pz] kt pt] (.Tuple [a, b, c] k2 pt2) X.env = pure (some [x, y, z]) := by rfl)
    (hs : swapsWithSole [.Tuple [.Name x px, .Name y py, .Name z pz] kt pt] (.Tuple [a, b, c] k2 pt2) spos.line X.env = pure false := by rfl) :
    SS X (.Assign [.Tuple [.Name x px, .Name y py, .Name z pz] kt pt] (.Tuple [a, b, c] k2 pt2) spos) (sParN [i, j, l] fs) := ⟨fun W tk => by
  obtain ⟨t, p, q⟩ := ha.run W tk
  refine ⟨_, ps_par3 hc hN hi hj hl hij hil hjl hx hy hz p hw hs, fun ζ ι ρ hs σ H D er s k => q ζ ι ρ hs σ H _ er s (Ks.bind k er s fun us h1 xs H1 ι1 e1 s1 r1 k1 => ?_)⟩
  cases r1 with
  | nil => exact k1.elim
  | cons r1 rr => cases rr with
    | nil => exact k1.elim
    | cons r2 rr => cases rr with
      | nil => exact k1.elim
      | cons r3 rr => cases rr with
        | cons _ _ => simp only [List.length_cons] at k1; rw [if_neg (by simp)] at k1; exact k1.elim
        | nil => exact ⟨_, _, _, rfl, (show Ks X.K ζ ι1 H1 (.nx (((ρ.set i (some _)).set j (some _)).set l (some _)) h1) D W from k1).nx s1 ((((er.mv s e1).set r1 i).set r2 j).set r3 l)⟩⟩
def setAllV : L2.St → List Nat → List V → L2.St
  | σ, i :: is, u :: us => setAllV (σ.set i (some u)) is us
  | σ, _, _ => σ
/-- names alone as targets -/
structure NG (X : Cx) (ts : List Expr) (is : List Nat) : Prop where
  ex : ∃ t, PGs X ts t ∧ ∀ (vs : List V) (σ : L2.St) (H : Hp) (Q : L2.St → Hp → Prop), vs.length = is.length → Q (setAllV σ is vs) H → t vs σ H Q
theorem ng_nil : NG X [] [] := ⟨⟨_, pgs_nil, fun vs σ H Q hl q => by
  cases vs with
  | nil => exact ⟨rfl, q⟩
  | cons _ _ => cases hl⟩⟩
theorem ng_cons {x : Str} {p : Pos} {ts : List Expr} {is : List Nat} (i : Nat) (hN : X.N.Nodup) (h : NG X ts is) (hi : X.N[i]? = some x := by rfl) (hx : Loc X.env.scope x := by first | exact Or.inl rfl | exact Or.inr rfl) (hf : X.fn x = true ∨ X.env.scope.names.lookup x = some .local := by first | exact .inl rfl | exact .inr rfl | assumption)
    (hs : (assignEach (.Name x p :: ts) X.env).map (·.2) = assign (.Name x p) X.env :: (assignEach ts X.env).map (·.2) := by rfl) : NG X (.Name x p :: ts) (i :: is) := ⟨by
  obtain ⟨t, pg, q⟩ := h.ex
  refine ⟨_, pgs_cons (pg_name hN hi hx hf) pg hs, fun vs σ H Q hl qq => ?_⟩
  cases vs with
  | nil => cases hl
  | cons v vs => exact ⟨v, vs, rfl, q vs _ H Q (by simpa using hl) qq⟩⟩
theorem ERep.setAll {K : PySem.W.Frag} {ζ ι : List Addr} {H : Hp} : ∀ {is : List Nat} {vs : List V} {us : List Val} {σ : L2.St} {ρ : Env}, ERep K ζ ι H σ ρ → VRepAll K ζ ι H vs us → ERep K ζ ι H (setAllV σ is vs) (setAll ρ is us)
  | [], _, _, _, _, er, r => by cases r <;> exact er
  | i :: is, _, _, _, _, er, .nil => er
  | i :: is, _, _, _, _, er, .cons r t => ERep.setAll (is := is) (er.set r i) t
theorem ss_parT {es ts : List Expr} {is : List Nat} {fs : Env → Hs → R (List Val)} {kt k2 : Nat} {pt pt2 spos : Pos} (hc : X.calm = true) (ha : EA X es fs) (hn : NG X ts is) (hsm : is.length ≤ sizeLine := by decide)
    (hlen : (assignEach ts X.env).length = is.length := by rfl) (hst : (assignEach ts X.env).findIdx? (·.1) = none := by rfl)
    (hs : swapsWithSole [.Tuple ts kt pt] (.Tuple es k2 pt2) spos.line X.env = pure false := by rfl) (hw : swappedStores [.Tuple ts kt pt] (.Tuple es k2 pt2) X.env = pure none := by rfl) (hh : (assignEach [.Tuple ts kt pt] X.env).map (·.2) = [assign (.Tuple ts kt pt) X.env] := by rfl) :
    SS X (.Assign [.Tuple ts kt pt] (.Tuple es k2 pt2) spos) (sParN is fs) := ⟨fun W tk => by
  obtain ⟨t, p, q⟩ := ha.run W tk
  obtain ⟨tg, pg, qg⟩ := hn.ex
  refine ⟨_, ps_asg (pe_tup p) (pg_tup hc pg hlen hst) hs hw hh, fun ζ ι ρ hs σ H D er s k => q ζ ι ρ hs σ H _ er s (Ks.bind k er s fun us h1 xs H1 ι1 e1 s1 r1 k1 => ?_)⟩
  split at k1
  · rename_i hl
    have hl2 : xs.length = is.length := r1.length.trans hl
    refine ⟨by rw [hl2]; exact hsm, fun pp hp => ⟨pp, xs, rfl, SqT.of upd_same, hl2, qg xs _ _ _ hl2 ?_⟩⟩
    have sm := same_new (o := .tup xs) hp
    have ex := Ext.of_same (ι := ι1) sm
    exact (k1.mv ex).nx (s1.same sm) (((er.mv s e1).mv s1 ex).setAll (r1.mv s1 ex))
  · exact k1.elim⟩
theorem gT_ok (gs : List D → Env → Hs → R Env) (h : ∀ ds ρ hs, ∃ ρ' h', gs ds ρ hs = .ok ρ' h' ∨ gs ds ρ hs = .no) (u : Val) (ρ : Env) (hs : Hs) : ∃ ρ' h', gT gs u ρ hs = .ok ρ' h' ∨ gT gs u ρ hs = .no := by
  have no : ∃ (ρ' : Env) (h' : Hs), (R.no : R Env) = .ok ρ' h' ∨ (R.no : R Env) = .no := ⟨[], [], .inr rfl⟩
  cases u with
  | d x => cases x with
    | tuple ds => exact h _ _ _
    | list ds => exact h _ _ _
    | _ => exact no
  | r i =>
    show ∃ ρ' h', (match hs[i]? with
      | some (.lst ds) => gs ds ρ hs
      | _ => R.no) = .ok ρ' h' ∨ (match hs[i]? with
      | some (.lst ds) => gs ds ρ hs
      | _ => R.no) = .no
    cases hs[i]? with
    | none => exact no
    | some m => cases m with
      | lst ds => exact h _ _ _
      | dic _ _ => exact no
      | dcn _ => exact no
  | _ => exact no
theorem gsNil_ok (ds : List D) (ρ : Env) (hs : Hs) : ∃ ρ' h', gsNil ds ρ hs = .ok ρ' h' ∨ gsNil ds ρ hs = .no := by
  cases ds with
  | nil => exact ⟨ρ, hs, .inl rfl⟩
  | cons _ _ => exact ⟨ρ, hs, .inr rfl⟩
theorem gsCons_ok {g : MG} {gs : List D → Env → Hs → R Env} (h1 : ∀ u ρ hs, ∃ ρ' h', g u ρ hs = .ok ρ' h' ∨ g u ρ hs = .no) (h2 : ∀ ds ρ hs, ∃ ρ' h', gs ds ρ hs = .ok ρ' h' ∨ gs ds ρ hs = .no) (ds : List D) (ρ : Env) (hs : Hs) : ∃ ρ' h', gsCons g gs ds ρ hs = .ok ρ' h' ∨ gsCons g gs ds ρ hs = .no := by
  cases ds with
  | nil => exact ⟨ρ, hs, .inr rfl⟩
  | cons d ds =>
    show ∃ ρ' h', (g (.d d) ρ hs).bind _ = _ ∨ (g (.d d) ρ hs).bind _ = _
    obtain ⟨ρ1, h1', e | e⟩ := h1 (.d d) ρ hs
    · rw [e]; exact h2 ds ρ1 h1'
    · rw [e]; exact ⟨ρ, hs, .inr rfl⟩
/-! ### a list of the store made by a built-in -/
def eCallM (g : D → Option (List D)) (fas : Env → Hs → R (List Val)) : MV := fun ρ h => (fas ρ h).bind fun us h1 => match vDs us h1 with
  | some [d] => (match g d with
    | some ds => .ok (.r h1.length) (h1 ++ [.lst ds])
    | none => .no)
  | _ => .no
def dListM : D → Option (List D)
  | .list xs => some xs
  | .tuple xs => some xs
  | _ => none
theorem ee_listM {p : Pos} {fas : Env → Hs → R (List Val)} (hm : X.mg "list" = none) (ha : EA X [a] fas) (hg : Gl X "list" := by rfl) (he : starEach (a :: []) X.env = (false, eval a X.env) :: starEach [] X.env := by rfl) (hpl : (backTo pos (starEach [] X.env)).any (·.1) = false := by rfl) :
    EE X (.Call (.Name "list" p) [a] [] pos) (eCallM dListM fas) := ⟨fun W tk => by
  obtain ⟨ta, pa, qa⟩ := ha.run W tk
  refine ⟨_, pe_callTy call_list_of hg hm (by decide +kernel) pa (by decide) (by decide) he hpl, fun ζ ι ρ hs σ H Q er s k => ?_⟩
  refine qa ζ ι ρ hs σ H _ er s (Kt.bind k fun us h1 xs H1 ι1 e1 s1 r1 k1 => ?_)
  split at k1
  · rename_i d ed
    obtain ⟨v, rfl, r⟩ := (vDs_ok s1 r1 ed).one
    have fin : ∀ (ds : List D) (ys : List V) (l : Addr), H1 l = none → RepAll X.K (ζ ++ ι1) H1 ys ds → Kt X.K ζ (VRep X.K ζ) ι1 H1 (.ok (.r h1.length) (h1 ++ [.lst ds])) Q (WE W σ) → Q (.ref l) (upd H1 l (.lst ys)) := fun ds ys l hl ra kk => by
      have ex0 : Ext ι1 H1 (ι1 ++ [l]) (upd H1 l (.lst ys)) := ⟨List.prefix_append _ _, fun a m n => by
        rcases List.mem_append.mp m with m | m
        · exact absurd m n
        · have e : a = l := by simpa using m
          rw [e]; exact hl, fun a u h _ => same_new hl a u h⟩
      obtain ⟨s2, ex⟩ := s1.push hl (m := .lst ds) (.lst upd_same (ra.mv (s1.mv ex0)))
      refine kk _ _ _ ex s2 (.r ?_)
      rw [← s1.len, List.getElem?_append_right (Nat.le_refl _), Nat.sub_self]
      rfl
    cases d with
    | list xs =>
      obtain ⟨p, us, rfl, hp, ra⟩ := r.list
      exact ⟨p, us, rfl, .inl (.of hp), fun l hl => fin xs us l hl ra k1⟩
    | tuple xs =>
      obtain ⟨p, us, rfl, hp, ra, _⟩ := r.tup
      exact ⟨p, us, rfl, .inr hp, fun l hl => fin xs us l hl ra k1⟩
    | _ => exact k1.elim
  · exact k1.elim⟩
end
/-! ### an operator's new list that will be changed: a new place of the store -/
def OpMD (X : Cx) (r : R2) (g : D → D → Option (List D)) : Prop := ∀ (α : List Addr) (H : Hp) (x y : V) (a b : D) (ds : List D) (Q : VK), Ap α H → RdV X.K α H x a → RdV X.K α H y b → g a b = some ds → (∀ p xs, H p = none → RepAll X.K α H xs ds → Q (.ref p) (upd H p (.lst xs))) → r x y H Q
def eOpM (g : D → D → Option (List D)) (fa fb : MV) : MV := fun ρ h => (fa ρ h).bind fun u h1 => (fb ρ h1).bind fun v h2 => match vD u h2, vD v h2 with
  | some a, some b => (match g a b with
    | some ds => .ok (.r h2.length) (h2 ++ [.lst ds])
    | none => .no)
  | _, _ => .no
def dMulM : D → D → Option (List D)
  | .list xs, .int k => if k.natAbs.log2 < 63 ∧ xs.length * k.toNat ≤ sizeLine then some (List.replicate k.toNat xs).flatten else none
  | _, _ => none
def dAddM : D → D → Option (List D)
  | .list xs, .list ys => if xs.length + ys.length ≤ sizeLine then some (xs ++ ys) else none
  | _, _ => none
section
variable {X : Cx} {pos : Pos}
theorem odm_mul : OpMD X rRep dMulM := by
  intro α H x y a b ds Q ap rx ry e k
  unfold dMulM at e
  split at e
  · split at e
    · rename_i hl
      cases e
      obtain ⟨p, us, rfl, hp, ra⟩ := rx.list
      cases ry.int
      have hb := log2_lt hl.1
      exact ⟨p, _, us, rfl, rfl, hp, by omega, by omega, by rw [ra.length]; exact hl.2, fun r hr => k _ _ hr (ra.rep _)⟩
    · cases e
  · cases e
theorem odm_add : OpMD X rCat dAddM := by
  intro α H x y a b ds Q ap rx ry e k
  unfold dAddM at e
  split at e
  · split at e
    · rename_i hl
      cases e
      obtain ⟨p, us, rfl, hp, ra⟩ := rx.list
      obtain ⟨q, vs, rfl, hq, rb⟩ := ry.list
      exact ⟨p, q, us, vs, rfl, rfl, hp, hq, by rw [ra.length, rb.length]; exact hl, fun r hr => k _ _ hr (ra.app rb)⟩
    · cases e
  · cases e
theorem ee_opM {a b : Expr} {fa fb : MV} {op : Operator} {r : R2} {g : D → D → Option (List D)} (ho : OpR X (binaryOp op) r) (hd : OpMD X r g) (ha : EE X a fa) (hb : EE X b fb) : EE X (.BinOp a op b pos) (eOpM g fa fb) := ⟨fun W tk => by
  obtain ⟨ta, pa, qa⟩ := ha.run W tk
  obtain ⟨tb, pb, qb⟩ := hb.run W tk
  refine ⟨_, pe_op ho pa pb, fun ζ ι ρ hs σ H Q er s k => ?_⟩
  refine qa ζ ι ρ hs σ H _ er s (Kt.bind k fun u h1 x H1 ι1 e1 s1 r1 k1 => ?_)
  refine qb ζ ι1 ρ h1 σ H1 _ (er.mv s e1) s1 (Kt.bind k1 fun v h2 y H2 ι2 e2 s2 r2 k2 => ?_)
  split at k2
  · rename_i da db ea eb
    split at k2
    · rename_i ds eg
      refine hd _ H2 x y da db ds Q s2.apA (vD_ok s2 (r1.mv s1 e2) ea) (vD_ok s2 r2 eb) eg fun q xs hq rp => ?_
      have ex0 : Ext ι2 H2 (ι2 ++ [q]) (upd H2 q (.lst xs)) := ⟨List.prefix_append _ _, fun a m n => by
        rcases List.mem_append.mp m with m | m
        · exact absurd m n
        · have e : a = q := by simpa using m
          rw [e]; exact hq, fun a u h _ => same_new hq a u h⟩
      obtain ⟨s3, ex⟩ := s2.push hq (m := .lst ds) (.lst upd_same (rp.mv (s2.mv ex0)))
      refine k2 _ _ _ ex s3 (.r ?_)
      rw [← s2.len, List.getElem?_append_right (Nat.le_refl _), Nat.sub_self]
      rfl
    · exact k2.elim
  · exact k2.elim⟩
end
end DL

set_option Elab.async false
set_option linter.all false
set_option maxRecDepth 100000
set_option maxHeartbeats 1000000
namespace DL
open PySem PySem.Spec PyProof.Rows L2

theorem units65 {k : Nat} {A : Around} (r : Room k A) : A.units + 65 < cLine := by have := r.un; omega
theorem units1 {k : Nat} {A : Around} (r : Room k A) : A.units + 1 < cLine := by have := r.un; omega
abbrev gGcd : List D → Option D := d2 (dInt2 fun i j => some (.int ((Nat.gcd i.natAbs j.natAbs : Nat) : Int)))
abbrev gMax2 : D → D → Option D := dInt2 fun i j => some (.int (if j > i then j else i))
abbrev gMin2 : D → D → Option D := dInt2 fun i j => some (.int (if j < i then j else i))
/-! ### exceptions: the classes -/
/-- what the written part says of an exception's class (its base's chain ends in ValueError's) -/
def excB (K : PySem.W.Frag) (C : Addr) : Bool := match K.lookup C with
  | some ⟨.type "type", _, .cls cd, sl⟩ => (match cd.mro, sl.toList with
    | .ref C' :: bm, [_, _, _, _, some (.builtin n), _] => C' == C && n == "ValueError.__new__" && !cd.hasDel && cd.hasDict && PySem.HandSPX.refsVE bm
    | _, _ => false)
  | _ => false
theorem excB_ok {K : PySem.W.Frag} {C : Addr} (q : excB K C = true) : ∃ nm q N bs bm sn sub ab col dd k0 k1 k2 k3 k5, K.lookup C = some (excClassObj nm q C N bs bm true sn sub ab col dd k0 k1 k2 k3 k5 "ValueError.__new__") ∧ PySem.HandSPX.refsVE bm = true := by
  unfold excB at q
  split at q
  · rename_i dd cd sl ho
    split at q
    · rename_i C' bm k0 k1 k2 k3 n k5 hm hs
      simp only [Bool.and_eq_true, beq_iff_eq, Bool.not_eq_true'] at q
      obtain ⟨⟨⟨⟨rfl, rfl⟩, hdel⟩, hd⟩, ht⟩ := q
      obtain ⟨nm, bs, mro, ns, qn, hdd, sn, sub, ab, col, del⟩ := cd
      dsimp only at hm hdel hd
      subst hm hdel hd
      have hsl : sl = #[k0, k1, k2, k3, some (.builtin "ValueError.__new__"), k5] := by
        obtain ⟨l⟩ := sl
        simp only at hs
        rw [hs]
      subst hsl
      exact ⟨nm, qn, ns, bs, bm, sn, sub, ab, col, dd, k0, k1, k2, k3, k5, ho, ht⟩
    · cases q
  · cases q
/-- one class: it is as excB says, its __init__ is that of the class b -/
structure XC (K : PySem.W.Frag) (mg : Str → Option Value) (c : Str) (fI : Addr) : Prop where
  T : OexC K (He.ga K c)
  iC : PySem.W.findIn K (.ref (He.ga K c)) "__init__" = some (some (.ref fI))
  tI : PySem.W.typeIn K (.ref fI) = some (.type "function")
  noV : PySem.W.findIn K (.ref (He.ga K c)) "value" = some none
  gC : mg c = some (.ref (He.ga K c))
def xcB (K : PySem.W.Frag) (b c : Str) : Bool := excB K (He.ga K c) && (decide (PySem.W.findIn K (.ref (He.ga K c)) "__setattr__" = some (some (.builtin "object.__setattr__"))) && (decide (PySem.W.subIn K (.ref (He.ga K c)) (.type "BaseException") = some true) &&
  (decide (PySem.W.typeIn K (.ref (He.ga K c)) = some (.type "type")) && (PySem.W.keepIn K (.ref (He.ga K c)) && (decide (PySem.W.findIn K (.ref (He.ga K c)) "__init__" = some (some (.ref (He.ma K (He.ga K b) "__init__")))) &&
  (decide (PySem.W.typeIn K (.ref (He.ma K (He.ga K b) "__init__")) = some (.type "function")) && (decide (PySem.W.findIn K (.ref (He.ga K c)) "value" = some none) && decide (PySem.W.nsIn K mainGlobals c = some (some (.ref (He.ga K c)))))))))))
theorem xcB_ok {K : PySem.W.Frag} {h : Heap} {mg : Str → Option Value} (X : K.In h) (G : h.Ns mainGlobals mg) {b c : Str} (q : xcB K b c = true) : XC K mg c (He.ma K (He.ga K b) "__init__") := by
  unfold xcB at q
  simp only [Bool.and_eq_true, decide_eq_true_eq] at q
  obtain ⟨q1, q2, q3, q4, q5, q6, q7, q8, q9⟩ := q
  exact ⟨⟨excB_ok q1, q2, q3, q4, q5⟩, q6, q7, q8, PySem.W.mg_of X G q9⟩
/-- __init__(self, value) of such a class: ValueError's, then self.value = value -/
def spInit (K : PySem.W.Frag) : Sp := fun vs H Q _ => ∃ (a C : Addr) (v : V), vs = [.ref a, v] ∧ OexC K C ∧ PySem.W.findIn K (.ref C) "value" = some none ∧ H a = some (exo a C none) ∧
  ∀ dx, H dx = none → dx ≠ a → Q .non (upd (upd H dx (exd dx [(("value" : Str), v)])) a (exo a C (some dx)))
structure InitF (P : Program) (w : World) (K : PySem.W.Frag) (mg : Str → Option Value) (base : Heap) (fI : Addr) (k : Nat) : Prop where
  ex : ∃ fd, Binds K fd ["self", "value"] [] ∧ FnOk P w K mg base (L2.CX P w) k fI fd ["self", "value"] (spInit K)
theorem init_mk {P : Program} {w : World} {K : PySem.W.Frag} {mg : Str → Option Value} {base : Heap} {pa : Arguments} {sc : Scope} {fI : Addr} {fd : FuncData} {qn : Str} {bd : List Stmt}
    (F : FunD K "__init__" qn pa bd sc [] [] fI fd) (S : FnScope ["self", "value"] ["self", "value"] sc) (hb : Binds K fd ["self", "value"] [])
    (body : ∀ (cdv : Value) (A : Around) (outer : List PySem.Env) (s : Shared) (H : Hp) (E : XK), PSs (cxOf (L2.CX P w) P w K mg base ["self", "value"] qn sc fI cdv A outer s H E) bd
      (tSeq (tDrop (tVeI K (tCons (tVar 0) (tCons (tVar 1) tNil)))) (tOst K "value" (tVar 0) (tVar 1)))) : InitF P w K mg base fI 1 := by
  refine ⟨fd, hb, F.ok S (fun vs H Q E h => ?_) (fun cdv A outer s H vs Q E hr h => ⟨_, body cdv A outer s H E, ?_⟩)⟩
  · obtain ⟨a, C, v, rfl, _⟩ := h
    rfl
  · obtain ⟨a, C, v, rfl, T, hno, ha, q⟩ := h
    refine ⟨_, rfl, _, rfl, a, C, [v], rfl, by simp, T, ha, ?_⟩
    refine ⟨_, rfl, _, rfl, a, C, rfl, T, hno, .inl ⟨ha, fun dx n ne => q dx n ne⟩⟩
/-! ### raise C(e) -/
def sRaise (c : Str) (f : MV) : MS := fun ρ h => (f ρ h).bindS ρ fun u h1 => match u with
  | .d x => .ex c x ρ h1
  | _ => .no
section
variable {X : Cx} {e : Expr} {f : MV} {c : Str} {fI : Addr} {k j : Nat} {p pos pos2 : Pos}
theorem ss_raise (XCc : XC X.K X.mg c fI) (FI : InitF X.prog X.w X.K X.mg X.base fI k) (C : Cn X j) (he : EE X e f) (hk : k + 1 ≤ j := by decide) (hg : Gl X c := by rfl) (hdb : (c == ("__debug__" : Str)) = false := by decide)
    (hs : starEach (e :: []) X.env = (false, eval e X.env) :: starEach [] X.env := by rfl) (hpl : (backTo pos (starEach [] X.env)).any (·.1) = false := by rfl) :
    SS X (.Raise (some (.Call (.Name c p) [e] [] pos)) none pos2) (sRaise c f) := ⟨fun W tk => by
  obtain ⟨te, pe, qe⟩ := he.run W tk
  obtain ⟨fd, hb, F1⟩ := FI.ex
  have hx : Passes (L2.CX X.prog X.w) X (fun _ _ _ => False) := passL
  refine ⟨_, ps_raise C.calm tk (pmk_oex XCc.T XCc.iC XCc.tI F1 (C.room.mono hk) hb .nil hx hg XCc.gC (pa_cons pe pa_nil hs) hdb hs hpl), fun ζ ι ρ hs σ H D er s k => ?_⟩
  refine qe ζ ι ρ hs σ H _ er s (Ks.bind k er s fun u h1 x H1 ι1 e1 s1 r1 k1 => ?_)
  cases r1 with
  | d r =>
    refine ⟨by simp, fun a ha => ⟨a, _, x, rfl, XCc.T, XCc.noV, upd_same, fun dx hd ne => ⟨rfl, dx, [(("value" : Str), x)], upd_same, ?_, ?_, ?_⟩⟩⟩
    · rw [upd_ne ne]; exact upd_same
    · rw [upd_ne ne] at hd; exact hd
    · have hd1 : H1 dx = none := by rw [upd_ne ne] at hd; exact hd
      have sm : Same H1 (upd (del (upd (upd (upd H1 a (exo a (He.ga X.K c) none)) dx (exd dx [(("value" : Str), x)])) a (exo a (He.ga X.K c) (some dx))) a) dx (.xd [(("value" : Str), x)])) := fun b o hb => by
        have n1 : b ≠ a := ne_of_none hb ha
        have n2 : b ≠ dx := ne_of_none hb hd1
        rw [upd_ne n2, del_ne n1, upd_ne n1, upd_ne n2, upd_ne n1]
        exact hb
      exact k1 _ _ σ _ ι1 (Ext.of_same sm) (s1.same sm) ((er.mv s e1).mv s1 (Ext.of_same sm)) ⟨rfl, dx, x, rfl, upd_same, r.same s1.apA sm⟩
  | r h => exact k1.elim
  | x _ _ _ => exact k1.elim
  | s _ => exact k1.elim
  | c _ => exact k1.elim
  | t _ _ => exact k1.elim⟩
end
/-! ### the head's facts -/
inductive Fc where
  | he (f : He.Fa)
  /-- a tuple of ints -/
  | con (x : Str) (ns : List Int)
  | bfun (x : Str) (id : String)
  | exc (b c : Str)
  | vei
def Fc.ok (K : PySem.W.Frag) : Fc → Bool
  | .he f => f.ok K
  | .con x ns => decide (PySem.W.nsIn K mainGlobals x = some (some (.ref (He.ga K x)))) && He.tupB K x (ns.map .int)
  | .bfun x id => decide (PySem.W.nsIn K mainGlobals x = some (some (.builtin id)))
  | .exc b c => xcB K b c
  | .vei => true
abbrev AlF : Type := Bool × List He.FnW
def obsF (fa : List Fc) (fn : List He.DefD) (K : PySem.W.Frag) : AlF := ((fa.all fun f => f.ok K) && fn.all fun d => d.ok K, fn.map fun d => He.fnW K d.at_)
def valF (fn : List He.DefD) : AlF := (true, fn.map He.DefD.val)
def SaysF (fa : List Fc) (fn : List He.DefD) (K : PySem.W.Frag) : Prop := obsF fa fn K = valF fn
def obsFG (n : Nat) (fa : List Fc) (fn : List He.DefD) (g : Addr → Option Obj) : AlF := obsF fa fn (He.frG g (He.asD g n))
def hookF (n : Nat) (fa : List Fc) (fn : List He.DefD) : PySem.W.Hook where
  α := AlF
  obs := fun s => obsFG n fa fn s.heap.get?
  val := fun _ => valF fn
  says := fun _ h => ∃ K : PySem.W.Frag, K.In h ∧ SaysF fa fn K
  of := fun _ _ e => ⟨_, He.frG_in, e⟩
  keeps := fun _ _ _ ⟨K, hK, c⟩ k => ⟨K, PySem.W.Frag.In.keeps hK k, c⟩
theorem obsFG_eq {n : Nat} {fa : List Fc} {fn : List He.DefD} {g : Addr → Option Obj} {s : Shared} (h : ∀ a, g a = s.heap.get? a) : obsFG n fa fn g = (hookF n fa fn).obs s := by
  have e : g = s.heap.get? := funext h
  rw [e] <;> rfl
section
variable {fa : List Fc} {fn : List He.DefD} {K : PySem.W.Frag}
theorem SaysF.fact (c : SaysF fa fn K) (i : Nat) {f : Fc} (h : fa[i]? = some f := by rfl) : f.ok K = true := by
  have c1 := (He.ba (show ((fa.all fun f => f.ok K) && fn.all fun d => d.ok K) = true from congrArg (fun z : AlF => z.1) c)).1
  exact List.all_eq_true.mp c1 f (List.mem_of_getElem? h)
theorem SaysF.def_ (c : SaysF fa fn K) (i : Nat) {d : He.DefD} (h : fn[i]? = some d := by rfl) : ∃ fd, FunD K d.name d.qual d.params d.body d.scope (d.dvs K) (d.kws K) (He.fAd K d.at_) fd := by
  have c2 := (He.ba (show ((fa.all fun f => f.ok K) && fn.all fun d => d.ok K) = true from congrArg (fun z : AlF => z.1) c)).2
  have e : fn.map (fun d => He.fnW K d.at_) = fn.map He.DefD.val := congrArg (fun z : AlF => z.2) c
  have e2 : (fn.map fun d => He.fnW K d.at_)[i]? = (fn.map He.DefD.val)[i]? := by rw [e]
  rw [List.getElem?_map, List.getElem?_map, h] at e2
  exact He.DefD.funD (Option.some.inj e2) (List.all_eq_true.mp c2 d (List.mem_of_getElem? h))
/-- a constant tuple of ints, ready to be read -/
structure ConF (K : PySem.W.Frag) (mg : Str → Option Value) (x : Str) (d : D) : Prop where
  ex : ∃ u v, mg x = some u ∧ RelV v u ∧ ∀ (α : List Addr) (H : Hp), Rep K α H v d
theorem con_ok {h : Heap} {mg : Str → Option Value} (X : K.In h) (G : h.Ns mainGlobals mg) {x : Str} {ns : List Int} (c : (Fc.con x ns).ok K = true) (hc : isCon (ns.map .int) = true) : ConF K mg x (.tuple (ns.map .int)) := by
  obtain ⟨c1, c2⟩ := He.ba c
  refine ⟨_, .ref (He.ga K x), PySem.W.mg_of X G (of_decide_eq_true c1), rfl, fun α H => .con (He.tupB_ok c2 H) hc ?_⟩
  have e : (List.map He.Dv.int ns).map (He.Dv.v K) = ns.map V.int := by
    rw [List.map_map]; rfl
  rw [e]
  exact RepAll.ints ns
structure ConK (K : PySem.W.Frag) (mg : Str → Option Value) (x : Str) (ns : List Int) : Prop where
  ex : ∃ u a, mg x = some u ∧ RelV (.ref a) u ∧ ∀ H : Hp, SqT K H a (ns.map V.int)
theorem conK_ok {h : Heap} {mg : Str → Option Value} (X : K.In h) (G : h.Ns mainGlobals mg) {x : Str} {ns : List Int} (c : (Fc.con x ns).ok K = true) : ConK K mg x ns := by
  obtain ⟨c1, c2⟩ := He.ba c
  refine ⟨_, He.ga K x, PySem.W.mg_of X G (of_decide_eq_true c1), rfl, fun H => ?_⟩
  have e : (List.map He.Dv.int ns).map (He.Dv.v K) = ns.map V.int := by
    rw [List.map_map]; rfl
  rw [← e]
  exact He.tupB_ok c2 H
theorem ee_conKF {X : Cx} {x : Str} {ns : List Int} {pos : Pos} (T : ConK X.K X.mg x ns) (hg : Gl X x := by rfl) (hd : (x == ("__debug__" : Str)) = false := by decide) : EE X (.Name x pos) (eK ns) := by
  obtain ⟨u, a, h1, h2, h3⟩ := T.ex
  exact ee_conK h1 h2 h3 hg hd
theorem free_okF {h : Heap} {mg : Str → Option Value} (X : K.In h) (G : h.Ns mainGlobals mg) {x : Str} (c : (Fc.he (.free x)).ok K = true) : mg x = none := He.free_ok X G c
theorem bfun_okF {h : Heap} {mg : Str → Option Value} (X : K.In h) (G : h.Ns mainGlobals mg) {x : Str} {id : String} (c : (Fc.bfun x id).ok K = true) : mg x = some (.builtin id) := PySem.W.mg_of X G (of_decide_eq_true c)
theorem exc_okF {h : Heap} {mg : Str → Option Value} (X : K.In h) (G : h.Ns mainGlobals mg) {b x : Str} (c : (Fc.exc b x).ok K = true) : XC K mg x (He.ma K (He.ga K b) "__init__") := xcB_ok X G c
theorem str_okF {h : Heap} {mg : Str → Option Value} (X : K.In h) (G : h.Ns mainGlobals mg) {x z : Str} (c : (Fc.he (.str x z)).ok K = true) : ConF K mg x (.str z) := by
  obtain ⟨t, e⟩ := He.str_ok X G c
  exact ⟨_, .str z, e, ⟨t, rfl⟩, fun _ _ => .str z⟩
theorem int_okF {h : Heap} {mg : Str → Option Value} (X : K.In h) (G : h.Ns mainGlobals mg) {x : Str} {i : Int} (c : (Fc.he (.int x i)).ok K = true) : ConF K mg x (.int i) := by
  obtain ⟨t, e⟩ := He.int_ok X G c
  exact ⟨_, .int i, e, ⟨t, rfl⟩, fun _ _ => .int i⟩
theorem ee_conF {X : Cx} {x : Str} {d : D} {pos : Pos} (T : ConF X.K X.mg x d) (hg : Gl X x := by rfl) (hd : (x == ("__debug__" : Str)) = false := by decide) : EE X (.Name x pos) (eC d) := by
  obtain ⟨u, v, h1, h2, h3⟩ := T.ex
  exact ee_con h1 h2 h3 hg hd
/-- a def as the head tells it -/
structure DefF (K : PySem.W.Frag) (mg : Str → Option Value) (x : Str) (pa : Arguments) (bd : List Stmt) (sc : Scope) : Prop where
  ex : ∃ fd, mg x = some (.ref (He.ga K x)) ∧ FunD K x x pa bd sc [] [] (He.ga K x) fd
theorem def_okF {h : Heap} {mg : Str → Option Value} (X : K.In h) (G : h.Ns mainGlobals mg) (c : SaysF fa fn K) (i j : Nat) {x : Str} {pa : Arguments} {bd : List Stmt} {sc : Scope} (h1 : fa[i]? = some (.he (.glo x)) := by rfl) (h2 : fn[j]? = some ⟨(x, none), x, x, pa, bd, sc, [], []⟩ := by rfl) : DefF K mg x pa bd sc := by
  obtain ⟨fd, F⟩ := c.def_ j h2
  exact ⟨fd, He.glo_ok X G (c.fact i h1), F⟩
end
end DL

set_option Elab.async false
set_option linter.all false
set_option maxRecDepth 100000
set_option maxHeartbeats 1000000
namespace DL
open PySem PySem.Spec PyProof.Rows L2

/-! ### dicts: keys, looking up, putting -/
def keyE : D → Option Key
  | .int i => some (.inl i)
  | .str x => some (.inr x)
  | _ => none
def keysOf : List D → Option (List Key)
  | [] => some []
  | d :: ds => match keyE d, keysOf ds with
    | some k, some ks => some (k :: ks)
    | _, _ => none
def keysE : D → Option (List Key)
  | .tuple ds => keysOf ds
  | _ => none
/-- a tuple that may be a key: none of the module's own constants -/
def keysI : D → Option (List Key)
  | .tuple ds => if isCon ds = true then none else keysOf ds
  | _ => none
theorem keyE_keyD (k : Key) : keyE (keyD k) = some k := by cases k <;> rfl
theorem keysOf_map : ∀ ks : List Key, keysOf (ks.map keyD) = some ks
  | [] => rfl
  | k :: ks => by
    rw [List.map_cons]
    unfold keysOf
    rw [keyE_keyD, keysOf_map ks]
theorem keyE_eq {d : D} {k : Key} (e : keyE d = some k) : d = keyD k := by
  cases d <;> cases e <;> rfl
theorem keysOf_eq : ∀ {ds : List D} {ks : List Key}, keysOf ds = some ks → ds = ks.map keyD
  | [], ks, e => by cases e; rfl
  | d :: ds, ks, e => by
    unfold keysOf at e
    split at e
    · rename_i k ks' h1 h2
      cases e
      rw [keyE_eq h1, keysOf_eq h2]; rfl
    · cases e
section
variable {κ : Type} [DecidableEq κ]
def lookBy (f : D → Option κ) (kvs : List (D × D)) (k : κ) : Option D := (kvs.find? fun p => decide (f p.1 = some k)).map (·.2)
def putBy (f : D → Option κ) (kvs : List (D × D)) (k : κ) (kd x : D) : List (D × D) :=
  if (kvs.any fun p => decide (f p.1 = some k)) = true then kvs.map (fun p => if f p.1 = some k then (p.1, x) else p) else kvs ++ [(kd, x)]
variable {K : PySem.W.Frag} {α : List Addr} {H : Hp} {f : D → Option κ} {g : κ → D}
theorem lookBy_ok (hf : ∀ k, f (g k) = some k) (k : κ) : ∀ {kvs : List (κ × V)} {ds : List D}, RepAll K α H (kvs.map (·.2)) ds →
    (valV kvs k = none ∧ lookBy f ((kvs.map fun p => g p.1).zip ds) k = none) ∨ ∃ v d, valV kvs k = some v ∧ lookBy f ((kvs.map fun p => g p.1).zip ds) k = some d ∧ Rep K α H v d
  | [], _, _ => .inl ⟨rfl, rfl⟩
  | p :: r, _, .cons (d := d) (ds := ds) rv t => by
    have ih := lookBy_ok hf k t
    rw [List.map_cons, List.zip_cons_cons]
    by_cases e : p.1 = k
    · refine .inr ⟨p.2, d, valV_pos e, ?_, rv⟩
      unfold lookBy
      rw [List.find?_cons, hf, e, decide_eq_true rfl]; rfl
    · rw [valV_neg e]
      have z : lookBy f ((g p.1, d) :: (r.map fun p => g p.1).zip ds) k = lookBy f ((r.map fun p => g p.1).zip ds) k := by
        unfold lookBy
        rw [List.find?_cons, hf, decide_eq_false (fun q => e (Option.some.inj q))]
      rw [z]; exact ih
theorem anyBy_ok (hf : ∀ k, f (g k) = some k) (k : κ) : ∀ {kvs : List (κ × V)} {ds : List D}, kvs.length = ds.length → (((kvs.map fun p => g p.1).zip ds).any fun p => decide (f p.1 = some k)) = (kvs.any fun p => decide (p.1 = k))
  | [], _, _ => rfl
  | p :: r, [], e => by cases e
  | p :: r, d :: ds, e => by
    rw [List.map_cons, List.zip_cons_cons, List.any_cons, List.any_cons, anyBy_ok hf k (by simpa using e), hf]
    congr 1
    by_cases e : p.1 = k <;> simp [e]
theorem mapBy_ok (hf : ∀ k, f (g k) = some k) (k : κ) {v : V} {x : D} (rx : Rep K α H v x) : ∀ {kvs : List (κ × V)} {ds : List D}, RepAll K α H (kvs.map (·.2)) ds →
    ∃ ds', (((kvs.map fun p => g p.1).zip ds).map fun p => if f p.1 = some k then (p.1, x) else p) = (((kvs.map fun kv => if kv.1 = k then (kv.1, v) else kv).map fun p => g p.1).zip ds') ∧ RepAll K α H ((kvs.map fun kv => if kv.1 = k then (kv.1, v) else kv).map (·.2)) ds'
  | [], _, _ => ⟨[], rfl, .nil⟩
  | p :: r, _, .cons (d := d) (ds := ds) rv t => by
    obtain ⟨ds', h1, h2⟩ := mapBy_ok hf k rx t
    simp only [List.map_cons, List.zip_cons_cons, hf]
    by_cases e : p.1 = k
    · refine ⟨x :: ds', ?_, ?_⟩
      · simp only [e, if_true, List.zip_cons_cons]; rw [h1]
      · simp only [e, if_true]; exact .cons rx h2
    · refine ⟨d :: ds', ?_, ?_⟩
      · rw [if_neg (fun q => e (Option.some.inj q)), if_neg e, List.zip_cons_cons, h1]
      · rw [if_neg e]; exact .cons rv h2
theorem putBy_ok (hf : ∀ k, f (g k) = some k) (k : κ) {v : V} {x : D} (rx : Rep K α H v x) {kvs : List (κ × V)} {ds : List D} (ra : RepAll K α H (kvs.map (·.2)) ds) :
    ∃ ds', putBy f ((kvs.map fun p => g p.1).zip ds) k (g k) x = ((putK kvs k v).map fun p => g p.1).zip ds' ∧ RepAll K α H ((putK kvs k v).map (·.2)) ds' := by
  have hl : kvs.length = ds.length := by rw [← ra.length, List.length_map]
  unfold putBy putK
  rw [anyBy_ok hf k hl]
  split
  · exact mapBy_ok hf k rx ra
  · refine ⟨ds ++ [x], ?_, ?_⟩
    · rw [List.map_append, List.zip_append (by rw [List.length_map, hl])]; rfl
    · rw [List.map_append]; exact ra.app (.cons rx .nil)
end
/-- a dict and its kind: true, its keys tuples -/
def dicV : Val → Hs → Option (Bool × List (D × D))
  | .r i, h => match h[i]? with
    | some (.dic t kvs) => some (t, kvs)
    | _ => none
  | .d (.dict ((.tuple ds, v) :: r)), _ => some (true, (.tuple ds, v) :: r)
  | .d (.dict ((.int i, v) :: r)), _ => some (false, (.int i, v) :: r)
  | .d (.dict ((.str i, v) :: r)), _ => some (false, (.str i, v) :: r)
  | _, _ => none
/-- what the dict holds at a key; outer none: no key -/
def dGetD (t : Bool) (kvs : List (D × D)) (k : D) : Option (Option D) := if t = true then (keysI k).map (lookBy keysE kvs) else (keyE k).map (lookBy keyE kvs)
def dPutD (t : Bool) (kvs : List (D × D)) (k x : D) : Option (List (D × D)) :=
  if kvs.length < sizeLine then (if t = true then (keysI k).map fun ks => putBy keysE kvs ks k x else (keyE k).map fun ks => putBy keyE kvs ks k x) else none
section
variable {K : PySem.W.Frag} {α ζ ι : List Addr} {H : Hp}
/-- the dict's object -/
inductive DicAt (K : PySem.W.Frag) (α : List Addr) (H : Hp) (a : Addr) : Bool → List (D × D) → Prop
  | dK {kvs : List (Key × V)} {ds : List D} : H a = some (.dK kvs) → RepAll K α H (kvs.map (·.2)) ds → DicAt K α H a false ((kvs.map fun p => keyD p.1).zip ds)
  | dT {kvs : List (List Key × V)} {ds : List D} : H a = some (.dT kvs) → RepAll K α H (kvs.map (·.2)) ds → DicAt K α H a true ((kvs.map fun p => PyData.tuple (p.1.map keyD)).zip ds)
theorem dicV_ok {hs : Hs} {v : V} {u : Val} {t : Bool} {kvs : List (D × D)} (s : Sim K ζ ι H hs) (r : VRep K ζ ι H v u) (e : dicV u hs = some (t, kvs)) : ∃ a, v = .ref a ∧ DicAt K (ζ ++ ι) H a t kvs := by
  unfold dicV at e
  split at e
  · rename_i _ i
    cases r with
    | @r a _ q =>
      split at e
      · rename_i t' kvs' em
        cases e
        have z := s.at_ i a _ q em
        refine ⟨a, rfl, ?_⟩
        cases z with
        | dK z1 z2 => exact .dK z1 z2
        | dT z1 z2 => exact .dT z1 z2
      · cases e
  all_goals first
    | cases e; done
    | cases e
      cases r with
      | d r =>
        generalize hx : PyData.dict _ = x at r
        cases r with
        | @dK a kvs ds q n ra =>
          injection hx with hx
          rw [hx]
          refine ⟨a, rfl, ?_⟩
          first
            | exact .dK q ra
            | (exfalso
               cases kvs with
               | nil => cases ra; cases hx
               | cons p r => cases ra; obtain ⟨k, w⟩ := p; cases k <;> cases hx)
        | @dT a kvs ds q n ra =>
          injection hx with hx
          rw [hx]
          refine ⟨a, rfl, ?_⟩
          first
            | exact .dT q ra
            | (exfalso
               cases kvs with
               | nil => cases ra; cases hx
               | cons p r => cases ra; cases hx)
        | _ => cases hx
theorem RepAll.keys : ∀ {ks : List Key} {vs : List V}, RepAll K α H vs (ks.map keyD) → vs = ks.map kV
  | [], _, .nil => rfl
  | k :: ks, _, .cons r t => by
    rw [List.map_cons, RepAll.keys t]
    congr 1
    cases k <;> (cases r; rfl)
theorem Rep.key {y : V} {k : Key} (r : Rep K α H y (keyD k)) : y = kV k := by
  cases k <;> (cases r; rfl)
theorem Rep.keyT {y : V} {kd : D} {ks : List Key} (r : Rep K α H y kd) (e : keysI kd = some ks) : kd = .tuple (ks.map keyD) ∧ ∃ b, y = .ref b ∧ H b = some (.tup (ks.map kV)) := by
  unfold keysI at e
  split at e
  · rename_i ds
    split at e
    · cases e
    · rename_i hc
      have e2 := keysOf_eq e
      subst e2
      refine ⟨rfl, ?_⟩
      cases r with
      | tup q ra => exact ⟨_, rfl, by rw [q, ra.keys]⟩
      | con q c ra => exact absurd c hc
  · cases e
theorem dGet_ok {a : Addr} {t : Bool} {kvs : List (D × D)} {y : V} {kd : D} {o : Option D} (da : DicAt K α H a t kvs) (ry : Rep K α H y kd) (e : dGetD t kvs kd = some o) :
    ∃ o', DGet H a y o' ∧ o'.isSome = o.isSome ∧ ∀ d, o = some d → ∃ v, o' = some v ∧ Rep K α H v d := by
  unfold dGetD at e
  cases da with
  | @dK ks ds q ra =>
    simp only [Bool.false_eq_true, if_false] at e
    cases hk : keyE kd with
    | none => rw [hk] at e; cases e
    | some k =>
      rw [hk] at e
      cases e
      have ek := keyE_eq hk
      subst ek
      rw [ry.key]
      refine ⟨_, DGet.k q, ?_⟩
      rcases lookBy_ok keyE_keyD k ra with ⟨h1, h2⟩ | ⟨v, d, h1, h2, h3⟩
      · rw [h1, h2]; exact ⟨rfl, fun d z => by cases z⟩
      · rw [h1, h2]; exact ⟨rfl, fun d z => by cases z; exact ⟨v, rfl, h3⟩⟩
  | @dT ks ds q ra =>
    simp only [if_true] at e
    cases hk : keysI kd with
    | none => rw [hk] at e; cases e
    | some k =>
      rw [hk] at e
      cases e
      obtain ⟨ek, b, rfl, eb⟩ := ry.keyT hk
      refine ⟨_, DGet.t q eb, ?_⟩
      rcases lookBy_ok (f := keysE) (g := fun k => PyData.tuple (k.map keyD)) (fun k => keysOf_map k) k ra with ⟨h1, h2⟩ | ⟨v, d, h1, h2, h3⟩
      · rw [h1, h2]; exact ⟨rfl, fun d z => by cases z⟩
      · rw [h1, h2]; exact ⟨rfl, fun d z => by cases z; exact ⟨v, rfl, h3⟩⟩
/-- what stands behind a put, over any later avoided places and heaps -/
theorem dPut_ok {a : Addr} {t : Bool} {kvs kvs' : List (D × D)} {y v : V} {kd x : D} (da : DicAt K α H a t kvs) (ry : Rep K α H y kd) (rx : Rep K α H v x) (e : dPutD t kvs kd x = some kvs') :
    ∃ o, DPut H a y v (upd H a o) ∧ ((∃ k, o = .dK k) ∨ ∃ k, o = .dT k) ∧ ∀ {β : List Addr}, Mv α H β (upd H a o) → DicAt K β (upd H a o) a t kvs' ∧ MRep K β (upd H a o) a (.dic t kvs') := by
  unfold dPutD at e
  split at e
  · rename_i hl
    cases da with
    | @dK ks ds q ra =>
      simp only [Bool.false_eq_true, if_false] at e
      have hlen : ks.length < sizeLine := by
        rw [List.length_zip, List.length_map, ← ra.length, List.length_map, Nat.min_self] at hl; exact hl
      cases hk : keyE kd with
      | none => rw [hk] at e; cases e
      | some k =>
        rw [hk] at e
        cases e
        have ek := keyE_eq hk
        subst ek
        rw [ry.key]
        obtain ⟨ds', h1, h2⟩ := putBy_ok (g := keyD) keyE_keyD k rx ra
        show ∃ o, DPut H a (kV k) v (upd H a o) ∧ _ ∧ ∀ {β : List Addr}, _ → DicAt K β (upd H a o) a false (putBy keyE _ k (keyD k) x) ∧ MRep K β (upd H a o) a (.dic false (putBy keyE _ k (keyD k) x))
        rw [h1]
        exact ⟨_, DPut.k q hlen, .inl ⟨_, rfl⟩, fun m => ⟨.dK upd_same (h2.mv m), .dK upd_same (h2.mv m)⟩⟩
    | @dT ks ds q ra =>
      simp only [if_true] at e
      have hlen : ks.length < sizeLine := by
        rw [List.length_zip, List.length_map, ← ra.length, List.length_map, Nat.min_self] at hl; exact hl
      cases hk : keysI kd with
      | none => rw [hk] at e; cases e
      | some k =>
        rw [hk] at e
        cases e
        obtain ⟨ek, b, rfl, eb⟩ := ry.keyT hk
        subst ek
        obtain ⟨ds', h1, h2⟩ := putBy_ok (f := keysE) (g := fun k => PyData.tuple (k.map keyD)) (fun k => keysOf_map k) k rx ra
        show ∃ o, DPut H a (.ref b) v (upd H a o) ∧ _ ∧ ∀ {β : List Addr}, _ → DicAt K β (upd H a o) a true (putBy keysE _ k (PyData.tuple (k.map keyD)) x) ∧ MRep K β (upd H a o) a (.dic true (putBy keysE _ k (PyData.tuple (k.map keyD)) x))
        rw [h1]
        exact ⟨_, DPut.t q eb hlen, .inr ⟨_, rfl⟩, fun m => ⟨.dT upd_same (h2.mv m), .dT upd_same (h2.mv m)⟩⟩
  · cases e
theorem DicAt.mv {β : List Addr} {H' : Hp} {a : Addr} {t : Bool} {kvs : List (D × D)} (m : Mv α H β H') (e : ∀ o, H a = some o → H' a = some o) (d : DicAt K α H a t kvs) : DicAt K β H' a t kvs := by
  cases d with
  | dK q r => exact .dK (e _ q) (r.mv m)
  | dT q r => exact .dT (e _ q) (r.mv m)
end
/-! ### rules -/
def eDIn (neg : Bool) (fk fd : MV) : MV := fun ρ h => (fk ρ h).bind fun k h1 => (fd ρ h1).bind fun u h2 => match k, dicV u h2 with
  | .d k, some (t, kvs) => (match dGetD t kvs k with
    | some o => .ok (.d (.bool (neg != o.isSome))) h2
    | none => .no)
  | _, _ => .no
def eDGet (fd fk : MV) : MV := fun ρ h => (fd ρ h).bind fun u h1 => (fk ρ h1).bind fun k h2 => match k, dicV u h2 with
  | .d k, some (t, kvs) => (match dGetD t kvs k with
    | some (some d) => .ok (.d d) h2
    | _ => .no)
  | _, _ => .no
/-- the dict is u's: the store with the pair put -/
def putS (u : Val) (k x : D) (h : Hs) : Option Hs := match u with
  | .r i => (match h[i]? with
    | some (.dic t kvs) => (dPutD t kvs k x).map fun kvs' => h.set i (.dic t kvs')
    | _ => none)
  | _ => none
def sDPut (fe fd fk : MV) : MS := fun ρ h => (fe ρ h).bindS ρ fun v h1 => (fd ρ h1).bindS ρ fun u h2 => (fk ρ h2).bindS ρ fun k h3 => match v, k with
  | .d x, .d k => (match putS u k x h3 with
    | some h4 => .nx ρ h4
    | none => .no)
  | _, _ => .no
def eDicM (t : Bool) : MV := fun _ h => .ok (.r h.length) (h ++ [.dic t []])
section
variable {X : Cx} {pos : Pos}
theorem ee_dnewT : EE X (.Dict [] [] pos) (eDicM true) := ⟨fun W tk => ⟨_, pe_dnewT, fun ζ ι ρ hs σ H Q er s k => fun q hq => by
  obtain ⟨s2, ex⟩ := s.push (o := .dT []) hq (m := .dic true []) (.dT (kvs := []) (ds := []) upd_same .nil)
  exact k _ _ _ ex s2 (.r (by rw [← s.len, List.getElem?_append_right (Nat.le_refl _), Nat.sub_self]; rfl))⟩⟩
theorem ee_dnewK : EE X (.Dict [] [] pos) (eDicM false) := ⟨fun W tk => ⟨_, pe_dnewK, fun ζ ι ρ hs σ H Q er s k => fun q hq => by
  obtain ⟨s2, ex⟩ := s.push (o := .dK []) hq (m := .dic false []) (.dK (kvs := []) (ds := []) upd_same .nil)
  exact k _ _ _ ex s2 (.r (by rw [← s.len, List.getElem?_append_right (Nat.le_refl _), Nat.sub_self]; rfl))⟩⟩
theorem ee_dget {o i : Expr} {fo fi : MV} (hu : X.A.units + 1 < cLine) (ho : EE X o fo) (hi : EE X i fi) (hs : NoSl i := by exact fun _ _ => rfl) : EE X (.Subscript o i pos) (eDGet fo fi) := ⟨fun W tk => by
  obtain ⟨to, po, qo⟩ := ho.run W tk
  obtain ⟨ti, pi, qi⟩ := hi.run W tk
  refine ⟨_, pe_dget hu po pi hs, fun ζ ι ρ hs σ H Q er s k => ?_⟩
  refine qo ζ ι ρ hs σ H _ er s (Kt.bind k fun u h1 x H1 ι1 e1 s1 r1 k1 => ?_)
  refine qi ζ ι1 ρ h1 σ H1 _ (er.mv s e1) s1 (Kt.bind k1 fun w h2 y H2 ι2 e2 s2 r2 k2 => ?_)
  split at k2
  · rename_i kd t kvs ed
    split at k2
    · rename_i d eg
      obtain ⟨a, rfl, da⟩ := dicV_ok s2 (r1.mv s1 e2) ed
      cases r2 with
      | d r2 =>
        obtain ⟨o', g, _, hv⟩ := dGet_ok da r2 eg
        obtain ⟨v, rfl, rv⟩ := hv d rfl
        exact ⟨a, v, rfl, g, k2.here s2 (fun _ _ h => h) (.d rv)⟩
    · exact k2.elim
  · exact k2.elim⟩
theorem din_reads {ζ ι : List Addr} {ρ : Env} {hs : Hs} {σ : L2.St} {H : Hp} {W : WX} {fk fd : MV} {neg : Bool} {tk td : TE} {Q : VK} (er : ERep X.K ζ ι H σ ρ) (s : Sim X.K ζ ι H hs)
    (qk : ∀ (ζ ι : List Addr) (ρ : Env) (hs : Hs) (σ : L2.St) (H : Hp) (Q : VK), ERep X.K ζ ι H σ ρ → Sim X.K ζ ι H hs → Kt X.K ζ (VRep X.K ζ) ι H (fk ρ hs) Q (WE W σ) → tk σ H Q)
    (qd : ∀ (ζ ι : List Addr) (ρ : Env) (hs : Hs) (σ : L2.St) (H : Hp) (Q : VK), ERep X.K ζ ι H σ ρ → Sim X.K ζ ι H hs → Kt X.K ζ (VRep X.K ζ) ι H (fd ρ hs) Q (WE W σ) → td σ H Q)
    (k : Kt X.K ζ (VRep X.K ζ) ι H (eDIn neg fk fd ρ hs) Q (WE W σ)) : tk σ H fun y H1 => td σ H1 fun x H2 => ∃ a o, x = .ref a ∧ DGet H2 a y o ∧ Q (.bl (neg != o.isSome)) H2 := by
  refine qk ζ ι ρ hs σ H _ er s (Kt.bind k fun u h1 x H1 ι1 e1 s1 r1 k1 => ?_)
  refine qd ζ ι1 ρ h1 σ H1 _ (er.mv s e1) s1 (Kt.bind k1 fun w h2 y H2 ι2 e2 s2 r2 k2 => ?_)
  split at k2
  · rename_i kd t kvs ed
    split at k2
    · rename_i o eg
      obtain ⟨a, rfl, da⟩ := dicV_ok s2 r2 ed
      have r1' := r1.mv s1 e2
      cases r1' with
      | d r1' =>
        obtain ⟨o', g, ho, _⟩ := dGet_ok da r1' eg
        exact ⟨a, o', rfl, g, k2.here s2 (fun _ _ h => h) (by rw [ho]; exact .d (.bl _))⟩
    · exact k2.elim
  · exact k2.elim
theorem bne_false (b : Bool) : (false != b) = b := by cases b <;> rfl
theorem bne_true (b : Bool) : (true != b) = !b := by cases b <;> rfl
theorem ee_din {i o : Expr} {fo fi : MV} (hu : X.A.units + 1 < cLine) (hi : EE X i fi) (ho : EE X o fo) (hm : behindInMarks .In o = false := by rfl) : EE X (.Compare i [.In] [o] pos) (eDIn false fi fo) := ⟨fun W tk => by
  obtain ⟨to, po, qo⟩ := ho.run W tk
  obtain ⟨ti, pi, qi⟩ := hi.run W tk
  refine ⟨_, pe_cmp (pc_din hu pi po) hm, fun ζ ι ρ hs σ H Q er s k => ?_⟩
  have z := din_reads er s qi qo k
  simp only [bne_false] at z
  exact z⟩
theorem ee_dnotin {i o : Expr} {fo fi : MV} (hu : X.A.units + 1 < cLine) (hi : EE X i fi) (ho : EE X o fo) (hm : behindInMarks .NotIn o = false := by rfl) : EE X (.Compare i [.NotIn] [o] pos) (eDIn true fi fo) := ⟨fun W tk => by
  obtain ⟨to, po, qo⟩ := ho.run W tk
  obtain ⟨ti, pi, qi⟩ := hi.run W tk
  refine ⟨_, pe_cmp (pc_dnotin hu pi po) hm, fun ζ ι ρ hs σ H Q er s k => ?_⟩
  have z := din_reads er s qi qo k
  simp only [bne_true] at z
  exact z⟩
/-- a test by a value's own rule -/
theorem Kt.tval {ζ ι : List Addr} {H : Hp} {r : R Val} {Q : Bool → Hp → Prop} {E : XK} {K : PySem.W.Frag} (k : Kt K ζ (fun _ _ b b' => b = b') ι H (r.bind fun u h1 => R.opt (asB u) h1) Q E) : Kt K ζ (VRep K ζ) ι H r (fun v H' => ∃ b, v = .bl b ∧ Q b H') E := by
  cases r with
  | ok u h =>
    intro v H' ι' e s vr
    obtain ⟨b, eb, k⟩ := Kt.opt k
    exact ⟨b, asB_ok vr eb, k b H' ι' e s rfl⟩
  | ex c v h => exact k
  | no => exact k
theorem et_din {i o : Expr} {fo fi : MV} (hu : X.A.units + 1 < cLine) (hi : EE X i fi) (ho : EE X o fo) (hm : behindInMarks .In o = false := by rfl) : ET X (.Compare i [.In] [o] pos) (tVal (eDIn false fi fo)) := ⟨fun W tk => by
  obtain ⟨to, po, qo⟩ := ho.run W tk
  obtain ⟨ti, pi, qi⟩ := hi.run W tk
  refine ⟨_, pt_cmp (pc_din hu pi po) hm, fun ζ ι ρ hs σ H Q er s k => ?_⟩
  have z := din_reads er s qi qo (Kt.tval k)
  simp only [bne_false] at z
  exact z⟩
theorem et_dnotin {i o : Expr} {fo fi : MV} (hu : X.A.units + 1 < cLine) (hi : EE X i fi) (ho : EE X o fo) (hm : behindInMarks .NotIn o = false := by rfl) : ET X (.Compare i [.NotIn] [o] pos) (tVal (eDIn true fi fo)) := ⟨fun W tk => by
  obtain ⟨to, po, qo⟩ := ho.run W tk
  obtain ⟨ti, pi, qi⟩ := hi.run W tk
  refine ⟨_, pt_cmp (pc_dnotin hu pi po) hm, fun ζ ι ρ hs σ H Q er s k => ?_⟩
  have z := din_reads er s qi qo (Kt.tval k)
  simp only [bne_true] at z
  exact z⟩
theorem putS_ok {K : PySem.W.Frag} {ζ ι : List Addr} {H : Hp} {hs hs' : Hs} {v y w : V} {u : Val} {kd x : D} (s : Sim K ζ ι H hs) (ru : VRep K ζ ι H w u) (ry : Rep K (ζ ++ ι) H y kd) (rx : Rep K (ζ ++ ι) H v x) (e : putS u kd x hs = some hs') :
    ∃ a H', w = .ref a ∧ DPut H a y v H' ∧ Ext ι H ι H' ∧ Sim K ζ ι H' hs' := by
  unfold putS at e
  split at e
  · rename_i i
    split at e
    · rename_i t kvs em
      cases ep : dPutD t kvs kd x with
      | none => rw [ep] at e; cases e
      | some kvs' =>
        rw [ep] at e
        cases e
        cases ru with
        | @r a _ q =>
          have z := s.at_ i a _ q em
          have da : DicAt K (ζ ++ ι) H a t kvs := by
            cases z with
            | dK z1 z2 => exact .dK z1 z2
            | dT z1 z2 => exact .dT z1 z2
          obtain ⟨o, dp, _, hm⟩ := dPut_ok da ry rx ep
          obtain ⟨s2, e2⟩ := s.store (m := .dic t kvs') q (hm (s.storeMv o q)).2
          exact ⟨a, _, rfl, dp, e2, s2⟩
    · cases e
  · cases e
theorem ss_dput {o i e : Expr} {fe fo fi : MV} {tpos : Pos} (hu : X.A.units + 1 < cLine) (he : EE X e fe) (ho : EE X o fo) (hi : EE X i fi) (hs : swapsWith e (some (.Subscript o i tpos)) pos.line X.env = pure false := by rfl) :
    SS X (.Assign [.Subscript o i tpos] e pos) (sDPut fe fo fi) := ⟨fun W tk => by
  obtain ⟨te, pe, qe⟩ := he.run W tk
  obtain ⟨to, po, qo⟩ := ho.run W tk
  obtain ⟨ti, pi, qi⟩ := hi.run W tk
  refine ⟨_, ps_dput hu po pi pe hs, fun ζ ι ρ hs σ H D er s k => ?_⟩
  refine qe ζ ι ρ hs σ H _ er s (Ks.bind k er s fun v h1 x H1 ι1 e1 s1 r1 k1 => ?_)
  have er1 := er.mv s e1
  refine qo ζ ι1 ρ h1 σ H1 _ er1 s1 (Ks.bind k1 er1 s1 fun u h2 y H2 ι2 e2 s2 r2 k2 => ?_)
  have er2 := er1.mv s1 e2
  refine qi ζ ι2 ρ h2 σ H2 _ er2 s2 (Ks.bind k2 er2 s2 fun w h3 z H3 ι3 e3 s3 r3 k3 => ?_)
  have er3 := er2.mv s2 e3
  have r1' := (r1.mv s1 e2).mv s2 e3
  have r2' := r2.mv s2 e3
  split at k3
  · rename_i dx dk
    split at k3
    · rename_i h4 ep
      cases r1' with
      | d r1' =>
        cases r3 with
        | d r3 =>
          obtain ⟨a, H4, rfl, dp, ex, s4⟩ := putS_ok s3 r2' r3 r1' ep
          exact ⟨a, H4, rfl, dp, (k3.mv ex).nx s4 (er3.mv s3 ex)⟩
    · exact k3.elim
  · exact k3.elim⟩
end
end DL

set_option Elab.async false
set_option linter.all false
set_option maxRecDepth 100000
set_option maxHeartbeats 1000000
namespace DL
open PySem PySem.Spec PyProof.Rows L2

/-! ### dict comprehensions, the keys of either kind -/
theorem dict_store {X : Cx} {pins : List (Addr × Obj)} {σ : L2.St} {H H' : Hp} {s : Shared} {a : Addr} {y v : V} {u r : Value} {E : Value → Shared → Prop} {Q : Unit → Shared → Prop} (hu : X.A.units + 1 < cLine) (I : Inv X pins σ H s) (g : DPut H a y v H') (ry : RelV y u) (rv : RelV v r)
    (h : ∀ s', Inv X pins σ H' s' → Q () s') : wpAny (model X.prog X.w) X.A (dictSet a u r) Q E s := by
  rcases g with ⟨kvs, k, e, ey, l, rfl⟩ | ⟨kvs, k, b, e, ey, eb, l, rfl⟩
  · subst ey
    exact d_dictSet I e l ry rv h
  · subst ey
    cases (show u = Value.ref b from ry)
    obtain ⟨le, ns, ts, tr, td⟩ := dt_of I.hok e
    have short : ts.length ≤ sizeLine := Paired.length tr ▸ le
    have still : (putK kvs k v).length ≤ sizeLine := Nat.le_trans (length_putK kvs k v) l
    refine wpAny_dictSet_heap (hsz := short) (show (tupleKind (mixKind X.prog X.w)).room X.A from Nat.lt_of_succ_lt hu) (key_of I.hok eb) td fun heap2 made same => h _ ?_
    obtain ⟨ob, arr, ep, at2, m2, m3, m4, _, m5⟩ := made
    have kept : KT (upd H a (.dT (putK kvs k v))) (putK kvs k v) (storedH ts k b r) := (tr.put k eb rv).keeps fun c ys hc => (upd_ne (ne_of hc e (fun z => nomatch z))).trans hc
    exact d_write I (by rw [e]; exact True.intro) same ⟨ob, at2⟩ ⟨still, ns, _, kept, ob, arr, ep, at2, m2, m3, m4, m5⟩
/-- o0: the new dict as it is first -/
def tDcB (o0 : HO) (wi : TI) (g : TG) (tt : TT) (tk tv : TE) (vs : List Nat) : TE := fun σ H Q => wi σ H fun J H1 => ∀ D, H1 D = none →
  ∃ W : Nat → Nat → Hp → Prop, (∃ m, W 0 m (upd H1 D o0)) ∧ ∀ i m H, W i m H → (J.stop i H ∧ Q (.ref D) H) ∨ (J.go i H ∧ ∃ Nx : Hp → Prop, (∀ H', Nx H' → ∃ m', m' < m ∧ W (i + 1) m' H') ∧
    ∀ x H', J.yld i H x H' → g x (wipe σ vs) H' fun σ2 H2 => wipe σ2 vs = wipe σ vs ∧ tt σ2 H2 fun b H3 => if b = true then tk σ2 H3 fun y H4 => tv σ2 H4 fun z H5 => ∃ H6, DPut H5 D y z H6 ∧ Nx H6 else Nx H3)
abbrev nObj : Obj := { cls := .type "dict", data := .dict #[] }
section
variable {X : Cx}
abbrev InBlk (X : Cx) (scope : Scope) (P : Cx → Prop) : Prop := ∀ (s : Shared) (H : Hp) (C : Addr) (cl : List (Str × Addr)) (fp : List Addr), P (X.blk s H scope (compEnvC scope cl C X.env) fp)
theorem dcB_core {pins : List (Addr × Obj)} {s : Shared} {σ : L2.St} {H : Hp} {Q : VK} {kx vx tg iter : Expr} {ifs : List Expr} {scope : Scope} {own : List (Str × Nat)} {pos pos' : Pos} {wi : TI} {g : TG} {tt : TT} {tk tv : TE} {use : Option (Value → Sem Unit)} {Qf : Value → Shared → Prop}
    {o0 : HO} (ho : o0 = .dK [] ∨ o0 = .dT []) (hu : X.A.units + 1 < cLine) (hc : X.calm = true) (hN : X.N.Nodup) (I : Inv X pins σ H s) (hi : PI X tg iter wi) (ok : BlkOk X.N X.env.scope scope own)
    (hg : InBlk X scope fun Y => PG Y tg g) (ht : InBlk X scope fun Y => PTs Y ifs tt) (hk : InBlk X scope fun Y => PE Y kx tk) (he : InBlk X scope fun Y => PE Y vx tv) (hs : ∀ x, foldedSetIterable iter X.env x = pure x)
    (h : tDcB o0 wi g tt tk tv (own.map (·.2)) σ H Q)
    (hR : ∀ D C s' m H', Inv X pins σ H' s' → Q (.ref D) H' → s'.heap.Ns C m → FpOk X pins H' C → compPost (model X.prog X.w) X.A X.xe use Qf (.ref D) C (.ok .next) s') :
    wpAny (model X.prog X.w) X.A (comprehension (.DictComp kx vx [⟨tg, iter, ifs, 0⟩] scope pos) scope X.env pos' newDict false (eval iter X.env) use) Qf X.xe s := by
  have cells : ∀ y ∈ scope.names, y.2 = .free → ∃ c, X.env.cells.lookup y.1 = some c := fun y hy e =>
    (ok.free y hy e).elim (fun k => I.ok.has _ (.inl k)) (fun k => I.ok.has _ (.inr k))
  have once := fun y hy (e : y.2 = .local) => (ok.uniq y hy).trans (congrArg _ e)
  refine wpAny_comprehension_free (use := use) rfl hs (closure_ok cells) ok.kind once (thn (hi.run pins s σ H _ I h) fun _ sa ia => thn ia fun _ sb ib => ?_)
  obtain ⟨it, fp, tn, J, Hb, rfl, Ib, T, stb, fpb, q⟩ := ib
  refine wpAny_newObj_type (newEnv_comp ?_)
  obtain ⟨D, hD⟩ : ∃ D, sb.heap.objs.size = D := ⟨_, rfl⟩
  rw [hD]
  have noD : Hb D = none := Ib.hok.fresh (Nat.le_of_eq hD)
  obtain ⟨W, ⟨m0, wStart⟩, turn⟩ := q D noD
  -- the dict is made
  obtain ⟨sc, hsc⟩ : ∃ sc : Shared, ({ sb with heap := sb.heap.push nObj } : Shared) = sc := ⟨_, rfl⟩
  rw [hsc]
  have hpc : sc.heap = sb.heap.push nObj := congrArg Shared.heap hsc.symm
  have Ic : Inv X pins σ (upd Hb D o0) sc := by
    subst hsc
    refine Ib.laid (t' := sb.toks) (fun b o e => Heap.get?_push_of_some _ e) (Nat.le_of_eq hD) ?_
    subst hD
    rcases ho with rfl | rfl
    · exact dk_empty sb.heap Ib.big
    · exact dt_empty sb.heap Ib.big
  have fpc : ∀ b ∈ fp, FpOk X pins (upd Hb D o0) b ∧ b < sc.heap.objs.size := fun b hb => by
    obtain ⟨o, eo, _⟩ := T.obj _ _ stb b hb
    have below : b < sb.heap.objs.size := Heap.lt_size eo
    have away : b ≠ D := by subst hD; exact Nat.ne_of_lt below
    exact ⟨⟨(upd_ne away).trans (fpb b hb).1, (fpb b hb).2⟩, by rw [hpc, Heap.size_push]; exact Nat.lt_succ_of_lt below⟩
  have stc : tn 0 sc.heap := T.keep _ _ _ stb fun b _ o e => hpc ▸ Heap.get?_push_of_some _ e
  have Id := block_start Ic ok hN fpc
  obtain ⟨cl, hcl⟩ : ∃ cl, cellsFrom (sc.heap.objs.size + 1) scope.names (cloFrom X.env.cells scope.names []) = cl := ⟨_, rfl⟩
  rw [hcl] at Id
  show codeAny _ _ (.compStart (.DictComp kx vx [⟨tg, iter, ifs, 0⟩] scope pos) 0 (.ref it) (.ref D) (compEnvC scope (cellsFrom (sc.heap.objs.size + 1) scope.names (cloFrom X.env.cells scope.names [])) sc.heap.objs.size X.env)) (compPost (model X.prog X.w) X.A X.xe use Qf (.ref D) sc.heap.objs.size) { sc with heap := pushCells (sc.heap.push nObj) scope.names }
  rw [hcl]
  have rg := hg sc (upd Hb D o0) sc.heap.objs.size cl fp
  have rt := ht sc (upd Hb D o0) sc.heap.objs.size cl fp
  have rk := hk sc (upd Hb D o0) sc.heap.objs.size cl fp
  have rv := he sc (upd Hb D o0) sc.heap.objs.size cl fp
  have away : ∀ b ∈ fp, (upd Hb D o0) b = none := fun b hb => (fpc b hb).1.1
  obtain ⟨ce, hce⟩ : ∃ ce, compEnvC scope cl sc.heap.objs.size X.env = ce := ⟨_, rfl⟩
  have locs : ce.locals = sc.heap.objs.size := hce ▸ rfl
  rw [hce] at Id rg rt rk rv ⊢
  obtain ⟨Hc, hHc⟩ : ∃ Hc, upd Hb D o0 = Hc := ⟨_, rfl⟩
  rw [hHc] at Ic Id rg rt rk rv wStart away fpc
  obtain ⟨sd, hsd⟩ : ∃ sd : Shared, ({ sc with heap := pushCells (sc.heap.push nObj) scope.names } : Shared) = sd := ⟨_, rfl⟩
  rw [hsd] at Id ⊢
  have std : tn 0 sd.heap := T.keep _ _ _ stc fun b _ o e => hsd ▸ pushCells_keeps _ _ _ _ (Heap.get?_push_of_some _ e)
  have free : ∀ {σ' : L2.St} {H' : Hp} {s' : Shared}, Inv (X.blk sc Hc scope ce fp) [] σ' H' s' → (∀ b ∈ fp, H' b = none) → ∀ b ∈ fp, FpOk (X.blk sc Hc scope ce fp) [] H' b := fun J' hn b hb =>
    ⟨hn b hb, (J'.ok.exf b hb).1, J'.ok.exfs b hb, .inl hb, fun x c e => (J'.ok.exf b hb).2 x c e, fun p hp => nomatch (show p ∈ ([] : List (Addr × Obj)) from hp)⟩
  let At : Nat → Shared → Prop := fun n s' => ∃ i H', Inv (X.blk sc Hc scope ce fp) [] (wipe σ (own.map (·.2))) H' s' ∧ tn i s'.heap ∧ (∀ b ∈ fp, H' b = none) ∧ W i n H'
  have loop : codeAny (model X.prog X.w) X.A (.compLoop (.DictComp kx vx [⟨tg, iter, ifs, 0⟩] scope pos) 0 (.ref it) (.ref D) ce) (compPost (model X.prog X.w) X.A X.xe use Qf (.ref D) sc.heap.objs.size) sd := by
    refine compLoop_anyD At ?_ m0 ⟨0, Hc, Id, std, away, wStart⟩
    rintro n se ⟨i, He, Ie, ste, ne, we⟩
    rcases turn i n He we with ⟨stop, qEnd⟩ | ⟨go, Nx, later, step⟩
    · refine thnF (T.done (X.blk sc Hc scope ce fp) rfl rfl rfl hc i [] se _ He (fun _ _ => False) Ie (free Ie ne) ste stop) fun _ sf ⟨hr, If⟩ => ?_
      subst hr
      have back : Inv X pins σ He sf := Ic.call' (ch := fp) If.os If.base If.hok If.bare fun b hb => by
        obtain ⟨_, z2, z3, z4, z5⟩ := (fpc b hb).1
        exact ⟨z4, z2, z5.1, z5.2⟩
      have noC : He sc.heap.objs.size = none := by
        rw [← locs]
        exact If.free
      obtain ⟨m, hn, _⟩ := If.loc
      refine hR D sc.heap.objs.size sf m He back qEnd ?_ (Ic.fpOk (Nat.le_refl _) noC)
      rw [← locs]
      exact hn
    · refine thnF (T.item (X.blk sc Hc scope ce fp) rfl rfl rfl hc i [] se _ He (fun _ _ => False) Ie (free Ie ne) ste go) fun _ sf ⟨u, hr, hf⟩ => ?_
      subst hr
      refine thnF hf fun _ sg ⟨x, Hg, Ig, rx, yx, stg, ng⟩ => ?_
      have Ig' := Ig.pinned (free Ig ng) (T.obj _ _ stg)
      refine thnF (rg.run _ sg _ Hg x u _ Ig' rx (step x Hg yx)) fun _ sh ⟨σh, Hh, Ih, same, qh⟩ => ?_
      have fin : ∀ {s' : Shared} {H' : Hp}, Inv (X.blk sc Hc scope ce fp) ([] ++ pinsAt fp sg.heap) σh H' s' → Nx H' → ∃ m, m < n ∧ At m s' := fun {s' H'} Iz nx => by
        obtain ⟨m', lt, w'⟩ := later H' nx
        have stay : ∀ b ∈ fp, ∀ o, sg.heap.get? b = some o → s'.heap.get? b = some o ∧ H' b = none := fun b hb o eo =>
          have z := Iz.pin (b, o) (List.mem_append_right _ (List.mem_append_right _ (mem_pinsAt hb eo)))
          ⟨z.1, z.2.1⟩
        refine ⟨m', lt, i + 1, H', (Iz.unpinned (pins := [])).weak (by rw [← same, wipe_length]) (fun j v e => (wipe_some (same ▸ e)).1), T.keep _ _ _ stg fun b hb o eo => (stay b hb o eo).1, fun b hb => ?_, w'⟩
        obtain ⟨o, eo, _⟩ := T.obj _ _ stg b hb
        exact (stay b hb o eo).2
      refine thnF (rt.run _ sh σh Hh _ Ih qh) fun b si ⟨Hi, Ii, qi⟩ => ?_
      cases b with
      | false => exact fin Ii qi
      | true =>
        refine thnF (rk.run _ si σh Hi _ Ii qi) fun _ sj ⟨yk, Hj, Ij, rj, qj⟩ => ?_
        refine thnF (rv.run _ sj σh Hj _ Ij qj) fun _ sl ⟨yv, Hl, Il, rl, Hm, put, nx⟩ => ?_
        exact dict_store (X := X.blk sc Hc scope ce fp) hu Il put rj rl fun _ Im => fin Im nx
  exact codeAny_compStart_dict loop (T.self X.A 0 _ _ _ std loop)
theorem pe_dcB {kx vx tg iter : Expr} {ifs : List Expr} {scope : Scope} {own : List (Str × Nat)} {pos : Pos} {wi : TI} {g : TG} {tt : TT} {tk tv : TE} {o0 : HO} (ho : o0 = .dK [] ∨ o0 = .dT []) (hu : X.A.units + 1 < cLine) (hc : X.calm = true) (hN : X.N.Nodup) (hi : PI X tg iter wi) (ok : BlkOk X.N X.env.scope scope own)
    (hg : InBlk X scope fun Y => PG Y tg g) (ht : InBlk X scope fun Y => PTs Y ifs tt) (hk : InBlk X scope fun Y => PE Y kx tk) (he : InBlk X scope fun Y => PE Y vx tv) (hs : ∀ x, foldedSetIterable iter X.env x = pure x) :
    PE X (.DictComp kx vx [⟨tg, iter, ifs, 0⟩] scope pos) (tDcB o0 wi g tt tk tv (own.map (·.2))) := ⟨fun pins s σ H Q I h => by
  rw [arm_eval_DictComp]
  refine dcB_core ho hu hc hN I hi ok hg ht hk he hs h fun D C s' m H' I' q hn f => ⟨m, hn, fun _ sb => ?_⟩
  obtain ⟨f0, f1, f2, f3, f4, f5⟩ := f
  exact ⟨.ref D, H', I'.turned (t' := s'.toks) (fun b o hb e => (sb.2 b hb).trans e) f0 f1 f3 f4 f5, rfl, q⟩⟩
end
/-! ### what it means -/
open Classical in
noncomputable def compDR (t : Bool) (g : List (Nat × List D)) (gt : MG) (ft : Env → Hs → R Bool) (fk fe : MV) (ρ : Env) : List D → Hs → List (D × D) → Option (List (D × D) × Hs)
  | [], h, acc => if Chk g h then some (acc, h) else none
  | d :: ds, h, acc => if Chk g h then (match gt (.d d) ρ h with
    | .ok ρ1 h1 => (match ft ρ1 h1 with
      | .ok true h2 => (match fk ρ1 h2 with
        | .ok (.d k) h3 => (match fe ρ1 h3 with
          | .ok (.d x) h4 => (match dPutD t acc k x with
            | some acc' => compDR t g gt ft fk fe ρ ds h4 acc'
            | none => none)
          | _ => none)
        | _ => none)
      | .ok false h2 => compDR t g gt ft fk fe ρ ds h2 acc
      | _ => none)
    | _ => none) else none
def mkDM (t : Bool) (o : Option (List (D × D) × Hs)) : R Val := match o with
  | some (kvs, h) => .ok (.r h.length) (h ++ [.dic t kvs])
  | none => .no
noncomputable def eDcM (t : Bool) (vs : List Nat) (fi : MI) (gt : MG) (ft : Env → Hs → R Bool) (fk fe : MV) : MV := fun ρ h => (fi ρ h).bind fun p h1 => mkDM t (compDR t p.2 gt ft fk fe (wipeD ρ vs) p.1 h1 [])
def dNew (t : Bool) : HO := if t = true then .dT [] else .dK []
section
variable {K : PySem.W.Frag} {ζ ι : List Addr} {H : Hp} {hs : Hs}
abbrev MutO (o : HO) : Prop := IsM o
theorem Sim.making' (s : Sim K ζ ι H hs) {q : Addr} (hq : H q = none) {o : HO} (mo : MutO o) : Sim K (q :: ζ) ι (upd H q o) hs ∧ ∀ {v : V} {d : D}, Rep K (ζ ++ ι) H v d → Rep K (q :: ζ ++ ι) (upd H q o) v d := by
  have fr := s.fresh hq
  have mv : Mv (ζ ++ ι) H (q :: ζ ++ ι) (upd H q o) := ⟨fun a u h n => ⟨same_new hq a u h, fun m => by
    rcases List.mem_cons.mp m with e | m
    · rw [e, hq] at h; cases h
    · exact n m⟩, s.mvA⟩
  refine ⟨⟨List.nodup_cons.mpr ⟨fr, s.nd⟩, s.len, fun i a m h1 h2 => ?_, fun a m => ?_⟩, fun r => r.mv mv⟩
  · have z := s.at_ i a m h1 h2
    cases z with
    | lst z r => exact .lst (same_new hq _ _ z) (r.mv mv)
    | dK z r => exact .dK (same_new hq _ _ z) (r.mv mv)
    | dT z r => exact .dT (same_new hq _ _ z) (r.mv mv)
    | dN z ok k r => exact .dN (same_new hq _ _ z) ok (k.mv mv) (r.mv mv)
  · rcases List.mem_cons.mp m with e | m
    · rw [e]
      exact ⟨_, upd_same, mo⟩
    · obtain ⟨x, z, im⟩ := s.ap a m
      exact ⟨x, same_new hq _ _ z, im⟩
theorem Sim.grow' {q : Addr} (s : Sim K (q :: ζ) ι H hs) {o : HO} (mo : MutO o) : Sim K (q :: ζ) ι (upd H q o) hs ∧ Mv (q :: ζ ++ ι) H (q :: ζ ++ ι) (upd H q o) := by
  have mv : Mv (q :: ζ ++ ι) H (q :: ζ ++ ι) (upd H q o) := ⟨fun a u h n => ⟨by
    rw [upd_ne (fun e => n (by rw [e]; exact List.mem_cons_self))]; exact h, n⟩, s.mvA⟩
  have nq : ∀ {a : Addr}, a ∈ ζ ++ ι → a ≠ q := fun {a} m e => (List.nodup_cons.mp s.nd).1 (e ▸ m)
  refine ⟨⟨s.nd, s.len, fun i a m h1 h2 => ?_, fun a m => ?_⟩, mv⟩
  · have z := s.at_ i a m h1 h2
    have ne : a ≠ q := nq (List.mem_append_right _ (List.mem_of_getElem? h1))
    cases z with
    | lst z r => exact .lst (by rw [upd_ne ne]; exact z) (r.mv mv)
    | dK z r => exact .dK (by rw [upd_ne ne]; exact z) (r.mv mv)
    | dT z r => exact .dT (by rw [upd_ne ne]; exact z) (r.mv mv)
    | dN z ok k r => exact .dN (by rw [upd_ne ne]; exact z) ok (k.mv mv) (r.mv mv)
  · by_cases e : a = q
    · rw [e]
      exact ⟨_, upd_same, mo⟩
    · obtain ⟨x, z, im⟩ := s.ap a m
      exact ⟨x, by rw [upd_ne e]; exact z, im⟩
theorem Sim.made' {q : Addr} {m : MO} (s : Sim K (q :: ζ) ι H hs) (r : MRep K (ζ ++ (ι ++ [q])) H q m) : Sim K ζ (ι ++ [q]) H (hs ++ [m]) := by
  have sub : ∀ a ∈ ζ ++ (ι ++ [q]), a ∈ q :: ζ ++ ι := fun a m => by
    simp only [List.mem_append, List.mem_cons, List.mem_nil_iff, or_false, List.cons_append] at m ⊢
    rcases m with m | m | m
    · exact .inr (.inl m)
    · exact .inr (.inr m)
    · exact .inl m
  have nd := List.nodup_cons.mp s.nd
  refine ⟨?_, by simp [s.len], fun i a m h1 h2 => ?_, fun a m => s.ap a (List.mem_cons_of_mem _ m)⟩
  · rw [← List.append_assoc]
    refine List.nodup_append.mpr ⟨nd.2, by simp, fun a ha b hb => ?_⟩
    have e : b = q := by simpa using hb
    rw [e]
    rintro rfl
    exact nd.1 ha
  · by_cases hi : i < ι.length
    · rw [List.getElem?_append_left hi] at h1
      rw [List.getElem?_append_left (by rw [← s.len]; exact hi)] at h2
      have z := s.at_ i a m h1 h2
      cases z with
      | lst z r => exact .lst z (r.sub sub)
      | dK z r => exact .dK z (r.sub sub)
      | dT z r => exact .dT z (r.sub sub)
      | dN z ok k r => exact .dN z ok (k.sub sub) (r.sub sub)
    · have e : i = ι.length := by
        have := (List.getElem?_eq_some_iff.mp h1).1
        rw [List.length_append, List.length_singleton] at this
        omega
      rw [e, List.getElem?_append_right (Nat.le_refl _), Nat.sub_self] at h1
      rw [e, s.len, List.getElem?_append_right (Nat.le_refl _), Nat.sub_self] at h2
      cases h1
      cases h2
      exact r
theorem DicAt.sub {α β : List Addr} {a : Addr} {t : Bool} {kvs : List (D × D)} (p : ∀ a ∈ β, a ∈ α) (d : DicAt K α H a t kvs) : DicAt K β H a t kvs := by
  cases d with
  | dK q r => exact .dK q (r.sub p)
  | dT q r => exact .dT q (r.sub p)
theorem DicAt.m {α : List Addr} {a : Addr} {t : Bool} {kvs : List (D × D)} (d : DicAt K α H a t kvs) : MRep K α H a (.dic t kvs) := by
  cases d with
  | dK q r => exact .dK q r
  | dT q r => exact .dT q r
theorem DicAt.new {α : List Addr} {a : Addr} {t : Bool} (e : H a = some (dNew t)) : DicAt K α H a t [] := by
  cases t with
  | false => exact .dK (kvs := []) (ds := []) e .nil
  | true => exact .dT (kvs := []) (ds := []) e .nil
theorem dNew_mut (t : Bool) : MutO (dNew t) := by
  cases t
  · exact .inr (.inl ⟨_, rfl⟩)
  · exact .inr (.inr (.inl ⟨_, rfl⟩))
theorem dc_loop {ι1 : List Addr} {H1 : Hp} {h1 : Hs} {J : It} {t : Bool} {its : List D} {g : List (Nat × List D)} {gt : MG} {ft : Env → Hs → R Bool} {fk fe : MV} {vs ws : List Nat} {σ : L2.St} {ρ : Env} {Q : VK} {ds : List (D × D)} {hE : Hs}
    (hv : ∀ i ∈ ws, i ∈ vs) (s1 : Sim K ζ ι1 H1 h1) (er : ERep K ζ ι1 H1 σ ρ) (io : IterOk K ζ ι1 H1 J its g) (hc : compDR t g gt ft fk fe (wipeD ρ vs) its h1 [] = some (ds, hE))
    (fin : ∀ q ι H, H1 q = none → Ext ι1 H1 ι H → Sim K (q :: ζ) ι H hE → DicAt K (q :: ζ ++ ι) H q t ds → Q (.ref q) H) :
    ∀ D, H1 D = none → ∃ W : Nat → Nat → Hp → Prop, (∃ m, W 0 m (upd H1 D (dNew t))) ∧ ∀ i m H, W i m H →
      (J.stop i H ∧ Q (.ref D) H) ∨ (J.go i H ∧ ∃ Nx : Hp → Prop, (∀ H', Nx H' → ∃ m', m' < m ∧ W (i + 1) m' H') ∧ ∀ x H', J.yld i H x H' → tG K ws gt x (wipe σ vs) H' fun σ2 H2 => wipe σ2 vs = wipe σ vs ∧ tT K ft W0 σ2 H2 fun b H3 =>
        if b = true then tE K fk W0 σ2 H3 fun y H4 => tE K fe W0 σ2 H4 fun z H5 => ∃ H6, DPut H5 D y z H6 ∧ Nx H6 else Nx H3) := by
  intro D hD
  have mk := s1.making' hD (dNew_mut t)
  have hz : ∀ a ∈ D :: ζ, a ∈ ζ ∨ H1 a = none := fun a m => by
    rcases List.mem_cons.mp m with e | m
    · rw [e]; exact .inr hD
    · exact .inl m
  refine ⟨fun i m H => m = its.length - i ∧ i ≤ its.length ∧ ∃ ι h acc, Ext ι1 H1 ι H ∧ Sim K (D :: ζ) ι H h ∧ DicAt K (D :: ζ ++ ι) H D t acc ∧ compDR t g gt ft fk fe (wipeD ρ vs) (its.drop i) h acc = some (ds, hE),
    ⟨its.length, by simp, Nat.zero_le _, ι1, h1, [], Ext.of_same (same_new hD), mk.1, .new upd_same, hc⟩, ?_⟩
  rintro i m H ⟨rfl, hi, ι2, h2, acc, e2, s2, da, c2⟩
  have er2 : ERep K (D :: ζ) ι2 H (wipe σ vs) (wipeD ρ vs) := (er.wipe vs).mvW (mv_wide s1 e2 hz) e2.pre
  have nD : D ∉ ι2 := fun m => (List.nodup_cons.mp s2.nd).1 (List.mem_append_right _ m)
  by_cases hlt : i < its.length
  · rw [List.drop_eq_getElem_cons hlt] at c2
    unfold compDR at c2
    split at c2
    · rename_i hck
      obtain ⟨go, yl⟩ := (io.step i (D :: ζ) ι2 H h2 e2 s2 hz hck).1 hlt
      refine .inr ⟨go, fun H' => its.length - (i + 1) < its.length - i ∧ i + 1 ≤ its.length ∧ ∃ ι h acc, Ext ι1 H1 ι H' ∧ Sim K (D :: ζ) ι H' h ∧ DicAt K (D :: ζ ++ ι) H' D t acc ∧ compDR t g gt ft fk fe (wipeD ρ vs) (its.drop (i + 1)) h acc = some (ds, hE),
        fun H' ⟨q1, q2, q3⟩ => ⟨_, q1, rfl, q2, q3⟩, fun x H' y => ?_⟩
      obtain ⟨sm, rp⟩ := yl x H' y
      have rx := rp _ (List.getElem?_eq_getElem hlt)
      have ex := Ext.of_same (ι := ι2) sm
      split at c2
      · rename_i ρ3 h3 eg
        refine ⟨D :: ζ, ι2, wipeD ρ vs, h2, .d its[i], er2.mv s2 ex, s2.same sm, .d rx, ?_⟩
        rw [eg]
        intro σ3 H3 ι3 e3 s3 er3 w3
        refine ⟨(w3 vs hv).trans ?_, D :: ζ, ι3, ρ3, h3, er3, s3, ?_⟩
        · apply List.ext_getElem?
          intro j
          rw [wipe_get, wipe_get, wipe_length]
          by_cases hj : j ∈ vs ∧ j < σ.length
          · rw [if_pos hj, if_pos hj]
          · rw [if_neg hj, if_neg hj]
        have eA : Ext ι2 H ι3 H3 := ex.trans e3
        split at c2
        · rename_i h4 et
          rw [et]
          intro b H4 ι4 e4 s4 eb
          subst eb
          rw [if_pos rfl]
          split at c2
          · rename_i k5 h5 ek
            refine ⟨D :: ζ, ι4, ρ3, h4, er3.mv s3 e4, s4, ?_⟩
            rw [ek]
            intro y5 H5 ι5 e5 s5 r5
            split at c2
            · rename_i x6 h6 ee
              refine ⟨D :: ζ, ι5, ρ3, h5, (er3.mv s3 e4).mv s4 e5, s5, ?_⟩
              rw [ee]
              intro y6 H6 ι6 e6 s6 r6
              split at c2
              · rename_i acc' ep
                have eB : Ext ι2 H ι6 H6 := ((eA.trans e4).trans e5).trans e6
                have da6 := da.mv (s2.mv eB) (fun o h => eB.keep _ _ h nD)
                have r5' := r5.mv s5 e6
                cases r5' with
                | d r5' =>
                  cases r6 with
                  | d r6 =>
                    obtain ⟨o, dp, mo, hm⟩ := dPut_ok da6 r5' r6 ep
                    obtain ⟨s7, m7⟩ := s6.grow' (o := o) (.inr (mo.elim .inl fun z => .inr (.inl z)))
                    refine ⟨_, dp, by omega, hlt, ι6, h6, acc', ?_, s7, (hm m7).1, c2⟩
                    have eC := e2.trans eB
                    exact ⟨eC.pre, eC.new, fun a o h n => by
                      rw [upd_ne (fun e => by rw [e, hD] at h; cases h)]
                      exact eC.keep a o h n⟩
              · cases c2
            · cases c2
          · cases c2
        · rename_i h4 et
          rw [et]
          intro b H4 ι4 e4 s4 eb
          subst eb
          rw [if_neg Bool.false_ne_true]
          have eB : Ext ι2 H ι4 H4 := eA.trans e4
          exact ⟨by omega, hlt, ι4, h4, acc, e2.trans eB, s4, da.mv (s2.mv eB) (fun o h => eB.keep _ _ h nD), c2⟩
        · cases c2
      · cases c2
    · cases c2
  · have e : i = its.length := by omega
    subst e
    rw [List.drop_length] at c2
    unfold compDR at c2
    split at c2
    · rename_i hck
      cases c2
      exact .inl ⟨(io.step _ (D :: ζ) ι2 H _ e2 s2 hz hck).2 (Nat.le_refl _), fin D ι2 H hD e2 s2 da⟩
    · cases c2
end
section
variable {X : Cx} {pos : Pos} {kx vx tg iter : Expr} {ifs : List Expr} {scope : Scope} {ws : List Nat} {fi : MI} {gt : MG} {ft : Env → Hs → R Bool} {fk fe : MV}
theorem ee_dcM {k : Nat} (t : Bool) (own : List (Str × Nat)) (C : Cn X k) (hi : EI X tg iter fi) (ok : blkC X.N X.env.scope scope own = true)
    (hg : ∀ (s : Shared) (H : Hp) (C : Addr) (cl : List (Str × Addr)) (fp : List Addr), EG (X.blk s H scope (compEnvC scope cl C X.env) fp) tg ws gt)
    (ht : ∀ (s : Shared) (H : Hp) (Ca : Addr) (cl : List (Str × Addr)) (fp : List Addr), Cn (X.blk s H scope (compEnvC scope cl Ca X.env) fp) k → ETs (X.blk s H scope (compEnvC scope cl Ca X.env) fp) ifs ft)
    (hk : ∀ (s : Shared) (H : Hp) (Ca : Addr) (cl : List (Str × Addr)) (fp : List Addr), Cn (X.blk s H scope (compEnvC scope cl Ca X.env) fp) k → EE (X.blk s H scope (compEnvC scope cl Ca X.env) fp) kx fk)
    (he : ∀ (s : Shared) (H : Hp) (Ca : Addr) (cl : List (Str × Addr)) (fp : List Addr), Cn (X.blk s H scope (compEnvC scope cl Ca X.env) fp) k → EE (X.blk s H scope (compEnvC scope cl Ca X.env) fp) vx fe) (hv : ∀ i ∈ ws, i ∈ own.map (·.2) := by decide) (hs : ∀ x, foldedSetIterable iter X.env x = pure x := by intro _; rfl) :
    EE X (.DictComp kx vx [⟨tg, iter, ifs, 0⟩] scope pos) (eDcM t (own.map (·.2)) fi gt ft fk fe) := ⟨fun W tk => by
  have cn : ∀ (s : Shared) (H : Hp) (Ca : Addr) (cl : List (Str × Addr)) (fp : List Addr), Cn (X.blk s H scope (compEnvC scope cl Ca X.env) fp) k := fun s H Ca cl fp => ⟨C.calm, C.nd, C.room, PassesOwn.never⟩
  refine ⟨_, pe_dcB (o0 := dNew t) (g := tG X.K ws gt) (tt := tT X.K ft W0) (tk := tE X.K fk W0) (tv := tE X.K fe W0) (by cases t; exact .inl rfl; exact .inr rfl) (units1 C.room) C.calm C.nd (hi.can tk) (blkOk_by ok) (fun s H C cl fp => (hg s H C cl fp).can) (fun s H C cl fp => (ht s H C cl fp (cn s H C cl fp)).run W0 takes0) (fun s H C cl fp => (hk s H C cl fp (cn s H C cl fp)).can takes0) (fun s H C cl fp => (he s H C cl fp (cn s H C cl fp)).can takes0) hs, fun ζ ι ρ hs σ H Q er s k => ?_⟩
  refine ⟨ζ, ι, ρ, hs, er, s, Ki.of_lc k fun p h1 J H1 ι1 e1 s1 io k1 => ?_⟩
  cases hc : compDR t p.2 gt ft fk fe (wipeD ρ (own.map (·.2))) p.1 h1 [] with
  | none => rw [hc] at k1; exact k1.elim
  | some y =>
    obtain ⟨ds, hE⟩ := y
    rw [hc] at k1
    refine dc_loop hv s1 (er.mv s e1) io hc fun q ι2 H2 hq e2 s2 da => ?_
    have sub : ∀ a ∈ ζ ++ (ι2 ++ [q]), a ∈ q :: ζ ++ ι2 := fun a m => by
      simp only [List.mem_append, List.mem_cons, List.mem_nil_iff, or_false, List.cons_append] at m ⊢
      rcases m with m | m | m
      · exact .inr (.inl m)
      · exact .inr (.inr m)
      · exact .inl m
    refine k1 _ H2 (ι2 ++ [q]) ⟨e2.pre.trans (List.prefix_append _ _), fun a m n => ?_, e2.keep⟩ (s2.made' (da.sub sub).m) (.r ?_)
    · rcases List.mem_append.mp m with m | m
      · exact e2.new a m n
      · have e : a = q := by simpa using m
        rw [e]; exact hq
    · rw [← s2.len, List.getElem?_append_right (Nat.le_refl _), Nat.sub_self]
      rfl⟩
end
end DL

set_option Elab.async false
set_option linter.all false
set_option maxRecDepth 100000
set_option maxHeartbeats 1000000
namespace DL
open PySem PySem.Spec PyProof.Rows L2

/-! ### a law's end -/
theorem FunD.same {K : PySem.W.Frag} {x q : Str} {pa : Arguments} {bd : List Stmt} {sc : Scope} {f : Addr} {fd fd2 : FuncData} (h1 : FunD K x q pa bd sc [] [] f fd) (h2 : FunD K x q pa bd sc [] [] f fd2) : fd = fd2 := by
  obtain ⟨oc, od, dV, kV, doc, pm, an, cdv, ct, osl, _, e1, _⟩ := h1.ex
  obtain ⟨oc2, od2, dV2, kV2, doc2, pm2, an2, cdv2, ct2, osl2, _, e2, _⟩ := h2.ex
  rw [e1] at e2
  injection e2 with e2
  injection e2 with _ _ e2 _
  injection e2
theorem vrep_script {K : PySem.W.Frag} {H : Hp} {a : Addr} {ns : List Int} (ho : Only H) (hS : SqL K H a (ns.map V.int)) : VRep K [] [] H (.ref a) (.s ns) := by
  rcases hS with h | h
  · rcases h with h | ⟨o, h⟩
    · rcases ho a with q | ⟨o, xs, q⟩
      · rw [h] at q; cases q
      · rw [h] at q; cases q
    · exact .s (.inl ⟨o, h⟩)
  · exact .s (.inr fun _ => .inr h)
theorem sp_law {K : PySem.W.Frag} {H : Hp} {a : Addr} {ns : List Int} {F : FnD} (hF : ∃ hs, F [.s ns] [] = .ok (.d (.bool true)) hs) (ho : Only H) (hS : SqL K H a (ns.map V.int)) : spOf K 1 F [.ref a] H (fun v _ => v = .bl true) fun _ _ _ => False := by
  obtain ⟨hs, e⟩ := hF
  refine ⟨[], [], [], [.s ns], rfl, ⟨List.nodup_nil, rfl, fun i a m h1 => by simp at h1, fun a m => by cases m⟩, .cons (vrep_script ho hS) .nil, ?_⟩
  rw [e]
  intro v H' ι' _ _ r
  cases r with
  | d r => cases r; rfl
/-- the given statement's walk, from the meaning of the law's def -/
theorem walk_dl {l : PySem.W.OpenLaw} {k : Nat} {q : Program} {loose : List Str} {XP : (Str → Option Value) → Heap → Prop} {YP : World → Heap → Prop} {d : DefRec} {x : Str} {pa : Arguments} {bd : List Stmt} {sc : Scope} {F : FnD}
    (hn : l.most = some 63) (hdf : d.params.defaults = []) (hr : Room k callerA)
    (hB : ∀ (K : PySem.W.Frag) (f : Addr) (fd : FuncData), FunD K d.name d.name pa bd sc [] [] f fd → ∀ (s : Shared) (v : Value), BindsTo s fd ⟨[v], []⟩ [(x, v)])
    (hK : ∀ (w : World) (mg : Str → Option Value) (h : Heap), YP w h → h.Ns mainGlobals mg → ∃ K : PySem.W.Frag, K.In h ∧ ∀ base : Heap, FnF l.prog w K mg base d.name pa bd sc [x] k F)
    (hF : ∀ ns : List Int, ns.length ≤ 63 → (∀ z ∈ ns, Builtin.Int.intBits z ≤ 1048576) → ∃ hs, F [.s ns] [] = .ok (.d (.bool true)) hs) :
    PySem.W.WalkO q loose XP YP l.row.toRowW d [] (fun f vs => PySem.call f vs) := by
  refine Att.attach_callB hn hdf fun w s₀ s₁ mg mb fa o pm cd doc a vs ns G Y ho hd hcd hmg hobj hints hlen hbits hg => ?_
  obtain ⟨K, KX, hf⟩ := hK w mg _ Y G.T.g
  obtain ⟨f', fd, hm, FD, hb, _⟩ := (hf s₁.heap).ex
  have e : f' = fa := by
    have z := hm.symm.trans hmg
    injection z with z
    injection z
  subst e
  have le : (63 : Nat) ≤ sizeLine := by rw [sizeLine_eq]; omega
  refine law_call (CX := L2.CX l.prog w) (sp := spOf K 1 F) KX G.T.g G.T.b G.T.builtins G.T.nolimit hg hobj hints (Nat.le_trans hlen le) hr (fun base _ _ => ?_) (hB K f' fd FD) (fun H hO hS => sp_law (hF ns hlen hbits) hO hS) ?_
  · obtain ⟨f2, fd2, hm2, FD2, hb2, ok⟩ := (hf base).ex
    have e2 : f2 = f' := by
      have z := hm2.symm.trans hm
      injection z with z
      injection z
    subst e2
    obtain rfl := FunD.same FD FD2
    exact ok
  · rintro H e s' ⟨_, _, _, _, _, _, _, _, _, _, _, _, z⟩
    exact z
end DL

set_option Elab.async false
set_option linter.all false
set_option maxRecDepth 100000
set_option maxHeartbeats 1000000
namespace DL
open PySem PySem.Spec PyProof.Rows L2

/-! ### reasoning about meanings: what must hold behind them -/
abbrev EP := Str → D → Hs → Prop
def wpR0 {α : Type} (r : R α) (Q : α → Hs → Prop) (E : EP) : Prop := match r with
  | .ok a h => Q a h
  | .ex c v h => E c v h
  | .no => False
/-- nothing: its type names what simp is not to change -/
structure MkR {α : Type} (Q : α → Hs → Prop) (E : EP) : Type where
structure wpR {α : Type} (r : R α) (Q : α → Hs → Prop) (E : EP) (u : MkR Q E := ⟨⟩) : Prop where
  out : wpR0 r Q E
theorem wpR_iff {α : Type} {r : R α} {Q : α → Hs → Prop} {E : EP} : wpR r Q E = wpR0 r Q E := propext ⟨fun w => w.out, fun w => ⟨w⟩⟩
structure Po where
  nx : Env → Hs → Prop
  rt : Val → Hs → Prop
  ex : Str → D → Env → Hs → Prop
  bk : Env → Hs → Prop
  ct : Env → Hs → Prop
/-- another end of a statement that goes on -/
def Po.withNx (P : Po) (f : Env → Hs → Prop) : Po := ⟨f, P.rt, P.ex, P.bk, P.ct⟩
def wpS0 (s : S) (P : Po) : Prop := match s with
  | .nx ρ h => P.nx ρ h
  | .rt v h => P.rt v h
  | .ex c v ρ h => P.ex c v ρ h
  | .bk ρ h => P.bk ρ h
  | .ct ρ h => P.ct ρ h
  | .no => False
structure MkS (P : Po) : Type where
structure wpS (s : S) (P : Po) (u : MkS P := ⟨⟩) : Prop where
  out : wpS0 s P
theorem wpS_iff {s : S} {P : Po} : wpS s P = wpS0 s P := propext ⟨fun w => w.out, fun w => ⟨w⟩⟩
abbrev noE : EP := fun _ _ _ => False
theorem wpR_congr {α : Type} {r r' : R α} {Q : α → Hs → Prop} {E : EP} (h : r = r') : wpR r Q E = wpR r' Q E := by rw [h]
theorem wpS_congr {s s' : S} {P : Po} (h : s = s') : wpS s P = wpS s' P := by rw [h]
section
variable {α β : Type} {Q : α → Hs → Prop} {E : EP} {P : Po} {ρ : Env} {h : Hs}
@[simp] theorem wpR_ok (a : α) (h : Hs) : wpR (.ok a h) Q E = Q a h := wpR_iff
@[simp] theorem wpR_ex (c : Str) (v : D) (h : Hs) : wpR (.ex c v h : R α) Q E = E c v h := wpR_iff
@[simp] theorem wpR_no : wpR (.no : R α) Q E = False := wpR_iff
@[simp] theorem wpR_bind (r : R β) (k : β → Hs → R α) : wpR (r.bind k) Q E = wpR r (fun a h => wpR (k a h) Q E) E := by
  cases r <;> simp only [wpR_iff] <;> rfl
@[simp] theorem wpS_nx : wpS (.nx ρ h) P = P.nx ρ h := wpS_iff
@[simp] theorem wpS_rt (v : Val) : wpS (.rt v h) P = P.rt v h := wpS_iff
@[simp] theorem wpS_ex (c : Str) (v : D) : wpS (.ex c v ρ h) P = P.ex c v ρ h := wpS_iff
@[simp] theorem wpS_bk : wpS (.bk ρ h) P = P.bk ρ h := wpS_iff
@[simp] theorem wpS_ct : wpS (.ct ρ h) P = P.ct ρ h := wpS_iff
@[simp] theorem wpS_no : wpS .no P = False := wpS_iff
@[simp] theorem wpS_bind (r : R β) (k : β → Hs → S) : wpS (r.bindS ρ k) P = wpR r (fun a h => wpS (k a h) P) (fun c v h => P.ex c v ρ h) := by
  cases r <;> simp only [wpR_iff, wpS_iff] <;> rfl
@[simp] theorem wpS_sSeq (g1 g2 : MS) : wpS (sSeq g1 g2 ρ h) P = wpS (g1 ρ h) (P.withNx fun ρ' h' => wpS (g2 ρ' h') P) := by
  unfold sSeq
  cases g1 ρ h <;> simp only [wpS_iff] <;> rfl
@[simp] theorem withNx_nx (P : Po) (f : Env → Hs → Prop) : (P.withNx f).nx = f := rfl
@[simp] theorem withNx_rt (P : Po) (f : Env → Hs → Prop) : (P.withNx f).rt = P.rt := rfl
@[simp] theorem withNx_ex (P : Po) (f : Env → Hs → Prop) : (P.withNx f).ex = P.ex := rfl
@[simp] theorem withNx_bk (P : Po) (f : Env → Hs → Prop) : (P.withNx f).bk = P.bk := rfl
@[simp] theorem withNx_ct (P : Po) (f : Env → Hs → Prop) : (P.withNx f).ct = P.ct := rfl
@[simp] theorem sNext_at : sNext ρ h = .nx ρ h := rfl
@[simp] theorem sSet_at (i : Nat) (f : MV) : sSet i f ρ h = (f ρ h).bindS ρ fun v h1 => .nx (ρ.set i (some v)) h1 := rfl
@[simp] theorem sExpr_at (f : MV) : sExpr f ρ h = (f ρ h).bindS ρ fun _ h1 => .nx ρ h1 := rfl
@[simp] theorem sRet_at (f : MV) : sRet f ρ h = (f ρ h).bindS ρ fun v h1 => .rt v h1 := rfl
@[simp] theorem sRetN_at : sRetN ρ h = .rt (.d .none) h := rfl
@[simp] theorem sBreak_at : sBreak ρ h = .bk ρ h := rfl
@[simp] theorem sCont_at : sCont ρ h = .ct ρ h := rfl
@[simp] theorem sIf_at (c : Env → Hs → R Bool) (g1 g2 : MS) : sIf c g1 g2 ρ h = (c ρ h).bindS ρ fun b h1 => if b = true then g1 ρ h1 else g2 ρ h1 := rfl
@[simp] theorem sParN_at (is : List Nat) (fs : Env → Hs → R (List Val)) : sParN is fs ρ h = (fs ρ h).bindS ρ fun us h1 => if us.length = is.length then .nx (setAll ρ is us) h1 else .no := rfl
@[simp] theorem setAll_cons (i : Nat) (is : List Nat) (u : Val) (us : List Val) : setAll ρ (i :: is) (u :: us) = setAll (ρ.set i (some u)) is us := rfl
@[simp] theorem setAll_nil (us : List Val) : setAll ρ [] us = ρ := by cases us <;> rfl
@[simp] theorem wpS_sAsg (f : MV) (g : MG) : wpS (sAsg f g ρ h) P = wpR (f ρ h) (fun v h1 => wpR (g v ρ h1) (fun ρ' h2 => P.nx ρ' h2) noE) (fun c v h => P.ex c v ρ h) := by
  unfold sAsg
  rw [wpS_bind]
  refine congrArg (fun q => wpR (f ρ h) q (fun c v h => P.ex c v ρ h)) ?_
  funext v h1
  cases g v ρ h1 <;> simp only [wpR_iff, wpS_iff] <;> rfl
@[simp] theorem sRaise_at (c : Str) (f : MV) : sRaise c f ρ h = (f ρ h).bindS ρ fun u h1 => match u with
  | .d x => .ex c x ρ h1
  | _ => .no := rfl
@[simp] theorem sFor_at (fi : MI) (gt : MG) (body : MS) : sFor fi gt body ρ h = (fi ρ h).bindS ρ fun p h1 => forR p.2 gt body p.1 ρ h1 := rfl
@[simp] theorem gN_at (i : Nat) (u : Val) : gN i u ρ h = .ok (ρ.set i (some u)) h := rfl
@[simp] theorem gT_at (gs : List D → Env → Hs → R Env) (ds : List D) : gT gs (.d (.tuple ds)) ρ h = gs ds ρ h := rfl
@[simp] theorem gT_l (gs : List D → Env → Hs → R Env) (ds : List D) : gT gs (.d (.list ds)) ρ h = gs ds ρ h := rfl
@[simp] theorem gsNil_at : gsNil [] ρ h = .ok ρ h := rfl
@[simp] theorem gsCons_at (g : MG) (gs : List D → Env → Hs → R Env) (d : D) (ds : List D) : gsCons g gs (d :: ds) ρ h = (g (.d d) ρ h).bind fun ρ' h' => gs ds ρ' h' := rfl
@[simp] theorem eVar_at (i : Nat) : eVar i ρ h = match ρ[i]? with
  | some (some v) => .ok v h
  | _ => .no := rfl
@[simp] theorem eC_at (d : D) : eC d ρ h = .ok (.d d) h := rfl
@[simp] theorem eK_at (ns : List Int) : eK ns ρ h = .ok (.c ns) h := rfl
@[simp] theorem vS_c (ns : List Int) : vS (.c ns) h = some (.tuple (ns.map .int)) := rfl
@[simp] theorem eOp_at (g : D → D → Option D) (fa fb : MV) : eOp g fa fb ρ h = (fa ρ h).bind fun u h1 => (fb ρ h1).bind fun v h2 => match vD u h2, vD v h2 with
  | some a, some b => R.opt ((g a b).map .d) h2
  | _, _ => .no := rfl
@[simp] theorem eOpM_at (g : D → D → Option (List D)) (fa fb : MV) : eOpM g fa fb ρ h = (fa ρ h).bind fun u h1 => (fb ρ h1).bind fun v h2 => match vD u h2, vD v h2 with
  | some a, some b => (match g a b with
    | some ds => .ok (.r h2.length) (h2 ++ [.lst ds])
    | none => .no)
  | _, _ => .no := rfl
@[simp] theorem eUn_at (g : D → Option D) (fa : MV) : eUn g fa ρ h = (fa ρ h).bind fun u h1 => match vD u h1 with
  | some a => R.opt ((g a).map .d) h1
  | _ => .no := rfl
@[simp] theorem aNil_at : aNil ρ h = .ok [] h := rfl
@[simp] theorem aCons_at (fa : MV) (fr : Env → Hs → R (List Val)) : aCons fa fr ρ h = (fa ρ h).bind fun u h1 => (fr ρ h1).bind fun us h2 => .ok (u :: us) h2 := rfl
@[simp] theorem eCallB_at (g : List D → Option D) (fas : Env → Hs → R (List Val)) : eCallB g fas ρ h = (fas ρ h).bind fun us h1 => match vDs us h1 with
  | some ds => R.opt ((g ds).map .d) h1
  | none => .no := rfl
@[simp] theorem pD_d (x : D) : pD (.d x) = some x := rfl
@[simp] theorem pDs_nil : pDs [] = some [] := rfl
@[simp] theorem pDs_cons (x : D) (us : List Val) : pDs (.d x :: us) = (pDs us).map (x :: ·) := rfl
@[simp] theorem eTup_at (fas : Env → Hs → R (List Val)) : eTup fas ρ h = (fas ρ h).bind fun us h1 => match pDs us with
  | some ds => if ds.length ≤ sizeLine then .ok (.d (.tuple ds)) h1 else .no
  | none => .no := rfl
@[simp] theorem tOf_nil : tOf [] = some [] := rfl
@[simp] theorem tOf_d (x : D) (us : List Val) : tOf (.d x :: us) = (tOf us).map (.inl x :: ·) := rfl
@[simp] theorem tOf_r (i : Nat) (us : List Val) : tOf (.r i :: us) = (tOf us).map (.inr i :: ·) := rfl
@[simp] theorem eTupM_at (fas : Env → Hs → R (List Val)) : eTupM fas ρ h = (fas ρ h).bind fun us h1 => match tOf us with
  | some ms => if ms.length ≤ sizeLine then .ok (.t ms) h1 else .no
  | none => .no := rfl
@[simp] theorem eLst_at (fas : Env → Hs → R (List Val)) : eLst fas ρ h = (fas ρ h).bind fun us h1 => match pDs us with
  | some ds => if ds.length ≤ sizeLine then .ok (.d (.list ds)) h1 else .no
  | none => .no := rfl
@[simp] theorem eLstM_at (fas : Env → Hs → R (List Val)) : eLstM fas ρ h = (fas ρ h).bind fun us h1 => match pDs us with
  | some ds => if ds.length ≤ sizeLine then .ok (.r h1.length) (h1 ++ [.lst ds]) else .no
  | none => .no := rfl
@[simp] theorem asB_b (b : Bool) : asB (.d (.bool b)) = some b := rfl
@[simp] theorem tVal_at (fa : MV) : tVal fa ρ h = (fa ρ h).bind fun u h1 => R.opt (asB u) h1 := rfl
@[simp] theorem tAndD_at (fa fb : Env → Hs → R Bool) : tAndD fa fb ρ h = (fa ρ h).bind fun b h1 => if b = true then fb ρ h1 else .ok false h1 := rfl
@[simp] theorem tOrD_at (fa fb : Env → Hs → R Bool) : tOrD fa fb ρ h = (fa ρ h).bind fun b h1 => if b = true then .ok true h1 else fb ρ h1 := rfl
@[simp] theorem tNotD_at (fa : Env → Hs → R Bool) : tNotD fa ρ h = (fa ρ h).bind fun b h1 => .ok (!b) h1 := rfl
@[simp] theorem tYesD_at : tYesD ρ h = .ok true h := rfl
@[simp] theorem eAnd_at (fa fb : MV) : eAnd fa fb ρ h = (fa ρ h).bind fun u h1 => match asB u with
  | some true => fb ρ h1
  | some false => .ok (.d (.bool false)) h1
  | none => .no := rfl
@[simp] theorem eOr_at (fa fb : MV) : eOr fa fb ρ h = (fa ρ h).bind fun u h1 => match asB u with
  | some true => .ok (.d (.bool true)) h1
  | some false => fb ρ h1
  | none => .no := rfl
@[simp] theorem eNot_at (fa : MV) : eNot fa ρ h = (fa ρ h).bind fun u h1 => match asB u with
  | some b => .ok (.d (.bool (!b))) h1
  | none => .no := rfl
@[simp] theorem eIf_at (ft : Env → Hs → R Bool) (fa fb : MV) : eIf ft fa fb ρ h = (ft ρ h).bind fun b h1 => if b = true then fa ρ h1 else fb ρ h1 := rfl
@[simp] theorem isNone_none : isNone (.d .none) = true := rfl
@[simp] theorem isNone_int (i : Int) : isNone (.d (.int i)) = false := rfl
@[simp] theorem eIsN_at (fa : MV) : eIsN fa ρ h = (fa ρ h).bind fun u h1 => .ok (.d (.bool (isNone u))) h1 := rfl
@[simp] theorem eNotN_at (fa : MV) : eNotN fa ρ h = (fa ρ h).bind fun u h1 => .ok (.d (.bool (!isNone u))) h1 := rfl
@[simp] theorem eCall_at (F : FnD) (fas : Env → Hs → R (List Val)) : eCall F fas ρ h = (fas ρ h).bind fun us h1 => F us h1 := rfl
@[simp] theorem eCallK_at (F : FnD) (π : List Nat) (fas fks : Env → Hs → R (List Val)) : eCallK F π fas fks ρ h = (fas ρ h).bind fun us h1 => (fks ρ h1).bind fun ws h2 => F (byPi π us ws) h2 := rfl
@[simp] theorem eLen_at (fa : MV) : eLen fa ρ h = (fa ρ h).bind fun u h1 => match vS u h1 with
  | some (.list xs) => .ok (.d (.int xs.length)) h1
  | some (.tuple xs) => .ok (.d (.int xs.length)) h1
  | some (.str z) => if z.length ≤ sizeLine then .ok (.d (.int z.length)) h1 else .no
  | some (.dict kvs) => .ok (.d (.int kvs.length)) h1
  | _ => .no := rfl
@[simp] theorem eIsi_at (f : D → Bool) (fa : MV) : eIsi f fa ρ h = (fa ρ h).bind fun u h1 => match vD u h1 with
  | some d => .ok (.d (.bool (f d))) h1
  | none => .no := rfl
@[simp] theorem eIx_at (fa fb : MV) : eIx fa fb ρ h = (fa ρ h).bind fun u h1 => (fb ρ h1).bind fun v h2 => match vS u h2, vD v h2 with
  | some a, some b => R.opt ((dIx a b).map .d) h2
  | _, _ => .no := rfl
@[simp] theorem oNone_at : oNone ρ h = .ok none h := rfl
@[simp] theorem oSome_at (f : MV) : oSome f ρ h = (f ρ h).bind fun u h1 => match u with
  | .d (.int i) => .ok (some i) h1
  | _ => .no := rfl
@[simp] theorem eSl_at (fa : MV) (fl fh : Env → Hs → R (Option Int)) : eSl fa fl fh ρ h = (fa ρ h).bind fun u h1 => (fl ρ h1).bind fun lo h2 => (fh ρ h2).bind fun hi h3 => match vD u h3 with
  | some a => R.opt ((dSl a lo hi).map .d) h3
  | none => .no := rfl
@[simp] theorem iSeq_at (f : MV) : iSeq f ρ h = (f ρ h).bind fun u h1 => R.opt (seqOf u h1) h1 := rfl
@[simp] theorem seqOf_list (ds : List D) : seqOf (.d (.list ds)) h = some (ds, []) := rfl
@[simp] theorem seqOf_tuple (ds : List D) : seqOf (.d (.tuple ds)) h = some (ds, []) := rfl
@[simp] theorem seqOf_s (ns : List Int) : seqOf (.s ns) h = some (ns.map .int, []) := rfl
@[simp] theorem iRng_at (o : List Val → Option (List D)) (fas : Env → Hs → R (List Val)) : iRng o fas ρ h = (fas ρ h).bind fun us h1 => R.opt ((o us).map fun l => (l, [])) h1 := rfl
@[simp] theorem rangeOf1_at (j : Int) : rangeOf1 [.d (.int j)] = if smallI j = true then some (rng 0 j.toNat) else none := rfl
@[simp] theorem rangeOf2_at (i j : Int) : rangeOf2 [.d (.int i), .d (.int j)] = if smallI i = true ∧ smallI j = true then some (rng i (j - i).toNat) else none := rfl
@[simp] theorem iZip2_at (fas : Env → Hs → R (List Val)) : iZip2 fas ρ h = (fas ρ h).bind fun us h1 => match us with
  | [u, v] => R.opt (zipOf u v h1) h1
  | _ => .no := rfl
theorem zipOf_at (u v : Val) : zipOf u v h = match seqOf u h, seqOf v h with
  | some (xs, g1), some (ys, g2) => some (List.zipWith (fun a b => .tuple [a, b]) xs ys, g1 ++ g2)
  | _, _ => none := rfl
@[simp] theorem zipOf_tup (xs ys : List D) : zipOf (.d (.tuple xs)) (.d (.tuple ys)) h = some (List.zipWith (fun a b => .tuple [a, b]) xs ys, []) := rfl
@[simp] theorem zipOf_lst (xs ys : List D) : zipOf (.d (.list xs)) (.d (.list ys)) h = some (List.zipWith (fun a b => .tuple [a, b]) xs ys, []) := rfl
@[simp] theorem eLc_at (vs : List Nat) (fi : MI) (gt : MG) (ft : Env → Hs → R Bool) (fe : MV) : eLc vs fi gt ft fe ρ h = (fi ρ h).bind fun p h1 => mkL (compR p.2 gt ft fe (wipeD ρ vs) p.1 h1 []) := rfl
@[simp] theorem eLcM_at (vs : List Nat) (fi : MI) (gt : MG) (ft : Env → Hs → R Bool) (fe : MV) : eLcM vs fi gt ft fe ρ h = (fi ρ h).bind fun p h1 => mkLM (compR p.2 gt ft fe (wipeD ρ vs) p.1 h1 []) := rfl
@[simp] theorem eDcM_at (t : Bool) (vs : List Nat) (fi : MI) (gt : MG) (ft : Env → Hs → R Bool) (fk fe : MV) : eDcM t vs fi gt ft fk fe ρ h = (fi ρ h).bind fun p h1 => mkDM t (compDR t p.2 gt ft fk fe (wipeD ρ vs) p.1 h1 []) := rfl
@[simp] theorem eCallM_at (g : D → Option (List D)) (fas : Env → Hs → R (List Val)) : eCallM g fas ρ h = (fas ρ h).bind fun us h1 => match vDs us h1 with
  | some [d] => (match g d with
    | some ds => .ok (.r h1.length) (h1 ++ [.lst ds])
    | none => .no)
  | _ => .no := rfl
@[simp] theorem eLM_at (g : List D → List D → Option (List D × D)) (fo : MV) (fas : Env → Hs → R (List Val)) : eLM g fo fas ρ h = (fo ρ h).bind fun u h1 => match u with
  | .r i => (match h1[i]? with
    | some (.lst _) => (fas ρ h1).bind fun us h2 => (match h2[i]?, pDs us with
      | some (.lst ds), some as => (match g ds as with
        | some (es, d) => .ok (.d d) (h2.set i (.lst es))
        | none => .no)
      | _, _ => .no)
    | _ => .no)
  | _ => .no := rfl
@[simp] theorem sSub_at (fe fo fi : MV) : sSub fe fo fi ρ h = (fe ρ h).bindS ρ fun v h1 => (fo ρ h1).bindS ρ fun u h2 => (fi ρ h2).bindS ρ fun w h3 => match v, u, w with
  | .d x, .r i, .d (.int k) => (match h3[i]? with
    | some (.lst ds) => (match ixN ds.length k with
      | some j => .nx ρ (h3.set i (.lst (ds.set j x)))
      | none => .no)
    | _ => .no)
  | _, _, _ => .no := rfl
@[simp] theorem eChain_at (g g' : D → D → Option D) (fa fb fc : MV) : eChain g g' fa fb fc ρ h = (fa ρ h).bind fun u h1 => (fb ρ h1).bind fun v h2 => match vD u h2, vD v h2 with
  | some a, some b => (match (g a b).bind dB with
    | some true => (fc ρ h2).bind fun w h3 => (match vD v h3, vD w h3 with
      | some b', some c => R.opt ((g' b' c).map .d) h3
      | _, _ => .no)
    | some false => .ok (.d (.bool false)) h2
    | none => .no)
  | _, _ => .no := rfl
@[simp] theorem dB_b (b : Bool) : dB (.bool b) = some b := rfl
@[simp] theorem eDIn_at (neg : Bool) (fk fd : MV) : eDIn neg fk fd ρ h = (fk ρ h).bind fun k h1 => (fd ρ h1).bind fun u h2 => match k, dicV u h2 with
  | .d k, some (t, kvs) => (match dGetD t kvs k with
    | some o => .ok (.d (.bool (neg != o.isSome))) h2
    | none => .no)
  | _, _ => .no := rfl
@[simp] theorem sDPut_at (fe fd fk : MV) : sDPut fe fd fk ρ h = (fe ρ h).bindS ρ fun v h1 => (fd ρ h1).bindS ρ fun u h2 => (fk ρ h2).bindS ρ fun k h3 => match v, k with
  | .d x, .d k => (match putS u k x h3 with
    | some h4 => .nx ρ h4
    | none => .no)
  | _, _ => .no := rfl
@[simp] theorem eDicM_at (t : Bool) : eDicM t ρ h = .ok (.r h.length) (h ++ [.dic t []]) := rfl
/-! data -/
@[simp] theorem dInt2_at (g : Int → Int → Option D) (i j : Int) : dInt2 g (.int i) (.int j) = g i j := rfl
@[simp] theorem gSub_at (i j : Int) : gSub i j = some (.int (i - j)) := rfl
@[simp] theorem gCmp_at (p : Int → Int → Bool) (i j : Int) : gCmp p i j = some (.bool (p i j)) := rfl
@[simp] theorem dAdd_int (i j : Int) : dAdd (.int i) (.int j) = some (.int (i + j)) := rfl
@[simp] theorem dNeg_int (i : Int) : dNeg (.int i) = some (.int (-i)) := rfl
@[simp] theorem d1_at (g : D → Option D) (a : D) : d1 g [a] = g a := rfl
@[simp] theorem d2_at (g : D → D → Option D) (a b : D) : d2 g [a, b] = g a b := rfl
@[simp] theorem dTuple_l (xs : List D) : dTuple (.list xs) = some (.tuple xs) := rfl
@[simp] theorem dTuple_t (xs : List D) : dTuple (.tuple xs) = some (.tuple xs) := rfl
@[simp] theorem dList_l (xs : List D) : dList (.list xs) = some (.list xs) := rfl
@[simp] theorem dList_t (xs : List D) : dList (.tuple xs) = some (.list xs) := rfl
@[simp] theorem dListM_l (xs : List D) : dListM (.list xs) = some xs := rfl
@[simp] theorem dListM_t (xs : List D) : dListM (.tuple xs) = some xs := rfl
@[simp] theorem dInt_i (i : Int) : dInt (.int i) = some (.int i) := rfl
@[simp] theorem dInt_b (b : Bool) : dInt (.bool b) = some (.int (if b then 1 else 0)) := rfl
@[simp] theorem dAbs_i (i : Int) : dAbs (.int i) = some (.int (i.natAbs : Int)) := by
  show some (PyData.int (if i < 0 then -i else i)) = _
  congr 2
  split <;> omega
@[simp] theorem dAll_l (xs : List D) : dAll (.list xs) = (boolsOf xs).map fun bs => .bool (bs.all id) := rfl
@[simp] theorem dAny_l (xs : List D) : dAny (.list xs) = (boolsOf xs).map fun bs => .bool (bs.any id) := rfl
@[simp] theorem dIx_l (xs : List D) (i : Int) : dIx (.list xs) (.int i) = atI xs i := rfl
@[simp] theorem dIx_t (xs : List D) (i : Int) : dIx (.tuple xs) (.int i) = atI xs i := rfl
theorem wpR_mkF (keep : Bool) (N n : Nat) (g : MS) (us : List Val) (h : Hs) {Q : Val → Hs → Prop} : wpR (mkF keep N n g us h) Q E = (us.length = n ∧ wpS (g (startE N us) h) ⟨fun _ h' => Q (.d .none) (h'.take h.length), fun v h' => wpR (exitV keep h.length v h') Q E, fun c v _ h' => E c v (h'.take h.length), fun _ _ => False, fun _ _ => False⟩) := by
  unfold mkF
  by_cases e : us.length = n
  · rw [if_pos e]
    simp only [e, true_and]
    cases g (startE N us) h <;> simp only [wpR_iff, wpS_iff] <;> rfl
  · rw [if_neg e]
    simp only [e, false_and]
    exact wpR_no
@[simp] theorem exitV_d (keep : Bool) (n : Nat) (x : D) : exitV keep n (.d x) h = .ok (.d x) (h.take n) := rfl
@[simp] theorem exitV_t (keep : Bool) (n : Nat) (ms : List (Sum D Nat)) : exitV keep n (.t ms) h = match frz n h ms with
    | some ds => .ok (.d (.tuple ds)) (h.take n)
    | none => .no := rfl
end
theorem wpR_eq {α : Type} {r : R α} {x : α} {h : Hs} (w : wpR r (fun a h' => a = x ∧ h' = h) noE) : r = .ok x h := by
  cases r with
  | ok a h' => obtain ⟨rfl, rfl⟩ := (w.out : a = x ∧ h' = h); rfl
  | ex c v h' => exact False.elim w.out
  | no => exact False.elim w.out
theorem wpR_mono {α : Type} {r : R α} {Q Q' : α → Hs → Prop} {E E' : EP} (w : wpR r Q E) (q : ∀ a h, Q a h → Q' a h) (e : ∀ c v h, E c v h → E' c v h) : wpR r Q' E' := by
  cases r with
  | ok a h' => exact ⟨q _ _ w.out⟩
  | ex c v h' => exact ⟨e _ _ _ w.out⟩
  | no => exact False.elim w.out
theorem wpS_mono {s : S} {P P' : Po} (w : wpS s P) (h1 : ∀ ρ h, P.nx ρ h → P'.nx ρ h) (h2 : ∀ v h, P.rt v h → P'.rt v h) (h3 : ∀ c v ρ h, P.ex c v ρ h → P'.ex c v ρ h) (h4 : ∀ ρ h, P.bk ρ h → P'.bk ρ h) (h5 : ∀ ρ h, P.ct ρ h → P'.ct ρ h) : wpS s P' := by
  cases s with
  | nx ρ h => exact ⟨h1 _ _ w.out⟩
  | rt v h => exact ⟨h2 _ _ w.out⟩
  | ex c v ρ h => exact ⟨h3 _ _ _ _ w.out⟩
  | bk ρ h => exact ⟨h4 _ _ w.out⟩
  | ct ρ h => exact ⟨h5 _ _ w.out⟩
  | no => exact False.elim w.out
/-! ### loops -/
/-- a for loop by an invariant -/
theorem wp_for {P : Po} {g : List (Nat × List D)} {gt : MG} {body : MS} (I : Nat → Env → Hs → Prop) : ∀ {ds : List D} {ρ : Env} {h : Hs} (n : Nat), (∀ i ρ h, I i ρ h → Chk g h) → I n ρ h →
    (∀ i d ρ h, ds[i]? = some d → I (n + i) ρ h → wpR (gt (.d d) ρ h) (fun ρ' h' => wpS (body ρ' h') ⟨I (n + i + 1), P.rt, P.ex, P.nx, I (n + i + 1)⟩) noE) → (∀ ρ h, I (n + ds.length) ρ h → P.nx ρ h) → wpS (forR g gt body ds ρ h) P
  | [], ρ, h, n, hc, h0, st, fin => by
    unfold forR
    rw [if_pos (hc _ _ _ h0)]
    exact ⟨fin _ _ h0⟩
  | d :: ds, ρ, h, n, hc, h0, st, fin => by
    unfold forR
    rw [if_pos (hc _ _ _ h0)]
    have z := st 0 d ρ h rfl h0
    have ih : ∀ ρ2 h2, I (n + 1) ρ2 h2 → wpS (forR g gt body ds ρ2 h2) P := fun ρ2 h2 i2 => wp_for I (n + 1) hc i2
      (fun i d' ρ h e hi => by
        have y := st (i + 1) d' ρ h (by simpa using e) (by rw [show n + (i + 1) = n + 1 + i by omega]; exact hi)
        rw [show n + (i + 1) + 1 = n + 1 + i + 1 by omega] at y
        exact y) (fun ρ h hi => fin ρ h (by rw [List.length_cons, show n + (ds.length + 1) = n + 1 + ds.length by omega]; exact hi))
    cases eg : gt (.d d) ρ h with
    | ok ρ' h' =>
      rw [eg] at z
      have z : wpS (body ρ' h') _ := z.out
      show wpS (match body ρ' h' with
        | .nx ρ2 h2 => forR g gt body ds ρ2 h2
        | .ct ρ2 h2 => forR g gt body ds ρ2 h2
        | .bk ρ2 h2 => .nx ρ2 h2
        | r => r) P
      cases eb : body ρ' h' with
      | nx ρ2 h2 => rw [eb] at z; exact ih ρ2 h2 z.out
      | ct ρ2 h2 => rw [eb] at z; exact ih ρ2 h2 z.out
      | bk ρ2 h2 => rw [eb] at z; exact ⟨z.out⟩
      | rt v h => rw [eb] at z; exact ⟨z.out⟩
      | ex c v ρ h => rw [eb] at z; exact ⟨z.out⟩
      | no => rw [eb] at z; exact False.elim z.out
    | ex c v h => rw [eg] at z; exact False.elim z.out
    | no => rw [eg] at z; exact False.elim z.out
/-- a list comprehension by an invariant: the store and the items so far -/
theorem wp_comp {g : List (Nat × List D)} {gt : MG} {ft : Env → Hs → R Bool} {fe : MV} {ρ : Env} (I : Nat → Hs → List D → Prop) : ∀ {ds : List D} {h : Hs} {acc : List D} (n : Nat), (∀ i h acc, I i h acc → Chk g h) → I n h acc →
    (∀ i d h acc, ds[i]? = some d → I (n + i) h acc → Chk g h → wpR (gt (.d d) ρ h) (fun ρ1 h1 => wpR (ft ρ1 h1) (fun b h2 => if b = true then wpR (fe ρ1 h2) (fun v h3 => ∃ x, v = .d x ∧ acc.length < sizeLine ∧ I (n + i + 1) h3 (acc ++ [x])) noE else I (n + i + 1) h2 acc) noE) noE) →
    ∃ es h', compR g gt ft fe ρ ds h acc = some (es, h') ∧ I (n + ds.length) h' es
  | [], h, acc, n, hc, h0, st => by
    unfold compR
    rw [if_pos (hc _ _ _ h0)]
    exact ⟨acc, h, rfl, h0⟩
  | d :: ds, h, acc, n, hc, h0, st => by
    unfold compR
    rw [if_pos (hc _ _ _ h0)]
    have z := st 0 d h acc rfl h0 (hc _ _ _ h0)
    have ih : ∀ h2 acc2, I (n + 1) h2 acc2 → ∃ es h', compR g gt ft fe ρ ds h2 acc2 = some (es, h') ∧ I (n + (ds.length + 1)) h' es := fun h2 acc2 i2 => by
      have y := wp_comp (ds := ds) I (n + 1) hc i2
        (fun i d' h acc e hi ck => by
          have y := st (i + 1) d' h acc (by simpa using e) (by rw [show n + (i + 1) = n + 1 + i by omega]; exact hi) ck
          rw [show n + (i + 1) + 1 = n + 1 + i + 1 by omega] at y
          exact y)
      rw [show n + 1 + ds.length = n + (ds.length + 1) by omega] at y
      exact y
    cases eg : gt (.d d) ρ h with
    | ok ρ1 h1 =>
      rw [eg] at z
      have z : wpR (ft ρ1 h1) _ noE := z.out
      cases et : ft ρ1 h1 with
      | ok b h2 =>
        rw [et] at z
        cases b with
        | true =>
          have z : wpR (fe ρ1 h2) _ noE := z.out
          simp only [et]
          cases ee : fe ρ1 h2 with
          | ok v h3 =>
            rw [ee] at z
            obtain ⟨x, rfl, hl, hi⟩ := (z.out : ∃ x, v = .d x ∧ acc.length < sizeLine ∧ I (n + 1) h3 (acc ++ [x]))
            simp only
            rw [if_pos hl]
            exact ih _ _ hi
          | ex c v h => rw [ee] at z; exact False.elim z.out
          | no => rw [ee] at z; exact False.elim z.out
        | false =>
          simp only [et]
          exact ih _ _ z.out
      | ex c v h => rw [et] at z; exact False.elim z.out
      | no => rw [et] at z; exact False.elim z.out
    | ex c v h => rw [eg] at z; exact False.elim z.out
    | no => rw [eg] at z; exact False.elim z.out
/-- one that only reads: what each item gives -/
theorem compR_pure {g : List (Nat × List D)} {gt : MG} {ft : Env → Hs → R Bool} {fe : MV} {ρ : Env} {h : Hs} (f : D → Option D) (hc : Chk g h) : ∀ {ds : List D} {acc : List D}, acc.length + ds.length ≤ sizeLine →
    (∀ d ∈ ds, wpR (gt (.d d) ρ h) (fun ρ1 h1 => wpR (ft ρ1 h1) (fun b h2 => if b = true then wpR (fe ρ1 h2) (fun v h3 => ∃ x, v = .d x ∧ f d = some x ∧ h3 = h) noE else (f d = none ∧ h2 = h)) noE) noE) →
    compR g gt ft fe ρ ds h acc = some (acc ++ ds.filterMap f, h)
  | [], acc, _, _ => by
    unfold compR
    rw [if_pos hc, List.filterMap_nil, List.append_nil]
  | d :: ds, acc, hl, st => by
    unfold compR
    rw [if_pos hc]
    have z := st d List.mem_cons_self
    have st' := fun d' m => st d' (List.mem_cons_of_mem _ m)
    rw [List.length_cons] at hl
    cases eg : gt (.d d) ρ h with
    | ok ρ1 h1 =>
      rw [eg] at z
      have z : wpR (ft ρ1 h1) _ noE := z.out
      cases et : ft ρ1 h1 with
      | ok b h2 =>
        rw [et] at z
        cases b with
        | true =>
          have z : wpR (fe ρ1 h2) _ noE := z.out
          simp only [et]
          cases ee : fe ρ1 h2 with
          | ok v h3 =>
            rw [ee] at z
            obtain ⟨x, rfl, hx, rfl⟩ := (z.out : ∃ x, v = .d x ∧ f d = some x ∧ h3 = h)
            simp only
            rw [if_pos (by omega), compR_pure f hc (by rw [List.length_append, List.length_singleton]; omega) st', List.filterMap_cons, hx, List.append_assoc]
            rfl
          | ex c v h => rw [ee] at z; exact False.elim z.out
          | no => rw [ee] at z; exact False.elim z.out
        | false =>
          simp only [et]
          obtain ⟨hn, rfl⟩ := (z.out : f d = none ∧ h2 = h)
          rw [compR_pure f hc (by omega) st', List.filterMap_cons, hn]
      | ex c v h => rw [et] at z; exact False.elim z.out
      | no => rw [et] at z; exact False.elim z.out
    | ex c v h => rw [eg] at z; exact False.elim z.out
    | no => rw [eg] at z; exact False.elim z.out
/-- a comprehension over a list of known things, those that a test takes -/
theorem compR_fm {γ : Type} {g : List (Nat × List D)} {gt : MG} {ft : Env → Hs → R Bool} {fe : MV} {ρ : Env} {h : Hs} (A B : γ → D) (p : γ → Bool) (hc : Chk g h) : ∀ {l : List γ} {acc : List D}, acc.length + l.length ≤ sizeLine →
    (∀ x ∈ l, wpR (gt (.d (A x)) ρ h) (fun ρ1 h1 => wpR (ft ρ1 h1) (fun b h2 => b = p x ∧ h2 = h ∧ (p x = true → wpR (fe ρ1 h) (fun v h3 => v = .d (B x) ∧ h3 = h) noE)) noE) noE) →
    compR g gt ft fe ρ (l.map A) h acc = some (acc ++ (l.filter p).map B, h)
  | [], acc, _, _ => by
    rw [List.map_nil]
    unfold compR
    rw [if_pos hc, List.filter_nil, List.map_nil, List.append_nil]
  | x :: l, acc, hl, st => by
    rw [List.map_cons]
    unfold compR
    rw [if_pos hc]
    have z := st x List.mem_cons_self
    have st' := fun d' m => st d' (List.mem_cons_of_mem _ m)
    rw [List.length_cons] at hl
    cases eg : gt (.d (A x)) ρ h with
    | ok ρ1 h1 =>
      rw [eg] at z
      have z : wpR (ft ρ1 h1) _ noE := z.out
      cases et : ft ρ1 h1 with
      | ok b h2 =>
        rw [et] at z
        obtain ⟨rfl, rfl, z⟩ := (z.out : b = p x ∧ h2 = h ∧ (p x = true → wpR (fe ρ1 h) (fun v h3 => v = .d (B x) ∧ h3 = h) noE))
        simp only [et]
        cases ep : p x with
        | true =>
          have z := z ep
          cases ee : fe ρ1 h2 with
          | ok v h3 =>
            rw [ee] at z
            obtain ⟨rfl, rfl⟩ := (z.out : v = .d (B x) ∧ h3 = h2)
            simp only [ep, ee]
            rw [if_pos (by omega), compR_fm A B p hc (by rw [List.length_append, List.length_singleton]; omega) st', List.filter_cons, if_pos ep, List.map_cons, List.append_assoc]
            rfl
          | ex c v h => rw [ee] at z; exact False.elim z.out
          | no => rw [ee] at z; exact False.elim z.out
        | false =>
          simp only [ep]
          rw [compR_fm A B p hc (by omega) st', List.filter_cons, if_neg (by rw [ep]; exact Bool.false_ne_true)]
      | ex c v h => rw [et] at z; exact False.elim z.out
      | no => rw [et] at z; exact False.elim z.out
    | ex c v h => rw [eg] at z; exact False.elim z.out
    | no => rw [eg] at z; exact False.elim z.out
theorem compR_map {γ : Type} {g : List (Nat × List D)} {gt : MG} {fe : MV} {ρ : Env} {h : Hs} (A B : γ → D) {l : List γ} (hc : Chk g h) (hl : l.length ≤ sizeLine)
    (st : ∀ x ∈ l, wpR (gt (.d (A x)) ρ h) (fun ρ1 h1 => h1 = h ∧ wpR (fe ρ1 h) (fun v h3 => v = .d (B x) ∧ h3 = h) noE) noE) : compR g gt tYesD fe ρ (l.map A) h [] = some (l.map B, h) := by
  have z := compR_fm (ft := tYesD) A B (fun _ => true) (acc := []) hc (by rw [List.length_nil, Nat.zero_add]; exact hl) fun x m => wpR_mono (st x m) (fun ρ1 h1 ⟨e, w⟩ => by subst e; exact ⟨rfl, rfl, fun _ => w⟩) (fun _ _ _ h => h)
  rw [z, List.filter_eq_self.mpr (fun _ _ => rfl)]; rfl
theorem zip_maps {γ δ : Type} (A : γ → D) (B : δ → D) : ∀ (l : List γ) (m : List δ), List.zipWith (fun a b => PyData.tuple [a, b]) (l.map A) (m.map B) = (l.zip m).map fun p => .tuple [A p.1, B p.2]
  | [], _ => rfl
  | _ :: _, [] => rfl
  | a :: l, b :: m => by simp only [List.map_cons, List.zipWith_cons_cons, List.zip_cons_cons, zip_maps A B l m]
theorem zw {γ δ ε : Type} (f : γ → δ → ε) : ∀ (l : List γ) (m : List δ), List.zipWith f l m = (l.zip m).map fun p => f p.1 p.2
  | [], _ => by simp
  | _ :: _, [] => by simp
  | a :: l, b :: m => by rw [List.zipWith_cons_cons, List.zip_cons_cons, List.map_cons, zw f l m]
@[simp] theorem mkL_some (ds : List D) (h : Hs) : mkL (some (ds, h)) = .ok (.d (.list ds)) h := rfl
@[simp] theorem mkLM_some (ds : List D) (h : Hs) : mkLM (some (ds, h)) = .ok (.r h.length) (h ++ [.lst ds]) := rfl
@[simp] theorem mkDM_some (t : Bool) (kvs : List (D × D)) (h : Hs) : mkDM t (some (kvs, h)) = .ok (.r h.length) (h ++ [.dic t kvs]) := rfl
theorem sz_le {k : Nat} (h : k ≤ 4096) : k ≤ sizeLine := by rw [sizeLine_eq]; omega
@[simp] theorem isTuple_t (ds : List D) : isTuple (.tuple ds) = true := rfl
@[simp] theorem isInt_i (i : Int) : isInt (.int i) = true := rfl
@[simp] theorem isBool_i (i : Int) : isBool (.int i) = false := rfl
@[simp] theorem wipeD_cons (ρ : Env) (v : Nat) (vs : List Nat) : wipeD ρ (v :: vs) = (wipeD ρ vs).set v none := rfl
@[simp] theorem wipeD_nil (ρ : Env) : wipeD ρ [] = ρ := rfl
theorem shaped_int (i : Int) : SeqAt.shaped (.int i) = true := rfl
/-- data that are compared: nothing but numbers, None, truths in tuples and lists, not deep -/
theorem dEq_int (i j : Int) : dEq (.int i) (.int j) = some (.bool (decide (i = j))) := by
  unfold dEq
  rw [if_pos ⟨shaped_int i, shaped_int j⟩]
  show some (PyData.bool (i == j)) = _
  by_cases e : i = j <;> simp [e]
theorem dNe_int (i j : Int) : dNe (.int i) (.int j) = some (.bool (decide (i ≠ j))) := by
  unfold dNe
  rw [if_pos ⟨shaped_int i, shaped_int j⟩]
  show some (PyData.bool (!(i == j))) = _
  by_cases e : i = j <;> simp [e]
theorem putBy_len {κ : Type} [DecidableEq κ] (f : D → Option κ) (kvs : List (D × D)) (k : κ) (kd x : D) : (putBy f kvs k kd x).length ≤ kvs.length + 1 := by
  unfold putBy
  split
  · rw [List.length_map]; omega
  · rw [List.length_append, List.length_singleton]; omega
/-- a dict comprehension without tests over a list of known things, the keys tuples -/
theorem compDR_fold {γ : Type} {g : List (Nat × List D)} {gt : MG} {fk fe : MV} {ρ : Env} {h : Hs} (A : γ → D) (kf : γ → List Key) (kd vd : γ → D) (hc : Chk g h) : ∀ {l : List γ} {acc : List (D × D)}, acc.length + l.length ≤ sizeLine → (∀ x ∈ l, keysI (kd x) = some (kf x)) →
    (∀ x ∈ l, wpR (gt (.d (A x)) ρ h) (fun ρ1 h1 => h1 = h ∧ wpR (fk ρ1 h) (fun v h2 => v = .d (kd x) ∧ h2 = h ∧ wpR (fe ρ1 h) (fun v h3 => v = .d (vd x) ∧ h3 = h) noE) noE) noE) →
    compDR true g gt tYesD fk fe ρ (l.map A) h acc = some (l.foldl (fun acc x => putBy keysE acc (kf x) (kd x) (vd x)) acc, h)
  | [], acc, _, _, _ => by
    rw [List.map_nil]
    unfold compDR
    rw [if_pos hc]; rfl
  | x :: l, acc, hl, hk, st => by
    rw [List.map_cons]
    unfold compDR
    rw [if_pos hc]
    have z := st x List.mem_cons_self
    have st' := fun d' m => st d' (List.mem_cons_of_mem _ m)
    rw [List.length_cons] at hl
    cases eg : gt (.d (A x)) ρ h with
    | ok ρ1 h1 =>
      rw [eg] at z
      obtain ⟨rfl, z⟩ := (z.out : h1 = h ∧ _)
      cases ek : fk ρ1 h1 with
      | ok v h2 =>
        rw [ek] at z
        obtain ⟨rfl, rfl, z⟩ := (z.out : v = .d (kd x) ∧ h2 = h1 ∧ _)
        cases ee : fe ρ1 h2 with
        | ok v h3 =>
          rw [ee] at z
          obtain ⟨rfl, rfl⟩ := (z.out : v = .d (vd x) ∧ h3 = h2)
          have ep : dPutD true acc (kd x) (vd x) = some (putBy keysE acc (kf x) (kd x) (vd x)) := by
            unfold dPutD
            rw [if_pos (by omega), if_pos rfl, hk x List.mem_cons_self]; rfl
          simp only [tYesD, ek, ee, ep]
          have pl := putBy_len keysE acc (kf x) (kd x) (vd x)
          rw [compDR_fold A kf kd vd hc (by omega) (fun y m => hk y (List.mem_cons_of_mem _ m)) st', List.foldl_cons]
        | ex c v h => rw [ee] at z; exact False.elim z.out
        | no => rw [ee] at z; exact False.elim z.out
      | ex c v h => rw [ek] at z; exact False.elim z.out
      | no => rw [ek] at z; exact False.elim z.out
    | ex c v h => rw [eg] at z; exact False.elim z.out
    | no => rw [eg] at z; exact False.elim z.out
theorem putBy_new {κ : Type} [DecidableEq κ] {f : D → Option κ} {kvs : List (D × D)} {k : κ} {kd x : D} (h : ∀ p ∈ kvs, f p.1 ≠ some k) : putBy f kvs k kd x = kvs ++ [(kd, x)] := by
  unfold putBy
  rw [if_neg]
  intro z
  obtain ⟨p, hp, e⟩ := List.any_eq_true.mp z
  exact h p hp (of_decide_eq_true e)
theorem fold_new {γ : Type} (kf : γ → List Key) (kd vd : γ → D) : ∀ {l : List γ} {acc : List (D × D)}, (∀ x ∈ l, keysE (kd x) = some (kf x)) → (∀ p ∈ acc, ∀ x ∈ l, keysE p.1 ≠ some (kf x)) → (l.map kf).Nodup →
    l.foldl (fun acc x => putBy keysE acc (kf x) (kd x) (vd x)) acc = acc ++ l.map fun x => (kd x, vd x)
  | [], acc, _, _, _ => by simp
  | x :: l, acc, hk, ha, hn => by
    rw [List.map_cons, List.nodup_cons] at hn
    rw [List.foldl_cons, putBy_new (fun p m => ha p m x List.mem_cons_self), fold_new kf kd vd (fun y m => hk y (List.mem_cons_of_mem _ m)) (fun p m y my => ?_) hn.2, List.map_cons, List.append_assoc]; rfl
    rcases List.mem_append.mp m with m | m
    · exact ha p m y (List.mem_cons_of_mem _ my)
    · have e : p = (kd x, vd x) := by simpa using m
      rw [e, hk x List.mem_cons_self]
      intro z
      injection z with z
      exact hn.1 (z ▸ List.mem_map_of_mem my)
theorem keysE_ints (s : List Int) : keysE (.tuple (s.map .int)) = some (s.map .inl) := by
  have z := keysOf_map (s.map fun i => (Sum.inl i : Key))
  rw [List.map_map] at z
  exact z
theorem keysI_ints {s : List Int} (h : isCon (s.map PyData.int) = false) : keysI (.tuple (s.map .int)) = some (s.map .inl) := by
  show (if isCon (s.map PyData.int) = true then none else keysOf (s.map PyData.int)) = _
  rw [if_neg (by rw [h]; exact Bool.false_ne_true)]
  exact keysE_ints s
theorem atI_nat {α : Type} (xs : List α) (i : Nat) : atI xs (i : Int) = xs[i]? := by
  unfold atI ixN
  rw [if_pos (Int.natCast_nonneg i)]
  by_cases h : i < xs.length
  · rw [if_pos (by omega)]; rfl
  · rw [if_neg (by omega), List.getElem?_eq_none (by omega)]; rfl
theorem atI_zero {α : Type} (a : α) (as : List α) : atI (a :: as) 0 = some a := atI_nat (a :: as) 0
end DL

set_option Elab.async false
set_option linter.all false
set_option maxRecDepth 100000
set_option maxHeartbeats 1000000
namespace DL
open PySem PySem.Spec PyProof.Rows L2

/-! ### a while loop by an invariant and a number that falls -/
theorem wp_while_ex {P : Po} {c : Env → Hs → R Bool} {body : MS} (I : Nat → Env → Hs → Prop)
    (st : ∀ n ρ h, I n ρ h → wpR (c ρ h) (fun b h1 => if b = true then wpS (body ρ h1) ⟨fun ρ' h' => ∃ m, m < n ∧ I m ρ' h', P.rt, P.ex, P.nx, fun ρ' h' => ∃ m, m < n ∧ I m ρ' h'⟩ else P.nx ρ h1) (fun c v h => P.ex c v ρ h)) :
    ∀ (n : Nat) (ρ : Env) (h : Hs), I n ρ h → wpS (whileN c body (n + 1) ρ h) P := by
  intro n
  induction n using Nat.strongRecOn with
  | ind n ih =>
    intro ρ h hi
    have z := st n ρ h hi
    unfold whileN
    cases ec : c ρ h with
    | ok b h1 =>
      rw [ec] at z
      have z : if b = true then wpS (body ρ h1) _ else P.nx ρ h1 := z.out
      show wpS (if b = true then _ else _) P
      cases b with
      | false => exact ⟨z⟩
      | true =>
        have z : wpS (body ρ h1) _ := z
        show wpS (match body ρ h1 with
          | .nx ρ2 h2 => whileN c body n ρ2 h2
          | .ct ρ2 h2 => whileN c body n ρ2 h2
          | .bk ρ2 h2 => .nx ρ2 h2
          | r => r) P
        have go : ∀ ρ2 h2, (∃ m, m < n ∧ I m ρ2 h2) → wpS (whileN c body n ρ2 h2) P := fun ρ2 h2 ⟨m, hm, i2⟩ => by
          have y := ih m hm ρ2 h2 i2
          have ne : whileN c body (m + 1) ρ2 h2 ≠ .no := fun e => by rw [e] at y; exact y.out
          rw [whileN_up c body (m + 1) n ρ2 h2 ne hm]
          exact y
        cases eb : body ρ h1 with
        | nx ρ2 h2 => rw [eb] at z; exact go ρ2 h2 z.out
        | ct ρ2 h2 => rw [eb] at z; exact go ρ2 h2 z.out
        | bk ρ2 h2 => rw [eb] at z; exact ⟨z.out⟩
        | rt v h => rw [eb] at z; exact ⟨z.out⟩
        | ex c v ρ h => rw [eb] at z; exact ⟨z.out⟩
        | no => rw [eb] at z; exact False.elim z.out
    | ex cc v h => rw [ec] at z; exact ⟨z.out⟩
    | no => rw [ec] at z; exact False.elim z.out
theorem wp_while {P : Po} {c : Env → Hs → R Bool} {body : MS} (I : Nat → Env → Hs → Prop) {n : Nat} {ρ : Env} {h : Hs} (h0 : I n ρ h)
    (st : ∀ n ρ h, I n ρ h → wpR (c ρ h) (fun b h1 => if b = true then wpS (body ρ h1) ⟨fun ρ' h' => ∃ m, m < n ∧ I m ρ' h', P.rt, P.ex, P.nx, fun ρ' h' => ∃ m, m < n ∧ I m ρ' h'⟩ else P.nx ρ h1) (fun c v h => P.ex c v ρ h)) :
    wpS (sWhile c body ρ h) P := by
  have z := wp_while_ex I st n ρ h h0
  have ne : whileN c body (n + 1) ρ h ≠ .no := fun e => by rw [e] at z; exact z.out
  rw [sWhile_eq ne]
  exact z

/-! ### numbers as fractions in lowest terms -/
def qD (q : Rat) : D := .tuple [.int q.num, .int (q.den : Int)]
/-- a whole number of at most n bits -/
def Lt2 (n : Nat) (i : Int) : Prop := i.natAbs < 2 ^ n
def Bd (n : Nat) (q : Rat) : Prop := Lt2 n q.num ∧ q.den < 2 ^ n
theorem Lt2.mono {n m : Nat} {i : Int} (h : Lt2 n i) (e : n ≤ m) : Lt2 m i := Nat.lt_of_lt_of_le h (Nat.pow_le_pow_right (by omega) e)
theorem Bd.mono {n m : Nat} {q : Rat} (h : Bd n q) (e : n ≤ m) : Bd m q := ⟨h.1.mono e, Nat.lt_of_lt_of_le h.2 (Nat.pow_le_pow_right (by omega) e)⟩
theorem Lt2.den {n : Nat} {q : Rat} (h : Bd n q) : Lt2 n (q.den : Int) := by
  show (q.den : Int).natAbs < _
  rw [Int.natAbs_natCast]
  exact h.2
theorem Lt2.log {n : Nat} {i : Int} (h : Lt2 n i) : i.natAbs.log2 ≤ n := by
  by_cases e : i.natAbs = 0
  · rw [e]; exact Nat.zero_le _
  · exact Nat.le_of_lt ((Nat.log2_lt e).mpr h)
theorem Lt2.mul {n m : Nat} {i j : Int} (h : Lt2 n i) (k : Lt2 m j) : Lt2 (n + m) (i * j) := by
  unfold Lt2 at *
  rw [Int.natAbs_mul, Nat.pow_add]
  calc i.natAbs * j.natAbs ≤ i.natAbs * 2 ^ m := Nat.mul_le_mul_left _ (Nat.le_of_lt k)
    _ < 2 ^ n * 2 ^ m := Nat.mul_lt_mul_of_pos_right h (Nat.pow_pos (by omega))
theorem Lt2.add {n m : Nat} {i j : Int} (h : Lt2 n i) (k : Lt2 m j) : Lt2 (n + m + 1) (i + j) := by
  unfold Lt2 at *
  have a : 2 ^ n ≤ 2 ^ (n + m) := Nat.pow_le_pow_right (by omega) (by omega)
  have b : 2 ^ m ≤ 2 ^ (n + m) := Nat.pow_le_pow_right (by omega) (by omega)
  rw [Nat.pow_succ]
  omega
theorem Lt2.add2 {n : Nat} {i j : Int} (h : Lt2 n i) (k : Lt2 n j) : Lt2 (n + 1) (i + j) := by
  unfold Lt2 at *
  rw [Nat.pow_succ]
  omega
theorem Lt2.neg {n : Nat} {i : Int} (h : Lt2 n i) : Lt2 n (-i) := by unfold Lt2 at *; rw [Int.natAbs_neg]; exact h
theorem mulOk_of {n m : Nat} {i j : Int} (h : Lt2 n i) (k : Lt2 m j) (e : n + m < 50000000) : mulOk i j = true := by
  unfold mulOk
  have a := h.log
  have b := k.log
  exact decide_eq_true (by omega)
theorem dMul_of {n m : Nat} {i j : Int} (h : Lt2 n i) (k : Lt2 m j) (e : n + m < 50000000) : dMul (.int i) (.int j) = some (.int (i * j)) := by
  show (if mulOk i j = true then _ else _) = _
  rw [if_pos (mulOk_of h k e)]
/-- what both sides are divided by: of the lower side's sign -/
def comm2 (t b : Int) : Int := if b < 0 then -((Nat.gcd t.natAbs b.natAbs : Nat) : Int) else ((Nat.gcd t.natAbs b.natAbs : Nat) : Int)
theorem comm2_ne {t b : Int} (hb : b ≠ 0) : comm2 t b ≠ 0 := by
  have : 0 < Nat.gcd t.natAbs b.natAbs := Nat.gcd_pos_of_pos_right _ (Int.natAbs_pos.mpr hb)
  unfold comm2
  split <;> omega
theorem comm2_num {t b : Int} (hb : b ≠ 0) : t.fdiv (comm2 t b) = (Rat.divInt t b).num := by
  have gp : 0 < Nat.gcd t.natAbs b.natAbs := Nat.gcd_pos_of_pos_right _ (Int.natAbs_pos.mpr hb)
  have eg : b.gcd t = Nat.gcd t.natAbs b.natAbs := Nat.gcd_comm _ _
  have dv : ((Nat.gcd t.natAbs b.natAbs : Nat) : Int) ∣ t := Int.ofNat_dvd_left.mpr (Nat.gcd_dvd_left _ _)
  rw [Rat.num_divInt, eg]
  unfold comm2
  generalize Nat.gcd t.natAbs b.natAbs = g at *
  obtain ⟨k, rfl⟩ := dv
  have g0 : (g : Int) ≠ 0 := by omega
  split
  · rename_i h
    rw [Int.sign_eq_neg_one_of_neg h, Int.fdiv_eq_ediv_of_dvd (Int.neg_dvd.mpr (Int.dvd_mul_right _ _)), Int.ediv_neg, Int.mul_ediv_cancel_left _ g0,
      show (-1 : Int) * (g * k) = g * -k by rw [Int.mul_neg, Int.neg_mul, Int.one_mul], Int.mul_ediv_cancel_left _ g0]
  · rename_i h
    rw [Int.sign_eq_one_of_pos (by omega), Int.one_mul, Int.fdiv_eq_ediv_of_dvd (Int.dvd_mul_right _ _)]
theorem comm2_den {t b : Int} (hb : b ≠ 0) : b.fdiv (comm2 t b) = ((Rat.divInt t b).den : Int) := by
  have gp : 0 < Nat.gcd t.natAbs b.natAbs := Nat.gcd_pos_of_pos_right _ (Int.natAbs_pos.mpr hb)
  have eg : b.gcd t = Nat.gcd t.natAbs b.natAbs := Nat.gcd_comm _ _
  have dv : ((Nat.gcd t.natAbs b.natAbs : Nat) : Int) ∣ b := Int.ofNat_dvd_left.mpr (Nat.gcd_dvd_right _ _)
  rw [Rat.den_divInt, if_neg hb, eg, Int.natCast_ediv]
  unfold comm2
  generalize Nat.gcd t.natAbs b.natAbs = g at *
  have g0 : (g : Int) ≠ 0 := by omega
  split
  · rename_i h
    rw [Int.fdiv_eq_ediv_of_dvd (Int.neg_dvd.mpr dv), Int.ediv_neg, show ((b.natAbs : Nat) : Int) = -b by omega, Int.neg_ediv_of_dvd dv]
  · rename_i h
    rw [Int.fdiv_eq_ediv_of_dvd dv, show ((b.natAbs : Nat) : Int) = b by omega]
theorem comm2_log {n : Nat} {t b : Int} (hb : b ≠ 0) (h : Lt2 n b) : (comm2 t b).natAbs.log2 ≤ n := by
  have a : (comm2 t b).natAbs = Nat.gcd t.natAbs b.natAbs := by unfold comm2; split <;> simp
  have c : Nat.gcd t.natAbs b.natAbs ≤ b.natAbs := Nat.le_of_dvd (Int.natAbs_pos.mpr hb) (Nat.gcd_dvd_right _ _)
  have : Lt2 n (comm2 t b) := by unfold Lt2; rw [a]; exact Nat.lt_of_le_of_lt c h
  exact this.log
theorem Bd.divInt {n : Nat} {t b : Int} (hb : b ≠ 0) (ht : Lt2 n t) (h : Lt2 n b) : Bd n (Rat.divInt t b) := by
  have gp : 0 < Nat.gcd t.natAbs b.natAbs := Nat.gcd_pos_of_pos_right _ (Int.natAbs_pos.mpr hb)
  have eg : b.gcd t = Nat.gcd t.natAbs b.natAbs := Nat.gcd_comm _ _
  constructor
  · unfold Lt2
    rw [Rat.num_divInt, eg]
    have dv : ((Nat.gcd t.natAbs b.natAbs : Nat) : Int) ∣ b.sign * t := Int.dvd_mul_of_dvd_right (Int.ofNat_dvd_left.mpr (Nat.gcd_dvd_left _ _))
    rw [Int.natAbs_ediv_of_dvd dv, Int.natAbs_mul, Int.natAbs_natCast, Int.natAbs_sign_of_ne_zero hb, Nat.one_mul]
    exact Nat.lt_of_le_of_lt (Nat.div_le_self _ _) ht
  · rw [Rat.den_divInt, if_neg hb]
    exact Nat.lt_of_le_of_lt (Nat.div_le_self _ _) h
theorem qadd (a b : Rat) : Rat.divInt (a.num * b.den + b.num * a.den) (a.den * b.den) = a + b := by
  have h1 := Rat.num_divInt_den a
  have h2 := Rat.num_divInt_den b
  have d1 : (a.den : Int) ≠ 0 := by have := a.den_nz; omega
  have d2 : (b.den : Int) ≠ 0 := by have := b.den_nz; omega
  rw [← Rat.divInt_add_divInt _ _ d1 d2, h1, h2]
theorem qmul (a b : Rat) : Rat.divInt (a.num * b.num) (a.den * b.den) = a * b := by
  have h1 := Rat.num_divInt_den a
  have h2 := Rat.num_divInt_den b
  rw [← Rat.divInt_mul_divInt, h1, h2]
theorem Bd.add {n m : Nat} {a b : Rat} (h : Bd n a) (k : Bd m b) : Bd (n + m + 1) (a + b) := by
  rw [← qadd]
  have d1 : (a.den : Int) ≠ 0 := by have := a.den_nz; omega
  have d2 : (b.den : Int) ≠ 0 := by have := b.den_nz; omega
  refine Bd.divInt (Int.mul_ne_zero d1 d2) ?_ ?_
  · exact (h.1.mul (Lt2.den k)).add2 ((k.1.mul (Lt2.den h)).mono (by omega))
  · exact ((Lt2.den h).mul (Lt2.den k)).mono (by omega)
theorem Bd.mul {n m : Nat} {a b : Rat} (h : Bd n a) (k : Bd m b) : Bd (n + m) (a * b) := by
  rw [← qmul]
  have d1 : (a.den : Int) ≠ 0 := by have := a.den_nz; omega
  have d2 : (b.den : Int) ≠ 0 := by have := b.den_nz; omega
  exact Bd.divInt (Int.mul_ne_zero d1 d2) (h.1.mul k.1) ((Lt2.den h).mul (Lt2.den k))
theorem Bd.int {n : Nat} {i : Int} (h : Lt2 n i) : Bd (n + 1) (i : Rat) := by
  refine ⟨?_, ?_⟩
  · rw [Rat.num_intCast]; exact h.mono (by omega)
  · rw [Rat.den_intCast]
    exact Nat.lt_of_lt_of_le (by decide : 1 < 2 ^ 1) (Nat.pow_le_pow_right (by omega) (by omega))
theorem Bd.neg {n : Nat} {q : Rat} (h : Bd n q) : Bd n (-q) := ⟨by rw [Rat.neg_num]; exact h.1.neg, by rw [Rat.neg_den]; exact h.2⟩
theorem qD_int (i : Int) : qD (i : Rat) = .tuple [.int i, .int 1] := by
  unfold qD
  rw [Rat.num_intCast, Rat.den_intCast]; rfl
theorem qD_zero : qD 0 = .tuple [.int 0, .int 1] := rfl
end DL

set_option Elab.async false
set_option linter.all false
set_option maxRecDepth 100000
set_option maxHeartbeats 1000000
namespace DL
open PySem PySem.Spec PyProof.Rows L2

/-! ### what sums and products are divided by -/
theorem comm2_abs (t b : Int) : (comm2 t b).natAbs = Nat.gcd t.natAbs b.natAbs := by unfold comm2; split <;> simp
theorem log_lt {k n : Nat} (h : k < 2 ^ n) (hn : 0 < n) : k.log2 < n := by
  by_cases e : k = 0
  · rw [e]; exact hn
  · exact (Nat.log2_lt e).mpr h
theorem gcd_mul_le {t a b x y : Nat} (ha : 0 < a) (hb : 0 < b) (h1 : Nat.gcd t a ≤ x) (h2 : Nat.gcd t b ≤ y) : Nat.gcd t (a * b) ≤ x * y := by
  have d := Nat.gcd_mul_right_dvd_mul_gcd t a b
  have p : 0 < Nat.gcd t a * Nat.gcd t b := Nat.mul_pos (Nat.gcd_pos_of_pos_right _ ha) (Nat.gcd_pos_of_pos_right _ hb)
  exact Nat.le_trans (Nat.le_of_dvd p d) (Nat.mul_le_mul h1 h2)
theorem gcd_cop {a b c : Nat} (h : Nat.Coprime a c) : Nat.gcd (a * b) c = Nat.gcd b c := Nat.Coprime.gcd_mul_left_cancel b h
theorem cop_q (q : Rat) : Nat.Coprime q.num.natAbs q.den := q.reduced
theorem min_pow {k n m : Nat} (h1 : k < 2 ^ n) (h2 : k < 2 ^ m) : k < 2 ^ min n m := by
  rcases Nat.le_total n m with h | h
  · rw [Nat.min_eq_left h]; exact h1
  · rw [Nat.min_eq_right h]; exact h2
theorem gcd_lt {k a n : Nat} (ha : 0 < a) (h : a < 2 ^ n) : Nat.gcd k a < 2 ^ n := Nat.lt_of_le_of_lt (Nat.le_of_dvd ha (Nat.gcd_dvd_right _ _)) h
theorem gcd_lt' {k a n : Nat} (ha : 0 < k) (h : k < 2 ^ n) : Nat.gcd k a < 2 ^ n := Nat.lt_of_le_of_lt (Nat.le_of_dvd ha (Nat.gcd_dvd_left _ _)) h
theorem log_sq {g x y n : Nat} (h : g ≤ x * y) (hx : x < 2 ^ n) (hy : y < 2 ^ n) : g.log2 ≤ 2 * n := by
  have : g < 2 ^ (2 * n + 1) := by
    have z : x * y ≤ 2 ^ n * 2 ^ n := Nat.mul_le_mul (Nat.le_of_lt hx) (Nat.le_of_lt hy)
    rw [← Nat.pow_add, show n + n = 2 * n by omega] at z
    rw [Nat.pow_succ]
    have := Nat.pow_pos (n := 2 * n) (show 0 < 2 by decide)
    omega
  have := log_lt this (by omega)
  omega
theorem comm_add {n m : Nat} {a b : Rat} (ha : Bd n a) (hb : Bd m b) : (comm2 (a.num * b.den + b.num * a.den) (a.den * b.den)).natAbs.log2 ≤ 2 * min n m := by
  have pa := a.den_pos
  have pb := b.den_pos
  rw [comm2_abs]
  have e1 : ((a.num * (b.den : Int) + b.num * a.den).natAbs).gcd a.den = Nat.gcd b.den a.den := by
    have z : Nat.gcd (a.num * (b.den : Int) + b.num * a.den).natAbs a.den = Nat.gcd (a.num * (b.den : Int)).natAbs a.den := by
      show Int.gcd (a.num * (b.den : Int) + b.num * a.den) (a.den : Int) = Int.gcd (a.num * (b.den : Int)) (a.den : Int)
      rw [Int.mul_comm b.num, Int.gcd_add_mul_left_left]
    rw [z, Int.natAbs_mul, Int.natAbs_natCast, gcd_cop (cop_q a)]
  have e2 : ((a.num * (b.den : Int) + b.num * a.den).natAbs).gcd b.den = Nat.gcd a.den b.den := by
    have z : Nat.gcd (a.num * (b.den : Int) + b.num * a.den).natAbs b.den = Nat.gcd (b.num * (a.den : Int)).natAbs b.den := by
      show Int.gcd (a.num * (b.den : Int) + b.num * a.den) (b.den : Int) = Int.gcd (b.num * (a.den : Int)) (b.den : Int)
      rw [Int.add_comm, Int.mul_comm a.num, Int.gcd_add_mul_left_left]
    rw [z, Int.natAbs_mul, Int.natAbs_natCast, gcd_cop (cop_q b)]
  have eb : ((a.den : Int) * (b.den : Int)).natAbs = a.den * b.den := by rw [Int.natAbs_mul, Int.natAbs_natCast, Int.natAbs_natCast]
  rw [eb]
  have l1 : Nat.gcd b.den a.den < 2 ^ min n m := min_pow (gcd_lt pa ha.2) (gcd_lt' pb hb.2)
  have l2 : Nat.gcd a.den b.den < 2 ^ min n m := by rw [Nat.gcd_comm]; exact l1
  exact log_sq (gcd_mul_le pa pb (Nat.le_of_eq e1) (Nat.le_of_eq e2)) l1 l2
theorem comm_mul {n m : Nat} {a b : Rat} (ha : Bd n a) (hb : Bd m b) (hn : min n m ≤ 4400 ∧ n ≤ 8900 ∧ m ≤ 8900) : (comm2 (a.num * b.num) (a.den * b.den)).natAbs.log2 < 9000 := by
  have pa := a.den_pos
  have pb := b.den_pos
  rw [comm2_abs]
  have eb : ((a.den : Int) * (b.den : Int)).natAbs = a.den * b.den := by rw [Int.natAbs_mul, Int.natAbs_natCast, Int.natAbs_natCast]
  rw [eb, Int.natAbs_mul]
  have e1 : Nat.gcd (a.num.natAbs * b.num.natAbs) a.den = Nat.gcd b.num.natAbs a.den := gcd_cop (cop_q a)
  have e2 : Nat.gcd (a.num.natAbs * b.num.natAbs) b.den = Nat.gcd a.num.natAbs b.den := by rw [Nat.mul_comm]; exact gcd_cop (cop_q b)
  have lg : ∀ {k j : Nat}, k < 2 ^ j → j ≤ 8900 → k.log2 < 9000 := fun h hj => by
    have := log_lt (Nat.lt_of_lt_of_le h (Nat.pow_le_pow_right (by omega) (show _ ≤ 8901 by omega))) (by omega)
    omega
  have one : ∀ q : Rat, q.num = 0 → q.den = 1 := fun q z => by
    have := cop_q q
    rw [z] at this
    simpa [Nat.Coprime] using this
  by_cases z1 : a.num = 0
  · rw [z1, one a z1, Nat.one_mul, show (0 : Int).natAbs * b.num.natAbs = 0 by simp, Nat.gcd_zero_left]
    exact lg hb.2 (by omega)
  · by_cases z2 : b.num = 0
    · rw [z2, one b z2, Nat.mul_one, show a.num.natAbs * (0 : Int).natAbs = 0 by simp, Nat.gcd_zero_left]
      exact lg ha.2 (by omega)
    · have l1 : Nat.gcd b.num.natAbs a.den < 2 ^ min n m := min_pow (gcd_lt pa ha.2) (gcd_lt' (by omega) hb.1)
      have l2 : Nat.gcd a.num.natAbs b.den < 2 ^ min n m := min_pow (gcd_lt' (by omega) ha.1) (gcd_lt pb hb.2)
      have := log_sq (gcd_mul_le pa pb (Nat.le_of_eq e1) (Nat.le_of_eq e2)) l1 l2
      omega
/-! ### ranges, a law's end -/
theorem rng_get {n : Nat} {j : Nat} {d : D} (h : (rng 0 n)[j]? = some d) : j < n ∧ d = .int (j : Int) := by
  have e : rng 0 n = (List.range n).map fun i : Nat => PyData.int (i : Int) := by simp [rng]
  rw [e, List.getElem?_map] at h
  obtain ⟨a, ha, rfl⟩ := Option.map_eq_some_iff.mp h
  obtain ⟨h1, h2⟩ := List.getElem?_eq_some_iff.mp ha
  simp at h1 h2
  exact ⟨h1, by rw [h2]⟩
theorem rng_len (n : Nat) : (rng 0 n).length = n := by simp [rng]
theorem ex_hs {F : FnD} {us : List Val} {h : Hs} {u : Val} (w : wpR (F us h) (fun v _ => v = u) noE) : ∃ hs, F us h = .ok u hs := by
  cases e : F us h with
  | ok v hs => rw [e] at w; exact ⟨hs, by rw [(w.out : v = _)]⟩
  | ex c v hs => rw [e] at w; exact w.out.elim
  | no => rw [e] at w; exact w.out.elim
/-- how many turns a law takes: of the script's length, at least two, at most so many -/
theorem turns (ns : List Int) (k : Nat) (hk : 2 ≤ k) : ∃ c : Nat, c ≤ k ∧ 2 ≤ c ∧ (if 2 < if (k : Int) < (ns.length : Int) then (k : Int) else (ns.length : Int) then if (k : Int) < (ns.length : Int) then (k : Int) else (ns.length : Int) else 2) = (c : Int) := by
  refine ⟨max 2 (min k ns.length), by omega, by omega, ?_⟩
  split <;> split at * <;> omega
/-! ### comprehensions, as they stand in what is to be shown -/
section
variable {γ : Type} {g : List (Nat × List D)} {gt : MG} {ft : Env → Hs → R Bool} {fe : MV} {ρ : Env} {h : Hs} {xs : List D} {Q : Val → Hs → Prop} {E : EP}
theorem wp_lc_map (A B : γ → D) {l : List γ} (hx : xs = l.map A) (hc : Chk g h) (hl : l.length ≤ sizeLine)
    (st : ∀ x ∈ l, wpR (gt (.d (A x)) ρ h) (fun ρ1 h1 => h1 = h ∧ wpR (fe ρ1 h) (fun v h3 => v = .d (B x) ∧ h3 = h) noE) noE)
    (k : Q (.d (.list (l.map B))) h) : wpR (mkL (compR g gt tYesD fe ρ xs h [])) Q E := by
  rw [hx, compR_map A B hc hl st, mkL_some, wpR_ok]
  exact k
theorem wp_lcM_map (A B : γ → D) {l : List γ} (hx : xs = l.map A) (hc : Chk g h) (hl : l.length ≤ sizeLine)
    (st : ∀ x ∈ l, wpR (gt (.d (A x)) ρ h) (fun ρ1 h1 => h1 = h ∧ wpR (fe ρ1 h) (fun v h3 => v = .d (B x) ∧ h3 = h) noE) noE)
    (k : Q (.r h.length) (h ++ [.lst (l.map B)])) : wpR (mkLM (compR g gt tYesD fe ρ xs h [])) Q E := by
  rw [hx, compR_map A B hc hl st, mkLM_some, wpR_ok]
  exact k
theorem wp_lc_fm (A B : γ → D) (p : γ → Bool) {l : List γ} (hx : xs = l.map A) (hc : Chk g h) (hl : l.length ≤ sizeLine)
    (st : ∀ x ∈ l, wpR (gt (.d (A x)) ρ h) (fun ρ1 h1 => wpR (ft ρ1 h1) (fun b h2 => b = p x ∧ h2 = h ∧ (p x = true → wpR (fe ρ1 h) (fun v h3 => v = .d (B x) ∧ h3 = h) noE)) noE) noE)
    (k : Q (.d (.list ((l.filter p).map B))) h) : wpR (mkL (compR g gt ft fe ρ xs h [])) Q E := by
  rw [hx, compR_fm A B p hc (by rw [List.length_nil, Nat.zero_add]; exact hl) st, mkL_some, wpR_ok, List.nil_append]
  exact k
theorem filter_none {γ : Type} (l : List γ) : l.filter (fun _ => false) = [] := by
  induction l with
  | nil => rfl
  | cons x l ih => rw [List.filter_cons, if_neg (by decide), ih]
theorem zip_self {γ : Type} (l : List γ) : l.zip l = l.map fun x => (x, x) := by
  induction l with
  | nil => rfl
  | cons x l ih => rw [List.zip_cons_cons, ih, List.map_cons]
/-- one that takes nothing -/
theorem wp_lc_none (A : γ → D) {l : List γ} (hx : xs = l.map A) (hc : Chk g h) (hl : l.length ≤ sizeLine)
    (st : ∀ x ∈ l, wpR (gt (.d (A x)) ρ h) (fun ρ1 h1 => wpR (ft ρ1 h1) (fun b h2 => b = false ∧ h2 = h) noE) noE)
    (k : Q (.d (.list [])) h) : wpR (mkL (compR g gt ft fe ρ xs h [])) Q E := by
  refine wp_lc_fm A (fun _ => .none) (fun _ => false) hx hc hl (fun x m => wpR_mono (st x m) (fun ρ1 h1 w => wpR_mono w (fun b h2 ⟨e, f⟩ => ⟨e, f, fun z => by cases z⟩) (fun _ _ _ z => z)) (fun _ _ _ z => z)) ?_
  rw [filter_none]
  exact k
/-- one that changes the store: by an invariant -/
theorem wp_lc_inv (I : Nat → Hs → List D → Prop) (hc : ∀ i h acc, I i h acc → Chk g h) (h0 : I 0 h [])
    (st : ∀ i d h acc, xs[i]? = some d → I i h acc → Chk g h → wpR (gt (.d d) ρ h) (fun ρ1 h1 => wpR (ft ρ1 h1) (fun b h2 => if b = true then wpR (fe ρ1 h2) (fun v h3 => ∃ x, v = .d x ∧ acc.length < sizeLine ∧ I (i + 1) h3 (acc ++ [x])) noE else I (i + 1) h2 acc) noE) noE)
    (k : ∀ es h', I xs.length h' es → Q (.d (.list es)) h') : wpR (mkL (compR g gt ft fe ρ xs h [])) Q E := by
  obtain ⟨es, h', e, i⟩ := wp_comp (g := g) (gt := gt) (ft := ft) (fe := fe) (ρ := ρ) I (ds := xs) 0 hc h0 (fun i d h acc hd hi ck => by
    rw [Nat.zero_add] at hi ⊢
    exact st i d h acc hd hi ck)
  rw [e, mkL_some, wpR_ok]
  rw [Nat.zero_add] at i
  exact k es h' i
theorem wp_lcM_inv (I : Nat → Hs → List D → Prop) (hc : ∀ i h acc, I i h acc → Chk g h) (h0 : I 0 h [])
    (st : ∀ i d h acc, xs[i]? = some d → I i h acc → Chk g h → wpR (gt (.d d) ρ h) (fun ρ1 h1 => wpR (ft ρ1 h1) (fun b h2 => if b = true then wpR (fe ρ1 h2) (fun v h3 => ∃ x, v = .d x ∧ acc.length < sizeLine ∧ I (i + 1) h3 (acc ++ [x])) noE else I (i + 1) h2 acc) noE) noE)
    (k : ∀ es h', I xs.length h' es → Q (.r h'.length) (h' ++ [.lst es])) : wpR (mkLM (compR g gt ft fe ρ xs h [])) Q E := by
  obtain ⟨es, h', e, i⟩ := wp_comp (g := g) (gt := gt) (ft := ft) (fe := fe) (ρ := ρ) I (ds := xs) 0 hc h0 (fun i d h acc hd hi ck => by
    rw [Nat.zero_add] at hi ⊢
    exact st i d h acc hd hi ck)
  rw [e, mkLM_some, wpR_ok]
  rw [Nat.zero_add] at i
  exact k es h' i
end
/-- a for loop, its list known item by item -/
theorem wp_for0 {P : Po} {g : List (Nat × List D)} {gt : MG} {body : MS} {ds : List D} {ρ : Env} {h : Hs} (I : Nat → Env → Hs → Prop) (hc : ∀ i ρ h, I i ρ h → Chk g h) (h0 : I 0 ρ h)
    (st : ∀ i d ρ h, ds[i]? = some d → I i ρ h → wpR (gt (.d d) ρ h) (fun ρ' h' => wpS (body ρ' h') ⟨I (i + 1), P.rt, P.ex, P.nx, I (i + 1)⟩) noE) (fin : ∀ ρ h, I ds.length ρ h → P.nx ρ h) : wpS (forR g gt body ds ρ h) P :=
  wp_for I 0 hc h0 (fun i d ρ h e hi => by
    rw [Nat.zero_add] at hi ⊢
    exact st i d ρ h e hi) (fun ρ h hi => fin ρ h (by rw [Nat.zero_add] at hi; exact hi))
end DL

set_option Elab.async false
set_option linter.all false
set_option maxRecDepth 100000
set_option maxHeartbeats 1000000
namespace DL
open PySem PySem.Spec PyProof.Rows L2

/-! ### fractions over one lower side -/
def Fr (B : Nat) (D : Int) (q : Rat) : Prop := ∃ k : Int, q = (k : Rat) / (D : Rat) ∧ Lt2 B k
theorem ic0 {D : Int} (h : D ≠ 0) : (D : Rat) ≠ 0 := fun e => h (Rat.intCast_eq_zero_iff.mp e)
theorem Fr.bd {B C : Nat} {D : Int} {q : Rat} (f : Fr B D q) (h0 : D ≠ 0) (hD : Lt2 C D) : Bd (max B C) q := by
  obtain ⟨k, rfl, hk⟩ := f
  rw [← Rat.divInt_eq_div]
  exact Bd.divInt h0 (hk.mono (Nat.le_max_left _ _)) (hD.mono (Nat.le_max_right _ _))
theorem Fr.mono {B C : Nat} {D : Int} {q : Rat} (f : Fr B D q) (h : B ≤ C) : Fr C D q := by
  obtain ⟨k, e, hk⟩ := f
  exact ⟨k, e, hk.mono h⟩
theorem Fr.scale {B C : Nat} {D c : Int} {q : Rat} (f : Fr B D q) (h0 : D ≠ 0) (hc : c ≠ 0) (lc : Lt2 C c) : Fr (B + C) (D * c) q := by
  obtain ⟨k, rfl, hk⟩ := f
  refine ⟨k * c, ?_, hk.mul lc⟩
  have a := ic0 h0
  have b := ic0 hc
  rw [Rat.intCast_mul, Rat.intCast_mul]
  grind
theorem Fr.scale' {B C : Nat} {D c : Int} {q : Rat} (f : Fr B D q) (h0 : D ≠ 0) (hc : c ≠ 0) (lc : Lt2 C c) : Fr (B + C) (c * D) q := by
  rw [Int.mul_comm]
  exact f.scale h0 hc lc
theorem Fr.add {B C : Nat} {D : Int} {q r : Rat} (f : Fr B D q) (g : Fr C D r) (h0 : D ≠ 0) : Fr (max B C + 1) D (q + r) := by
  obtain ⟨k, rfl, hk⟩ := f
  obtain ⟨j, rfl, hj⟩ := g
  refine ⟨k + j, ?_, (hk.mono (Nat.le_max_left _ _)).add2 (hj.mono (Nat.le_max_right _ _))⟩
  rw [Rat.intCast_add]
  grind
theorem Fr.neg {B : Nat} {D : Int} {q : Rat} (f : Fr B D q) : Fr B D (-q) := by
  obtain ⟨k, rfl, hk⟩ := f
  refine ⟨-k, ?_, hk.neg⟩
  rw [Rat.intCast_neg]
  grind
theorem Fr.sub {B C : Nat} {D : Int} {q r : Rat} (f : Fr B D q) (g : Fr C D r) (h0 : D ≠ 0) : Fr (max B C + 1) D (q - r) := by
  rw [Rat.sub_eq_add_neg]
  exact f.add g.neg h0
theorem Fr.mul {B C : Nat} {D E : Int} {q r : Rat} (f : Fr B D q) (g : Fr C E r) (h0 : D ≠ 0) (h1 : E ≠ 0) : Fr (B + C) (D * E) (q * r) := by
  obtain ⟨k, rfl, hk⟩ := f
  obtain ⟨j, rfl, hj⟩ := g
  refine ⟨k * j, ?_, hk.mul hj⟩
  have a := ic0 h0
  have b := ic0 h1
  rw [Rat.intCast_mul, Rat.intCast_mul]
  grind
theorem Fr.int {B : Nat} {D i : Int} {C : Nat} (hi : Lt2 B i) (h0 : D ≠ 0) (hD : Lt2 C D) : Fr (B + C) D (i : Rat) := by
  refine ⟨i * D, ?_, hi.mul hD⟩
  have a := ic0 h0
  rw [Rat.intCast_mul]
  grind
theorem Fr.imul {B C : Nat} {D i : Int} {q : Rat} (hi : Lt2 C i) (f : Fr B D q) (h0 : D ≠ 0) : Fr (C + B) D ((i : Rat) * q) := by
  obtain ⟨k, rfl, hk⟩ := f
  refine ⟨i * k, ?_, hi.mul hk⟩
  have a := ic0 h0
  rw [Rat.intCast_mul]
  grind
theorem Fr.own {n : Nat} {q : Rat} (h : Bd n q) : Fr n (q.den : Int) q := ⟨q.num, by
  rw [← Rat.divInt_eq_div, Rat.num_divInt_den], h.1⟩
/-- points over one lower side -/
structure SpotD (B : Nat) (qs : List Rat) : Prop where
  ex : ∃ D : Int, D ≠ 0 ∧ Lt2 B D ∧ ∀ q ∈ qs, Fr B D q
theorem SpotD.mono {B C : Nat} {qs : List Rat} (s : SpotD B qs) (h : B ≤ C) : SpotD C qs := by
  obtain ⟨D, h0, h1, h2⟩ := s.ex
  exact ⟨D, h0, h1.mono h, fun q m => (h2 q m).mono h⟩
/-- some fractions brought over one lower side -/
theorem fr_all {n : Nat} : ∀ {qs : List Rat}, (∀ q ∈ qs, Bd n q) → ∃ D : Int, D ≠ 0 ∧ Lt2 (n * qs.length + 1) D ∧ ∀ q ∈ qs, Fr (n * qs.length + 1) D q
  | [], _ => ⟨1, by decide, by simp [Lt2], fun q m => by cases m⟩
  | q :: qs, h => by
    obtain ⟨D, h0, h1, h2⟩ := fr_all (qs := qs) fun r m => h r (List.mem_cons_of_mem _ m)
    have bq := h q List.mem_cons_self
    have d0 : (q.den : Int) ≠ 0 := by have := q.den_nz; omega
    have ld := Lt2.den bq
    have en : n + (n * qs.length + 1) = n * (q :: qs).length + 1 := by rw [List.length_cons, Nat.mul_add, Nat.mul_one]; omega
    refine ⟨q.den * D, Int.mul_ne_zero d0 h0, ?_, fun r m => ?_⟩
    · rw [← en]; exact ld.mul h1
    · rw [← en]
      rcases List.mem_cons.mp m with e | m
      · subst e
        exact (Fr.own bq).scale d0 h0 h1
      · rw [Nat.add_comm]
        exact (h2 r m).scale' h0 d0 ld
/-! ### signs -/
theorem num_pos' (q : Rat) : 0 < q.num ↔ 0 < q := by
  rw [Rat.lt_iff]; simp
theorem num_neg' (q : Rat) : q.num < 0 ↔ q < 0 := by
  rw [Rat.lt_iff]; simp
theorem sign_pos {q : Rat} (h : 0 < q) : q.num.sign = 1 := Int.sign_eq_one_of_pos ((num_pos' q).mpr h)
theorem sign_neg' {q : Rat} (h : q < 0) : q.num.sign = -1 := Int.sign_eq_neg_one_of_neg ((num_neg' q).mpr h)
theorem sign_zero {q : Rat} (h : q = 0) : q.num.sign = 0 := by rw [h]; rfl
theorem sign_of_eq {q : Rat} : (q.num.sign = 1 ↔ 0 < q) ∧ (q.num.sign = -1 ↔ q < 0) ∧ (q.num.sign = 0 ↔ q = 0) := by
  rcases Int.lt_trichotomy q.num 0 with z | z | z
  · have h := (num_neg' q).mp z
    rw [Int.sign_eq_neg_one_of_neg z]
    refine ⟨⟨fun e => by simp at e, fun e => by grind⟩, ⟨fun _ => h, fun _ => rfl⟩, ⟨fun e => by simp at e, fun e => by grind⟩⟩
  · have h : q = 0 := Rat.num_eq_zero.mp z
    rw [z]
    refine ⟨⟨fun e => by simp at e, fun e => by grind⟩, ⟨fun e => by simp at e, fun e => by grind⟩, ⟨fun _ => h, fun _ => rfl⟩⟩
  · have h := (num_pos' q).mp z
    rw [Int.sign_eq_one_of_pos z]
    refine ⟨⟨fun _ => h, fun _ => rfl⟩, ⟨fun e => by simp at e, fun e => by grind⟩, ⟨fun e => by simp at e, fun e => by grind⟩⟩
theorem mul_num_neg (a b : Rat) : a.num * b.num < 0 ↔ a * b < 0 := by
  have e : (a * b).num.sign = (a.num * b.num).sign := by
    have h : (a.num * b.num) = (a * b).num * ((a.num * b.num).natAbs.gcd (a.den * b.den) : Int) := by
      have := Rat.num_mul a b
      rw [this]
      exact (Int.ediv_mul_cancel (Int.ofNat_dvd_left.mpr (Nat.gcd_dvd_left _ _))).symm
    have gp : 0 < ((a.num * b.num).natAbs.gcd (a.den * b.den)) := Nat.gcd_pos_of_pos_right _ (Nat.mul_pos a.den_pos b.den_pos)
    rw [h, Int.sign_mul, Int.sign_eq_one_of_pos (a := ((a.num * b.num).natAbs.gcd (a.den * b.den) : Int)) (by omega), Int.mul_one]
  rw [← Int.sign_eq_neg_one_iff_neg, ← e, sign_of_eq.2.1]
theorem lt_num (a b : Rat) : (a.num * b.den - b.num * a.den < 0) ↔ a < b := by
  rw [Rat.lt_iff]; omega
end DL

set_option Elab.async false
set_option linter.all false
set_option maxRecDepth 100000
set_option maxHeartbeats 1000000
namespace HT
open PySem PySem.Spec PyProof.Rows L2
section
variable {prog : Program} {w : World} {A : Around} {s : Shared} {E : Value → Shared → Prop}
theorem adj_rev (n : Nat) : Builtin.Slice.sliceAdjust none none (-1) (n : Int) = ((n : Int) - 1, -1) := by
  unfold Builtin.Slice.sliceAdjust
  simp
theorem places_rev (n : Nat) : Builtin.Slice.slicePlaces ((n : Int) - 1) (-1) (-1) = n := by
  unfold Builtin.Slice.slicePlaces
  simp
  split <;> omega
theorem pick_rev (xs : Array Value) : ((List.range xs.size).filterMap fun (m : Nat) => xs[(((xs.size : Int) - 1) + (m : Int) * (-1)).toNat]?).toArray = xs.toList.reverse.toArray := by
  have e : (List.range xs.size).filterMap (fun (m : Nat) => xs[(((xs.size : Int) - 1) + (m : Int) * (-1)).toNat]?) = ((List.range xs.size).map fun k => xs.size - 1 - k).filterMap (xs[·]?) := by
    rw [List.filterMap_map]
    congr 1
    funext m
    show xs[_]? = xs[xs.size - 1 - m]?
    congr 1
    omega
  rw [e, PySem.W.krv_range, List.filterMap_reverse, PySem.W.krv_all]
theorem sliceApplied_rev {sl : Addr} {vl vu vs : Value} {n : Nat} {Q : Int × Int × Nat → Shared → Prop} (hs : s.heap.IsSliceOf sl vl vu vs) (pl : IsPart vl none) (pu : IsPart vu none) (ps : IsPart vs (some (-1)))
    (h : Q ((n : Int) - 1, -1, n) s) : wpAny (model prog w) A (Builtin.Slice.sliceApplied (.ref sl) (pure (n : Int))) Q E s := by
  obtain ⟨os, hos, hcs, hds⟩ := id hs
  unfold Builtin.Slice.sliceApplied Builtin.Slice.sliceFields
  refine wpAny_bind (wpAny_bind (wpAny_field hos hds (x := vl) rfl (wpAny_bind (wpAny_field hos hds (x := vu) rfl (wpAny_bind (wpAny_field hos hds (x := vs) rfl (wpAny_pure ?_)))))))
  refine wpAny_bind (slicePart_ ps ?_)
  show wpAny _ _ (if ((-1 : Int) == 0) = true then _ else _) _ _ s
  rw [if_neg (by decide)]
  refine wpAny_bind (slicePart_ pl (wpAny_bind (slicePart_ pu (wpAny_bind (wpAny_pure ?_)))))
  show wpAny _ _ (match Builtin.Slice.sliceAdjust none none (-1) (n : Int) with | (lo, hi) => pure (lo, (-1 : Int), Builtin.Slice.slicePlaces lo hi (-1))) _ _ s
  rw [adj_rev n]
  show wpAny _ _ (pure ((n : Int) - 1, (-1 : Int), Builtin.Slice.slicePlaces ((n : Int) - 1) (-1) (-1))) _ _ s
  rw [places_rev]
  exact wpAny_pure h
theorem getItem_tuple_rev {t sl : Addr} {items : Array Value} {vl vu vs : Value} {Q : Value → Shared → Prop} (ht : IsTup s.heap t items) (hs : s.heap.IsSliceOf sl vl vu vs) (pl : IsPart vl none) (pu : IsPart vu none) (ps : IsPart vs (some (-1)))
    (h : Q (.ref s.heap.objs.size) { s with heap := s.heap.push { cls := .type "tuple", data := .seq items.toList.reverse.toArray } })
    (hsz : items.size ≤ sizeLine) : wpAny (model prog w) A (getItem (.ref t) (.ref sl)) Q E s := by
  have htake : sizeOk (.seq items.toList.reverse.toArray) := by
    show items.toList.reverse.toArray.size ≤ sizeLine
    rw [List.size_toArray, List.length_reverse, Array.length_toList]
    exact hsz
  obtain ⟨os, hos, hcs, hds⟩ := id hs
  have hTs : s.TypeIs (.ref sl) "slice" := ⟨os, hos, hcs⟩
  unfold getItem
  try with_reducible refine wpAny_holding ?_
  first | refine wpAny_bind (wpAny_pure ?_) | skip
  refine wpAny_bind (wpAny_sequenceKey ht.typeIs (by decide) ?_)
  refine wpAny_bind (wpAny_callSpecial?_slot (name := Str.ofString "__getitem__") ht.typeIs PyProof.Rows.slot_tuple_getitem
    (wpAny_call_entry PyProof.Rows.slot_tuple_getitem ht.typeIs entry_tuple_getitem ?_ (args_tuple_getitem _ _)))
  show wpAny _ _ (Builtin.Tuple.tupleItemsOf (.ref t) >>= _) _ _ s
  refine wpAny_bind (tupleItemsOf_ ht ?_)
  refine wpAny_bind (wpAny_typeOf hTs ?_)
  rw [if_pos (by decide)]
  refine wpAny_bind (sliceApplied_rev hs pl pu ps ?_)
  have hno : ¬ ((((items.size : Int) - 1) == 0 && (-1 : Int) == 1 && items.size == items.size) = true) := by
    intro q
    rw [Bool.and_eq_true, Bool.and_eq_true] at q
    exact absurd (eq_of_beq q.1.2) (by decide)
  show wpAny _ _ (if (((items.size : Int) - 1) == 0 && (-1 : Int) == 1 && items.size == items.size) = true then _ else _) _ _ s
  rw [if_neg hno, pick_rev]
  first
    | exact wpAny_bind (m := Builtin.Tuple.tupleExact _) (wpAny_newObj_type (wpAny_pure ⟨_, rfl, wpAny_pure h⟩) htake)
    | exact wpAny_bind (m := Builtin.Tuple.tupleExact _) (wpAny_newObj_type (wpAny_bind (wpAny_pure (wpAny_pure ⟨_, rfl, wpAny_pure h⟩))) htake)
    | exact wpAny_bind (wpAny_bind (m := Builtin.Tuple.tupleExact _) (wpAny_newObj_type (wpAny_pure (wpAny_pure ⟨_, rfl, wpAny_pure h⟩)) htake))
    | exact wpAny_bind (wpAny_bind (m := Builtin.Tuple.tupleExact _) (wpAny_newObj_type (wpAny_pure ⟨_, rfl, wpAny_pure h⟩) htake))
end
end HT
namespace DL
open PySem PySem.Spec PyProof.Rows L2
section
variable {X : Cx} {a : Expr} {fa : MV} {pos : Pos}
/-! ### xs[::-1] -/
def tRevD (K : PySem.W.Frag) (te : TE) : TE := fun σ H Q => te σ H fun x H1 => ∃ a xs, x = .ref a ∧ ((SqL K H1 a xs ∧ ∀ p, H1 p = none → Q (.ref p) (upd H1 p (.lst xs.reverse))) ∨ (SqT K H1 a xs ∧ ∀ p, H1 p = none → Q (.ref p) (upd H1 p (.tup xs.reverse))))
theorem pe_revD {e : Expr} {te : TE} {k : Nat} {p1 p2 p3 pos : Pos} (he : PE X e te) : PE X (.Subscript e (.Slice none none (some (.UnaryOp .USub (.Constant (.int 1) k p1) p2)) p3) pos) (tRevD X.K te) := by
  refine ⟨fun pins s σ H Q I h => ?_⟩
  refine Subscript_ (thn (he.run pins s σ H _ I h) fun v s1 ⟨x, H1, I1, r1, q1⟩ => ?_)
  obtain ⟨a, xs, ex, hq⟩ := q1
  subst ex
  cases r1
  have hst : PO X (some (.UnaryOp .USub (.Constant (.int 1) k p1) p2)) (tPart (tUn (rU fun i => .int (-i)) (tC (.int 1)))) := po_some (pe_un un_neg pe_int)
  refine wpAny_Slice (thn (po_none.run pins s1 σ H1 (fun o H2 => o = none ∧ H2 = H1) I1 ⟨rfl, rfl⟩) fun vl s2 ⟨l, H2, I2, pl, el, e2⟩ => ?_)
  subst el e2
  refine thn (po_none.run pins s2 σ H2 (fun o H3 => o = none ∧ H3 = H2) I2 ⟨rfl, rfl⟩) fun vu s3 ⟨u, H3, I3, pu, eu, e3⟩ => ?_
  subst eu e3
  refine thn (hst.run pins s3 σ H3 (fun o H4 => o = some (-1) ∧ H4 = H3) I3 ⟨1, rfl, -1, rfl, rfl, rfl⟩) fun vs s4 ⟨o, H4, I4, ps, eo, e4⟩ => ?_
  subst eo e4
  have I5 : Inv X pins σ H4 { s4 with heap := s4.heap.push { cls := .type "slice", data := .fields #[vl, vu, vs] } } := I4.kept (t' := s4.toks) fun b ob q => Heap.get?_push_of_some _ q
  show wpAny (model X.prog X.w) X.A (subscriptTail e (.Slice none none (some (.UnaryOp .USub (.Constant (.int 1) k p1) p2)) p3) (.ref a) (.ref s4.heap.objs.size)) (L2.EP X pins σ Q) X.xe { s4 with heap := s4.heap.push { cls := .type "slice", data := .fields #[vl, vu, vs] } }
  rcases hq with ⟨hx, q⟩ | ⟨hx, q⟩
  · obtain ⟨its, r, ht, hz⟩ := I5.list hx
    have hlen := r.length
    refine tail_any (ops := [.ref a, .ref s4.heap.objs.size]) ht.isList.typeIs (PySem.slot_list_getitem.lookup) ?_ (by with_unfolding_all rfl)
    refine wpAny_getItem_list_slice ht.isList (Heap.IsSliceOf.new _ vl vu vs) pl pu ps (by decide) ?_ (by rw [List.size_toArray]; omega)
    rw [PySem.W.krv_pick]
    refine ⟨.ref _, _, I5.laid (t' := s4.toks) (o := .lst xs.reverse) (fun b ob q => Heap.get?_push_of_some _ q) (Nat.le_refl _) ?_, rfl, q _ (I5.hok.fresh (Nat.le_refl _))⟩
    exact ⟨by rw [List.length_reverse]; exact hz, _, 0, r.reverse, Heap.get?_push_size _ rfl⟩
  · obtain ⟨its, r, ht, hz⟩ := I5.tuple hx
    have hlen := r.length
    refine tail_any (ops := [.ref a, .ref s4.heap.objs.size]) ht.typeIs (PyProof.Rows.slot_tuple_getitem.lookup) ?_ (by with_unfolding_all rfl)
    refine HT.getItem_tuple_rev ht (Heap.IsSliceOf.new _ vl vu vs) pl pu ps ?_ (by rw [List.size_toArray]; omega)
    refine ⟨.ref _, _, I5.laid (t' := s4.toks) (o := .tup xs.reverse) (fun b ob q => Heap.get?_push_of_some _ q) (Nat.le_refl _) ?_, rfl, q _ (I5.hok.fresh (Nat.le_refl _))⟩
    exact ⟨by rw [List.length_reverse]; exact hz, _, r.reverse, IsTup.new _ _⟩
theorem RepAll.rev {K : PySem.W.Frag} {α : List Addr} {H : Hp} : ∀ {vs : List V} {ds : List D}, RepAll K α H vs ds → RepAll K α H vs.reverse ds.reverse
  | _, _, .nil => .nil
  | _, _, .cons r t => by
    rw [List.reverse_cons, List.reverse_cons]
    exact (RepAll.rev t).app (.cons r .nil)
def dRev : D → Option D
  | .list xs => some (.list xs.reverse)
  | .tuple xs => some (.tuple xs.reverse)
  | _ => none
def eRev (fa : MV) : MV := fun ρ h => (fa ρ h).bind fun u h1 => match vD u h1 with
  | some a => R.opt ((dRev a).map .d) h1
  | none => .no
theorem ee_rev {k : Nat} {p1 p2 p3 : Pos} (ha : EE X a fa) : EE X (.Subscript a (.Slice none none (some (.UnaryOp .USub (.Constant (.int 1) k p1) p2)) p3) pos) (eRev fa) := ⟨fun W tk => by
  obtain ⟨ta, pa, qa⟩ := ha.run W tk
  refine ⟨_, pe_revD pa, fun ζ ι ρ hs σ H Q er s k => ?_⟩
  refine qa ζ ι ρ hs σ H _ er s (Kt.bind k fun u h1 x H1 ι1 e1 s1 r1 k1 => ?_)
  split at k1
  · rename_i da ea
    have rx := vD_ok s1 r1 ea
    obtain ⟨c, ec, k1⟩ := k1.opt
    unfold dRev at ec
    split at ec
    · cases ec
      obtain ⟨p, us, rfl, hp, ra⟩ := rx.list
      exact ⟨p, us, rfl, .inl ⟨.of hp, fun r hr => k1.here s1 (same_new hr) (.d (.lst upd_same (s1.fresh hr) (ra.rev.same s1.apA (same_new hr))))⟩⟩
    · cases ec
      obtain ⟨p, us, rfl, hp, ra, rt⟩ := rx.tup
      exact ⟨p, us, rfl, .inr ⟨hp, fun r hr => k1.here s1 (same_new hr) (.d (.tup upd_same (ra.rev.same s1.apA (same_new hr))))⟩⟩
    · cases ec
  · exact k1.elim⟩
@[simp] theorem eRev_at (fa : MV) (ρ : Env) (h : Hs) : eRev fa ρ h = (fa ρ h).bind fun u h1 => match vD u h1 with
  | some a => R.opt ((dRev a).map .d) h1
  | none => .no := rfl
@[simp] theorem dRev_l (xs : List D) : dRev (.list xs) = some (.list xs.reverse) := rfl
@[simp] theorem dRev_t (xs : List D) : dRev (.tuple xs) = some (.tuple xs.reverse) := rfl
end
end DL

set_option Elab.async false
set_option linter.all false
set_option maxRecDepth 100000
set_option maxHeartbeats 2000000
namespace PySem
open Sem (wp)
open AutoSeq1 (wpAny_loadPart')
theorem meets_enumerate_newTup (l : Addr) (items : Array Value) (n : Nat) (dct : Option Addr) (sl : Array (Option Value)) :
    Meets (Builtin.«enumerate.__new__» ⟨[.type "enumerate", .ref l], []⟩) (fun _ R s => s.heap.get? l = some { cls := .type "tuple", dict := dct, data := .seq items n, slots := sl } ∧
      R (.ok (.ret (.ref (s.heap.push { cls := .type "tuple_iterator", data := .fields #[.ref l, .int 0 0] }).objs.size)))
        { s with heap := (s.heap.push { cls := .type "tuple_iterator", data := .fields #[.ref l, .int 0 0] }).push { cls := .type "enumerate", data := .fields #[.none, .bool false, .ref s.heap.objs.size, rawInt 0, .none, .none] } }) :=
  .of_wp fun prog w A R s h => by
    obtain ⟨hp, g, d, tk, os⟩ := s; obtain ⟨hl, h⟩ := h
    have hsub := sub_enumerate
    have hL : Heap.IsTuple (Shared.heap ⟨hp, g, d, tk, os⟩) l items := ⟨_, hl, rfl, n, rfl⟩
    wp_walk using wpAny_loadPart' hl
    refine wpAny_stack_any fun st => wpAny_pure ?_
    split
    · rename_i c _ _ _ _ _
      cases (c == Value.type "enumerate")
      · wp_walk using wpAny_loadPart' hl, wpAny_pyIter_tuple hL
        exact ⟨_, rfl, h⟩
      · wp_walk using wpAny_loadPart' hl, wpAny_pyIter_tuple hL
        exact ⟨_, rfl, h⟩
    · wp_walk using wpAny_loadPart' hl, wpAny_pyIter_tuple hL
      exact ⟨_, rfl, h⟩
end PySem
namespace DL
open PySem PySem.Spec PyProof.Rows L2
section
variable {prog : Program} {w : World} {A : Around} {E : Value → Shared → Prop} {s : Shared} {p : Bool}
theorem call_enumG {l : Addr} {items : Array Value} {Q : Value → Shared → Prop} (hL : SrcAt p s.heap l items)
    (h : ∀ h', IsEnum h' (s.heap.objs.size + 1) s.heap.objs.size 0 .none → CurAt p h' s.heap.objs.size l 0 → h'.objs.size = s.heap.objs.size + 2 →
      (∀ b o, s.heap.get? b = some o → h'.get? b = some o) → Q (.ref (s.heap.objs.size + 1)) { s with heap := h' }) :
    wpAny (model prog w) A (call (.type "enumerate") [.ref l]) Q E s := by
  cases p
  · exact call_enumerate_list hL h
  · obtain ⟨⟨c, dct, dt, sl⟩, hl, hc, n, hd⟩ := (show s.heap.IsTuple l items from hL)
    replace hc : c = .type "tuple" := hc
    replace hd : dt = .seq items n := hd
    subst hc hd
    refine callType_new F.called_enumerate (by decide) (F.typeCall_enumerate_1 _) (F.newCall_enumerate_1 _) (fun obj => F.args_object_init_2 obj _) F.entry_enumerate_new
      (meets_enumerate_newTup l items n dct sl) ⟨hl, ?_⟩
    have hz : (s.heap.push { cls := .type "tuple_iterator", data := .fields #[.ref l, .int 0 0] }).objs.size = s.heap.objs.size + 1 := Heap.size_push ..
    show _ ∧ _
    rw [hz]
    have he : IsEnum ((s.heap.push { cls := .type "tuple_iterator", data := .fields #[.ref l, .int 0 0] }).push
        { cls := .type "enumerate", data := .fields #[.none, .bool false, .ref s.heap.objs.size, rawInt 0, .none, .none] }) (s.heap.objs.size + 1) s.heap.objs.size 0 .none := by
      have := Heap.get?_push_size (s.heap.push { cls := .type "tuple_iterator", data := .fields #[.ref l, .int 0 0] })
        (o := { cls := .type "enumerate", data := .fields #[.none, .bool false, .ref s.heap.objs.size, rawInt 0, .none, .none] }) rfl
      rw [hz] at this; exact this
    refine ⟨⟨_, he, rfl⟩, h _ he (CurAt.new (p := true) (Heap.get?_push_of_some _ (Heap.get?_push_size _ rfl))) (by rw [Heap.size_push, hz]) fun b o x => Heap.get?_push_of_some _ (Heap.get?_push_of_some _ x)⟩
theorem CurAt.but {h h' : Heap} {it a e : Addr} {k : Nat} (x : CurAt p h it a k) (b : Heap.ExtBut e h h') (n : it ≠ e) : CurAt p h' it a k := x.move fun o q => b it o n q
theorem enumG_item {e it l : Addr} {i : Nat} {items : Array Value} {x old : Value} {Q : Value → Shared → Prop}
    (he : IsEnum s.heap e it i old) (hit : CurAt p s.heap it l i) (hl : SrcAt p s.heap l items) (hx : items[i]? = some x) (hne : e ≠ it)
    (hQ : ∀ h', IsEnumOut h' e it ((i : Int) + 1) x s.heap.objs.size → CurAt p h' it l (i + 1) →
      h'.get? s.heap.objs.size = some { cls := .type "tuple", data := .seq #[.int i s.toks, x] } → h'.objs.size = s.heap.objs.size + 1 →
      (∀ b o, b ≠ e → b ≠ it → s.heap.get? b = some o → h'.get? b = some o) → Q (.ref s.heap.objs.size) { s with heap := h', toks := s.toks + 1 }) :
    wpAny (model prog w) A (Builtin.«enumerate.__next__» ⟨[.ref e], []⟩) (fun fin s' => ∃ v, fin = .done (.ret v) ∧ Q v s') E s := by
  obtain ⟨hp, g, d, tk, os⟩ := s
  show wpAny _ _ (field (.ref e) 2 >>= _) _ _ _
  refine wpAny_bind (wpAny_field he rfl (x := .ref it) rfl ?_)
  refine wpAny_bind (cur_next hit hl hx fun h₁ hit₁ hs₁ => ?_)
  replace hs₁ : Heap.SameBut it hp h₁ := hs₁
  have he₁ : IsEnum h₁ e it i old := (hs₁.2 e hne).trans he
  show wpAny _ _ (field (.ref e) 3 >>= _) _ _ ⟨h₁, g, d, tk, os⟩
  refine wpAny_bind (wpAny_field he₁ rfl (x := rawInt i) rfl ?_)
  show wpAny _ _ (field (.ref e) 4 >>= _) _ _ ⟨h₁, g, d, tk, os⟩
  refine wpAny_bind (wpAny_field he₁ rfl (x := .none) rfl ?_)
  show wpAny _ _ (mkInt i >>= _) _ _ ⟨h₁, g, d, tk, os⟩
  refine wpAny_bind (wpAny_mkInt ?_)
  show wpAny _ _ (setField (.ref e) 3 (rawInt ((i : Int) + 1)) >>= _) _ _ ⟨h₁, g, d, tk + 1, os⟩
  refine wpAny_bind (wpAny_setField_rec he₁ (by simp) fun h₂ he₂ hs₂ => ?_)
  replace hs₂ : Heap.SameBut e h₁ h₂ := hs₂
  replace he₂ : IsEnum h₂ e it ((i : Int) + 1) old := he₂
  show wpAny _ _ (setField (.ref e) 4 .none >>= _) _ _ ⟨h₂, g, d, tk + 1, os⟩
  refine wpAny_bind (wpAny_setField_rec he₂ (by simp) fun h₃ he₃ hs₃ => ?_)
  replace hs₃ : Heap.SameBut e h₂ h₃ := hs₃
  replace he₃ : IsEnum h₃ e it ((i : Int) + 1) old := he₃
  show wpAny _ _ (newTuple [.int i tk, x] >>= _) _ _ ⟨h₃, g, d, tk + 1, os⟩
  refine wpAny_bind (wpAny_newTuple ?_)
  have he₄ : IsEnum (h₃.push { cls := .type "tuple", data := .seq #[.int i tk, x] }) e it ((i : Int) + 1) old := Heap.get?_push_of_some _ he₃
  generalize hh₄ : h₃.push { cls := .type "tuple", data := .seq #[.int i tk, x] } = h₄ at he₄
  have hsz : h₃.objs.size = hp.objs.size := by rw [hs₃.1, hs₂.1, hs₁.1]
  have hel : e < hp.objs.size := Heap.lt_size he
  have ht₄ : h₄.get? hp.objs.size = some { cls := .type "tuple", data := .seq #[.int i tk, x] } := by rw [← hh₄, ← hsz]; exact Heap.get?_push_size _ rfl
  have hz₄ : h₄.objs.size = hp.objs.size + 1 := by rw [← hh₄, Heap.size_push, hsz]
  have hk₄ : ∀ b o, b ≠ e → b ≠ it → hp.get? b = some o → h₄.get? b = some o := fun b o hbe hbi hb => by
    rw [← hh₄]; exact Heap.get?_push_of_some _ (hs₃.extBut b o hbe (hs₂.extBut b o hbe (hs₁.extBut b o hbi hb)))
  have hit₄ : CurAt p h₄ it l (i + 1) := by
    rw [← hh₄]
    exact ((hit₁.but hs₂.extBut (Ne.symm hne)).but hs₃.extBut (Ne.symm hne)).move fun o q => Heap.get?_push_of_some _ q
  show wpAny _ _ (Builtin.SmallTypes.ownedTupleIsFree (.ref e) >>= _) _ _ ⟨h₄, g, d, tk + 1, os⟩
  rw [hsz]
  clear hh₄ he₃ hs₃ he₂ hs₂ he₁ hs₁ hit₁ hsz h₃ h₂ h₁
  refine wpAny_bind ?_
  · unfold Builtin.SmallTypes.ownedTupleIsFree
    refine wpAny_bind (wpAny_field he₄ rfl (x := .none) rfl (wpAny_pure ?_))
    simp only [if_true]
    refine wpAny_bind (wpAny_rule ?_)
    refine wpAny_bind (wpAny_field he₄ rfl (x := old) rfl ?_)
    refine wpAny_bind (wpAny_setField_rec he₄ (by simp) fun h₅ he₅ hs₅ => ?_)
    replace hs₅ : Heap.SameBut e h₄ h₅ := hs₅
    replace he₅ : IsEnum h₅ e it ((i : Int) + 1) x := he₅
    show wpAny _ _ (Builtin.SmallTypes.ownedTupleHandOut (.ref e) (.ref hp.objs.size) >>= _) _ _ ⟨h₅, g, d, tk + 1, os⟩
    refine wpAny_bind ?_
    · unfold Builtin.SmallTypes.ownedTupleHandOut
      refine wpAny_bind (wpAny_setField_rec he₅ (by simp) fun h₆ he₆ hs₆ => ?_)
      replace hs₆ : Heap.SameBut e h₅ h₆ := hs₆
      replace he₆ : IsEnumOut h₆ e it ((i : Int) + 1) x hp.objs.size := he₆
      refine wpAny_setField_rec he₆ (by simp) fun h₇ he₇ hs₇ => ?_
      replace hs₇ : Heap.SameBut e h₆ h₇ := hs₇
      replace he₇ : IsEnumOut h₇ e it ((i : Int) + 1) x hp.objs.size := he₇
      refine wpAny_bind (wpAny_letGo (wpAny_pure ⟨_, rfl, hQ h₇ he₇ ?_ ?_ ?_ ?_⟩))
      · exact ((hit₄.but hs₅.extBut (Ne.symm hne)).but hs₆.extBut (Ne.symm hne)).but hs₇.extBut (Ne.symm hne)
      · exact hs₇.extBut _ _ (Nat.ne_of_gt hel) (hs₆.extBut _ _ (Nat.ne_of_gt hel) (hs₅.extBut _ _ (Nat.ne_of_gt hel) ht₄))
      · rw [hs₇.1, hs₆.1, hs₅.1, hz₄]
      · exact fun b o hbe hbi hb => hs₇.extBut b o hbe (hs₆.extBut b o hbe (hs₅.extBut b o hbe (hk₄ b o hbe hbi hb)))
theorem pyNext_enumG_item {e it l : Addr} {i : Nat} {items : Array Value} {x old : Value} {Q : Option Value → Shared → Prop}
    (he : IsEnum s.heap e it i old) (hit : CurAt p s.heap it l i) (hl : SrcAt p s.heap l items) (hx : items[i]? = some x) (hne : e ≠ it)
    (hQ : ∀ h', IsEnumOut h' e it ((i : Int) + 1) x s.heap.objs.size → CurAt p h' it l (i + 1) →
      h'.get? s.heap.objs.size = some { cls := .type "tuple", data := .seq #[.int i s.toks, x] } → h'.objs.size = s.heap.objs.size + 1 →
      (∀ b o, b ≠ e → b ≠ it → s.heap.get? b = some o → h'.get? b = some o) → Q (some (.ref s.heap.objs.size)) { s with heap := h', toks := s.toks + 1 }) :
    wpAny (model prog w) A (pyNext (.ref e)) Q E s := by
  have hT : s.TypeIs (.ref e) "enumerate" := ⟨_, he, rfl⟩
  unfold pyNext
  exact wpAny_bind (wpAny_attempt (wpAny_callSpecial?_slot (name := Str.ofString "__next__") hT F.slot_enumerate_next
    (wpAny_call_entry F.slot_enumerate_next hT F.entry_enumerate_next
      (enumG_item he hit hl hx hne fun h' a b c d k => wpAny_pure (hQ h' a b c d k)) (F.args_enumerate_next_1 _))))
theorem pyNext_enumG_end {e it l : Addr} {i : Nat} {items : Array Value} {old : Value} {Q : Option Value → Shared → Prop} (hh : A.handled = none)
    (he : IsEnum s.heap e it i old) (hit : CurAt p s.heap it l i) (hl : SrcAt p s.heap l items) (hx : items[i]? = none)
    (hQ : ∀ h', Heap.ExtBut it s.heap h' → Q none { s with heap := h' }) : wpAny (model prog w) A (pyNext (.ref e)) Q E s := by
  have hT : s.TypeIs (.ref e) "enumerate" := ⟨_, he, rfl⟩
  unfold pyNext
  refine wpAny_bind (wpAny_attempt (wpAny_callSpecial?_slot (name := Str.ofString "__next__") hT F.slot_enumerate_next
    (wpAny_call_entry F.slot_enumerate_next hT F.entry_enumerate_next ?_ (F.args_enumerate_next_1 _))))
  show wpAny _ _ (field (.ref e) 2 >>= _) _ _ _
  refine wpAny_bind (wpAny_field he rfl (x := .ref it) rfl ?_)
  refine wpAny_bind (cur_stop (show A.in1.handled = none from hh) hit hl hx fun h' x he' hx' => ?_)
  obtain ⟨o, ho, hc⟩ := hx'
  refine wpAny_bind (wpAny_isInstance (T := "StopIteration") (b := true) ⟨o, ho, hc⟩ isSubtype_stop ?_)
  exact wpAny_pure (hQ _ he')
end
def IteG (K : PySem.W.Frag) (p : Bool) (a : Addr) : It :=
  ⟨fun i H => ∃ (xs : List V) (x : V), SqB K p H a xs ∧ xs[i]? = some x, fun i H v H' => ∃ T x, v = .ref T ∧ H T = none ∧ H' = upd H T (.tup [.int (i : Nat), x]) ∧ ∀ xs, SqB K p H a xs → xs[i]? = some x, fun i H => ∃ xs : List V, SqB K p H a xs ∧ xs.length ≤ i⟩
theorem turn_enumG {P : Program} {w : World} {K : PySem.W.Frag} {p : Bool} {elts : List Expr} {kk : Nat} {tpos : Pos} (a e it : Addr) :
    Turn P w K (.Tuple elts kk tpos) (IteG K p a) [e, it] e (fun i h => (∃ old, IsEnum h e it ((i : Nat) : Int) old) ∧ CurAt p h it a i ∧ e ≠ it) where
  mem := by simp
  obj := fun i h st b hb => by
    obtain ⟨⟨old, he⟩, hi, _⟩ := st
    obtain ⟨o, ho, hd⟩ := hi.obj
    have e' : b = e ∨ b = it := by simpa using hb
    rcases e' with z | z
    · rw [z]; exact ⟨_, he, fun v q => nomatch q⟩
    · rw [z]; exact ⟨o, ho, fun v q => by rw [hd] at q; cases q⟩
  keep := fun i h h' st k => let ⟨⟨old, he⟩, hi, hne⟩ := st; ⟨⟨old, k e (by simp) _ he⟩, hi.move fun o q => k it (by simp) o q, hne⟩
  item := by
    intro X hP hw hK hc i pins s σ H E I hf st hg
    subst hP hw hK
    obtain ⟨⟨old, he⟩, hit, hne⟩ := st
    obtain ⟨xs, x, hq, hx⟩ := hg
    obtain ⟨its, rv, sp⟩ := hq.at_ I
    obtain ⟨u, hu, ru⟩ := rv.get hx
    have hel : e < s.heap.objs.size := Heap.lt_size he
    have hil : it < s.heap.objs.size := by obtain ⟨_, q, _⟩ := hit.obj; exact Heap.lt_size q
    refine pyNext_enumG_item he hit sp (x := u) (by simpa using hu) hne fun h' ho hit' hT hsz hk => ?_
    refine ⟨_, rfl, wpAny_letOwnedTupleGo_enum (s := { s with heap := h', toks := s.toks + 1 }) ho fun h'' he' sb => ?_⟩
    have hT2 : h''.get? s.heap.objs.size = some { cls := .type "tuple", data := .seq #[.int i s.toks, u] } := (sb.2 _ (Nat.ne_of_gt hel)).trans hT
    have new : ObjOk X.prog X.w (upd H s.heap.objs.size (.tup [.int (i : Nat), x])) h'' s.heap.objs.size (.tup [.int (i : Nat), x]) :=
      ⟨by show 2 ≤ sizeLine; decide, [.int i s.toks, u], .cons ⟨_, rfl⟩ (.cons ru .nil), ⟨_, hT2, rfl, _, rfl⟩⟩
    have I1 : Inv X pins σ (upd H s.heap.objs.size (.tup [.int (i : Nat), x])) { s with heap := h'', toks := s.toks + 1 } :=
      I.turnedNew (ch := [e, it]) (fun b ob hb q => (sb.2 b (fun z => hb (by simp [z]))).trans (hk b ob (fun z => hb (by simp [z])) (fun z => hb (by simp [z])) q)) hf (Nat.le_refl _) new
    refine ⟨.ref s.heap.objs.size, _, I1, rfl, ⟨_, x, rfl, I.hok.fresh (Nat.le_refl _), rfl, fun ys hy => by rw [hy.inj I hq]; exact hx⟩, ⟨⟨u, ?_⟩, hit'.move fun o q => (sb.2 it (Ne.symm hne)).trans q, hne⟩, fun b hb => ?_⟩
    · have e1 : ((i + 1 : Nat) : Int) = (i : Int) + 1 := by omega
      rw [e1]; exact he'
    · have hb' : b < s.heap.objs.size := by
        have e' : b = e ∨ b = it := by simpa using hb
        rcases e' with z | z
        · rw [z]; exact hel
        · rw [z]; exact hil
      rw [upd_ne (Nat.ne_of_lt hb')]
      exact (hf b hb).1
  done := by
    intro X hP hw hK hc i pins s σ H E I hf st hg
    subst hP hw hK
    obtain ⟨⟨old, he⟩, hit, hne⟩ := st
    obtain ⟨xs, hq, hx⟩ := hg
    obtain ⟨its, rv, sp⟩ := hq.at_ I
    obtain ⟨f0, f1, f2, f3, f4, f5⟩ := hf it (by simp)
    have hl := rv.length
    exact pyNext_enumG_end (I.ok.hd hc) he hit sp (by simp; omega) fun h' eb => ⟨rfl, I.turned (t' := s.toks) (fun b o hb q => eb b o hb q) f0 f1 f3 f4 f5⟩
  self := fun A i s Q E st h => let ⟨⟨_, he⟩, _⟩ := st; wpAny_pyIter_enum he h
def tEnumG (K : PySem.W.Frag) (ta : TA) : TI := fun σ H R => ta σ H fun vs H1 => ∃ p a xs, vs = [.ref a] ∧ SqB K p H1 a xs ∧ R (IteG K p a) H1
theorem pi_enumG {X : Cx} {e : Expr} {ta : TA} {ps pos tpos : Pos} {elts : List Expr} {kk : Nat} (hg : Gl X "enumerate") (hm : X.mg "enumerate" = none) (ha : PA X [e] ta) (hs : starEach [e] X.env = [(false, eval e X.env)] := by rfl) :
    PI X (.Tuple elts kk tpos) (.Call (.Name "enumerate" ps) [e] [] pos) (tEnumG X.K ta) := by
  refine ⟨fun pins s σ H R I h => ?_⟩
  refine Call_ (ld_blt I hg hm boot_enumerate (PyProof.Rows.callWith_type1 (thn (ha.run pos pins s σ H _ I h) fun us s1 ⟨vs, H1, I1, r1, q1⟩ => ?_) hs rfl))
  obtain ⟨p, a, xs, ex, hq, q⟩ := q1
  subst ex
  cases r1 with
  | cons r rr =>
    cases rr
    cases r
    obtain ⟨its, rv, sp⟩ := hq.at_ I1
    refine call_enumG sp fun h' he hit hsz hk => wpAny_pyIter_enum he ?_
    have I2 : Inv X pins σ H1 { s1 with heap := h' } := I1.kept (t' := s1.toks) hk
    refine ⟨s1.heap.objs.size + 1, [s1.heap.objs.size + 1, s1.heap.objs.size], _, _, H1, rfl, I2, turn_enumG a (s1.heap.objs.size + 1) s1.heap.objs.size, ⟨⟨.none, he⟩, hit, Nat.succ_ne_self _⟩, fun b hb => ?_, q⟩
    have e' : b = s1.heap.objs.size + 1 ∨ b = s1.heap.objs.size := by simpa using hb
    have hle : s1.heap.objs.size ≤ b := by
      rcases e' with z | z
      · rw [z]; exact Nat.le_add_right _ _
      · rw [z]; exact Nat.le_refl _
    exact I1.fpOk hle (I1.hok.fresh hle)
/-! ### the meaning -/
def enumOfG (u : Val) (h : Hs) : Option (List D × List (Nat × List D)) := match seqOf u h with
  | some (xs, g) => some ((List.range xs.length).zipWith (fun i a => .tuple [.int (i : Nat), a]) xs, g)
  | none => none
def iEnumG (fas : Env → Hs → R (List Val)) : MI := fun ρ h => (fas ρ h).bind fun us h1 => match us with
  | [u] => R.opt (enumOfG u h1) h1
  | _ => .no
theorem iter_enumG {K : PySem.W.Frag} {ζ ι : List Addr} {H : Hp} {p : Bool} {a : Addr} {xs : List D} {g : List (Nat × List D)} (h1 : ∀ (ζ' ι2 : List Addr) (H2 : Hp) (h2 : Hs), Ext ι H ι2 H2 → Sim K ζ' ι2 H2 h2 → (∀ a ∈ ζ', a ∈ ζ ∨ H a = none) → Chk g h2 → ∃ vs, SqB K p H2 a vs ∧ RepAll K (ζ' ++ ι2) H2 vs xs) : IterOk K ζ ι H (IteG K p a) ((List.range xs.length).zipWith (fun i a => .tuple [.int (i : Nat), a]) xs) g := ⟨fun i ζ' ι2 H2 hh e2 s2 hz hc => by
  obtain ⟨vs, q1, ra⟩ := h1 ζ' ι2 H2 hh e2 s2 hz hc
  rw [List.length_zipWith, List.length_range, Nat.min_self]
  refine ⟨fun hi => ?_, fun hi => ⟨vs, q1, by rw [ra.length]; omega⟩⟩
  obtain ⟨x, hx, rx⟩ := ra.get (List.getElem?_eq_getElem hi)
  refine ⟨⟨vs, x, q1, hx⟩, fun v H' ⟨T, x', ev, hT, eH, f1⟩ => ?_⟩
  subst ev eH
  refine ⟨same_new hT, fun d hd => ?_⟩
  have e1 := f1 vs q1
  rw [hx] at e1
  cases e1
  rw [List.getElem?_zipWith, List.getElem?_range hi, List.getElem?_eq_getElem hi] at hd
  cases hd
  exact pair_rep s2.apA hT (.int _) rx⟩
theorem ei_enumG {X : Cx} {elts : List Expr} {kk : Nat} {tpos : Pos} {a : Expr} {fas : Env → Hs → R (List Val)} {p pos : Pos} (hm : X.mg "enumerate" = none) (ha : EA X [a] fas) (hg : Gl X "enumerate" := by rfl) (hs : starEach [a] X.env = [(false, eval a X.env)] := by rfl) :
    EI X (.Tuple elts kk tpos) (.Call (.Name "enumerate" p) [a] [] pos) (iEnumG fas) := ⟨fun W tk => by
  obtain ⟨t, p, q⟩ := ha.run W tk
  refine ⟨_, pi_enumG hg hm p hs, fun ζ ι ρ hs σ H Q er s k => q ζ ι ρ hs σ H _ er s (Ki.bind k fun us h1 xs H1 ι1 e1 s1 r1 k1 k2 => ?_)⟩
  cases r1 with
  | nil => exact absurd rfl k2
  | cons r1 rr => cases rr with
    | cons _ _ => exact absurd rfl k2
    | nil =>
      rename_i u
      cases e : enumOfG u h1 with
      | none => simp only [e] at k2; exact absurd rfl k2
      | some p =>
        simp only [e] at k1
        unfold enumOfG at e
        split at e
        · rename_i xs g eu
          cases e
          obtain ⟨a, rfl, ⟨t1, ⟨vs, hv, _⟩, l1⟩ | ⟨t1, ⟨vs, hv, _⟩, l1⟩⟩ := seqOf_ok s1 r1 eu
          · exact ⟨false, a, vs, rfl, hv, k1 _ rfl _ (iter_enumG (p := false) l1)⟩
          · exact ⟨true, a, vs, rfl, hv, k1 _ rfl _ (iter_enumG (p := true) l1)⟩
        · cases e⟩
@[simp] theorem iEnumG_at (fas : Env → Hs → R (List Val)) (ρ : Env) (h : Hs) : iEnumG fas ρ h = (fas ρ h).bind fun us h1 => match us with
  | [u] => R.opt (enumOfG u h1) h1
  | _ => .no := rfl
theorem enumOfG_at (u : Val) (h : Hs) : enumOfG u h = match seqOf u h with
  | some (xs, g) => some ((List.range xs.length).zipWith (fun i a => .tuple [.int (i : Nat), a]) xs, g)
  | none => none := rfl
theorem enum_map {γ : Type} (A : γ → D) (l : List γ) : (List.range (l.map A).length).zipWith (fun i a => PyData.tuple [.int (i : Nat), a]) (l.map A) = l.zipIdx.map fun p => .tuple [.int (p.2 : Nat), A p.1] := by
  apply List.ext_getElem?
  intro i
  rw [List.getElem?_zipWith, List.getElem?_map, List.getElem?_map, List.getElem?_zipIdx, List.length_map]
  by_cases h : i < l.length
  · rw [List.getElem?_range h, List.getElem?_eq_getElem h]
    simp
  · rw [List.getElem?_eq_none (by simpa using h), List.getElem?_eq_none (by omega)]
    simp
end DL

set_option Elab.async false
set_option linter.all false
set_option maxRecDepth 100000
set_option maxHeartbeats 400000
namespace DL
/-! ### determinants by the first row, minors, and what putting out a column does to them -/
/-- a row, place by place -/
abbrev Rw := Nat → Rat
def sgS (r : Rw) : List Nat → (List Nat → Rat) → Rat
  | [], _ => 0
  | c :: cs, F => r c * F cs - sgS r cs fun x => F (c :: x)
def det : List Rw → List Nat → Rat
  | [], [] => 1
  | [], _ :: _ => 0
  | r :: rs, cs => sgS r cs (det rs)
theorem sgS_congr {r : Rw} : ∀ {cs : List Nat} {F G : List Nat → Rat}, (∀ x, x.Sublist cs → x.length + 1 = cs.length → F x = G x) → sgS r cs F = sgS r cs G
  | [], _, _, _ => rfl
  | c :: cs, F, G, h => by
    have ih := sgS_congr (r := r) (cs := cs) (F := fun x => F (c :: x)) (G := fun x => G (c :: x)) fun x hx hl => h _ (hx.cons_cons c) (by simp; omega)
    unfold sgS
    rw [ih, h cs (List.sublist_cons_self c cs) (by simp)]
theorem sgS_add (r : Rw) (a : Rat) : ∀ (cs : List Nat) (F G : List Nat → Rat), sgS r cs (fun x => F x + a * G x) = sgS r cs F + a * sgS r cs G
  | [], _, _ => by unfold sgS; grind
  | c :: cs, F, G => by
    have ih := sgS_add r a cs (fun x => F (c :: x)) fun x => G (c :: x)
    unfold sgS
    rw [ih]
    grind
theorem sgS_row (u v : Rw) (a : Rat) : ∀ (cs : List Nat) (F : List Nat → Rat), sgS (fun k => u k + a * v k) cs F = sgS u cs F + a * sgS v cs F
  | [], _ => by unfold sgS; grind
  | c :: cs, F => by
    have ih := sgS_row u v a cs fun x => F (c :: x)
    unfold sgS
    rw [ih]
    grind
theorem sgS_zero (r : Rw) (cs : List Nat) : sgS r cs (fun _ => 0) = 0 := by
  induction cs with
  | nil => rfl
  | cons c cs ih => unfold sgS; rw [ih]; grind
theorem sgS_neg (r : Rw) (cs : List Nat) (F : List Nat → Rat) : sgS r cs (fun x => -F x) = -sgS r cs F := by
  have h := sgS_add r (-1) cs (fun _ => 0) F
  rw [sgS_zero] at h
  have e : sgS r cs (fun x => -F x) = sgS r cs (fun x => 0 + -1 * F x) := sgS_congr fun x _ _ => by grind
  rw [e, h]
  grind
/-- two rows exchanged -/
theorem sgS_anti (r s : Rw) : ∀ (cs : List Nat) (F : List Nat → Rat), sgS r cs (fun x => sgS s x F) = -sgS s cs (fun x => sgS r x F)
  | [], _ => by unfold sgS; grind
  | c :: cs, F => by
    have ih := sgS_anti r s cs fun x => F (c :: x)
    have e1 : ∀ (r s : Rw), sgS r cs (fun x => sgS s (c :: x) F) = s c * sgS r cs F + -1 * sgS r cs (fun x => sgS s x fun y => F (c :: y)) := fun r s => by
      have a := sgS_add r (-1) cs (fun x => s c * F x) (fun x => sgS s x fun y => F (c :: y))
      have b := sgS_add r (s c) cs (fun _ => 0) F
      rw [sgS_zero] at b
      have b' : sgS r cs (fun x => s c * F x) = s c * sgS r cs F := by
        rw [show sgS r cs (fun x => s c * F x) = sgS r cs (fun x => 0 + s c * F x) from sgS_congr fun x _ _ => by grind, b]
        grind
      rw [b'] at a
      rw [← a]
      exact sgS_congr fun x _ _ => by
        show s c * F x - _ = _
        grind
    show r c * sgS s cs F - sgS r cs (fun x => sgS s (c :: x) F) = -(s c * sgS r cs F - sgS s cs (fun x => sgS r (c :: x) F))
    rw [e1, e1, ih]
    grind
theorem det_cons (r : Rw) (rs : List Rw) (cs : List Nat) : det (r :: rs) cs = sgS r cs (det rs) := by
  cases cs <;> rfl
theorem det_swap (r s : Rw) (rs : List Rw) (cs : List Nat) : det (r :: s :: rs) cs = -det (s :: r :: rs) cs := by
  rw [det_cons, det_cons]
  have e : ∀ s : Rw, (det (s :: rs)) = fun x => sgS s x (det rs) := fun s => funext fun x => det_cons s rs x
  rw [e, e]
  exact sgS_anti r s cs (det rs)
theorem det_perm {A B : List Rw} (h : A.Perm B) : ∃ e : Rat, (e = 1 ∨ e = -1) ∧ ∀ cs, det A cs = e * det B cs := by
  induction h with
  | nil => exact ⟨1, .inl rfl, fun cs => by grind⟩
  | cons x _ ih =>
    obtain ⟨e, he, k⟩ := ih
    refine ⟨e, he, fun cs => ?_⟩
    rw [det_cons, det_cons]
    rename_i l1 l2 _
    have := sgS_add x e cs (fun _ => 0) (det l2)
    rw [sgS_zero] at this
    rw [sgS_congr (G := fun y => 0 + e * det l2 y) fun y _ _ => by rw [k y]; grind, this]
    grind
  | swap x y l => exact ⟨-1, .inr rfl, fun cs => by rw [det_swap]; grind⟩
  | trans _ _ i1 i2 =>
    obtain ⟨e, he, k⟩ := i1
    obtain ⟨f, hf, l⟩ := i2
    refine ⟨e * f, ?_, fun cs => by rw [k, l]; grind⟩
    rcases he with rfl | rfl <;> rcases hf with rfl | rfl <;> grind
theorem det_perm_ne {A B : List Rw} (h : A.Perm B) (cs : List Nat) : det A cs ≠ 0 ↔ det B cs ≠ 0 := by
  obtain ⟨e, he, k⟩ := det_perm h
  rw [k]
  rcases he with rfl | rfl <;> grind
theorem det_same (r : Rw) (rs : List Rw) (cs : List Nat) : det (r :: r :: rs) cs = 0 := by
  have := det_swap r r rs cs
  grind
theorem det_lin (a : Rat) (u v : Rw) : ∀ (A B : List Rw) (cs : List Nat), det (A ++ (fun k => u k + a * v k) :: B) cs = det (A ++ u :: B) cs + a * det (A ++ v :: B) cs
  | [], B, cs => by
    rw [List.nil_append, List.nil_append, List.nil_append, det_cons, det_cons, det_cons]
    exact sgS_row u v a cs _
  | x :: A, B, cs => by
    rw [List.cons_append, List.cons_append, List.cons_append, det_cons, det_cons, det_cons, ← sgS_add]
    exact sgS_congr fun y _ _ => det_lin a u v A B y
theorem perm_mid {α : Type} (A B : List α) (x : α) : (A ++ x :: B).Perm (x :: (A ++ B)) := List.perm_middle
/-- twice the same row -/
theorem det_twice (p : Rw) (A B : List Rw) (cs : List Nat) : det (p :: (A ++ p :: B)) cs = 0 := by
  have h : (p :: (A ++ p :: B)).Perm (p :: p :: (A ++ B)) := (perm_mid A B p).cons p
  obtain ⟨e, _, k⟩ := det_perm h
  rw [k, det_same]
  grind
/-- a row less so much of p that its place c is 0 -/
def opR (p : Rw) (c : Nat) (r : Rw) : Rw := fun k => r k + -(r c / p c) * p k
theorem opR_zero {p : Rw} {c : Nat} (h : p c ≠ 0) (r : Rw) : opR p c r c = 0 := by
  unfold opR
  grind
theorem opR_op {p : Rw} {c : Nat} (h : p c ≠ 0) (r : Rw) : opR p c (opR p c r) = opR p c r := by
  funext k
  have := opR_zero h r
  show opR p c r k + -(opR p c r c / p c) * p k = _
  rw [this]
  grind
theorem opR_back {p : Rw} {c : Nat} (r : Rw) : (fun k => opR p c r k + (r c / p c) * p k) = r := by
  funext k
  unfold opR
  grind
/-- with p ahead the others may be lessened -/
theorem det_ops {p : Rw} {c : Nat} (cs : List Nat) : ∀ (B A : List Rw), det (p :: (A ++ B)) cs = det (p :: (A ++ B.map (opR p c))) cs
  | [], A => rfl
  | x :: B, A => by
    have e := det_lin (x c / p c) (opR p c x) p (p :: A) B cs
    rw [opR_back] at e
    have t := det_twice p A B cs
    have ih := det_ops (p := p) (c := c) cs B (A ++ [opR p c x])
    rw [List.append_assoc, List.append_assoc] at ih
    show det ((p :: A) ++ x :: B) cs = _
    rw [e]
    have t' : det ((p :: A) ++ p :: B) cs = 0 := t
    rw [t']
    have ih' : det ((p :: A) ++ opR p c x :: B) cs = det (p :: (A ++ opR p c x :: B.map (opR p c))) cs := ih
    rw [ih', List.map_cons]
    grind
theorem sgS_col {c : Nat} {r : Rw} (hr : r c = 0) : ∀ {cs : List Nat} {F : List Nat → Rat}, c ∈ cs → (∀ x, c ∈ x → F x = 0) → sgS r cs F = 0
  | [], _, h, _ => by cases h
  | d :: cs, F, h, k => by
    unfold sgS
    by_cases e : c = d
    · subst e
      rw [hr, sgS_congr (G := fun _ => 0) fun x _ _ => k _ List.mem_cons_self, sgS_zero]
      grind
    · have m : c ∈ cs := by
        rcases List.mem_cons.mp h with h | h
        · exact absurd h e
        · exact h
      rw [k cs m, sgS_col hr m fun x hx => k _ (List.mem_cons_of_mem _ hx)]
      grind
/-- a column of noughts -/
theorem det_col {c : Nat} : ∀ {A : List Rw} {cs : List Nat}, (∀ r ∈ A, r c = 0) → c ∈ cs → det A cs = 0
  | [], [], _, h => by cases h
  | [], _ :: _, _, _ => rfl
  | r :: A, cs, hz, h => by
    rw [det_cons]
    exact sgS_col (hz r List.mem_cons_self) h fun x hx => det_col (fun r m => hz r (List.mem_cons_of_mem _ m)) hx
theorem sgS_ne {r : Rw} : ∀ {cs : List Nat} {F : List Nat → Rat}, sgS r cs F ≠ 0 → ∃ x, x.Sublist cs ∧ x.length + 1 = cs.length ∧ F x ≠ 0
  | [], _, h => absurd rfl h
  | c :: cs, F, h => by
    by_cases e : F cs = 0
    · have : sgS r cs (fun x => F (c :: x)) ≠ 0 := by
        intro z
        apply h
        unfold sgS
        rw [e, z]
        grind
      obtain ⟨x, hx, hl, hn⟩ := sgS_ne this
      exact ⟨c :: x, hx.cons_cons c, by simp; omega, hn⟩
    · exact ⟨cs, List.sublist_cons_self c cs, by simp, e⟩
/-- some determinant of so many rows and columns is not 0 -/
def Minor (k : Nat) (A : List Rw) (cs : List Nat) : Prop := ∃ (S R : List Rw) (T : List Nat), (S ++ R).Perm A ∧ T.Sublist cs ∧ S.length = k ∧ T.length = k ∧ det S T ≠ 0
theorem minor_perm {k : Nat} {A B : List Rw} {cs : List Nat} (h : A.Perm B) : Minor k A cs ↔ Minor k B cs :=
  ⟨fun ⟨S, R, T, a, b⟩ => ⟨S, R, T, a.trans h, b⟩, fun ⟨S, R, T, a, b⟩ => ⟨S, R, T, a.trans h.symm, b⟩⟩
theorem minor_zero (A : List Rw) (cs : List Nat) : Minor 0 A cs := ⟨[], A, [], .refl _, List.nil_sublist _, rfl, rfl, by show (1 : Rat) ≠ 0; decide⟩
theorem minor_down {k : Nat} {A : List Rw} {cs : List Nat} (h : Minor (k + 1) A cs) : Minor k A cs := by
  obtain ⟨S, R, T, a, b, c, d, e⟩ := h
  match S, c with
  | r :: S, c =>
    rw [det_cons] at e
    obtain ⟨x, hx, hl, hn⟩ := sgS_ne e
    exact ⟨S, r :: R, x, (perm_mid S R r).trans a, hx.trans b, by simpa using c, by omega, hn⟩
/-- a column of noughts adds nothing -/
theorem minor_none {k c : Nat} {A : List Rw} {cs : List Nat} (hz : ∀ r ∈ A, r c = 0) : Minor k A (c :: cs) ↔ Minor k A cs := by
  constructor
  · rintro ⟨S, R, T, a, b, e, d, ne⟩
    refine ⟨S, R, T, a, ?_, e, d, ne⟩
    cases b with
    | cons _ h => exact h
    | cons_cons _ h => exact absurd (det_col (fun r m => hz r (a.subset (List.mem_append_left _ m))) List.mem_cons_self) ne
  · rintro ⟨S, R, T, a, b, r⟩
    exact ⟨S, R, T, a, b.cons c, r⟩
/-- of one row less: at most one less -/
theorem minor_less {k : Nat} {p : Rw} {A : List Rw} {cs : List Nat} (h : Minor (k + 1) (p :: A) cs) : Minor k A cs := by
  obtain ⟨S, R, T, a, b, c, d, e⟩ := h
  by_cases m : p ∈ S
  · obtain ⟨S1, S2, rfl⟩ := List.append_of_mem m
    have e' := (det_perm_ne (perm_mid S1 S2 p) T).mp e
    rw [det_cons] at e'
    obtain ⟨x, hx, hl, hn⟩ := sgS_ne e'
    refine ⟨S1 ++ S2, R, x, ?_, hx.trans b, by simp at c ⊢; omega, by omega, hn⟩
    have z : (p :: (S1 ++ S2 ++ R)).Perm (p :: A) := by
      refine List.Perm.trans ?_ a
      have := (perm_mid S1 S2 p).symm.append_right R
      simpa using this
    exact z.cons_inv
  · have m2 : p ∈ R := by
      have := a.symm.subset (List.mem_cons_self (a := p) (l := A))
      rcases List.mem_append.mp this with h | h
      · exact absurd h m
      · exact h
    obtain ⟨R1, R2, rfl⟩ := List.append_of_mem m2
    refine minor_down ⟨S, R1 ++ R2, T, ?_, b, c, d, e⟩
    have z : (p :: (S ++ (R1 ++ R2))).Perm (p :: A) := by
      refine List.Perm.trans ?_ a
      have := (perm_mid (S ++ R1) R2 p).symm
      simpa using this
    exact z.cons_inv
theorem minor_more {k : Nat} {p : Rw} {A : List Rw} {cs : List Nat} (h : Minor k A cs) : Minor k (p :: A) cs := by
  obtain ⟨S, R, T, a, r⟩ := h
  exact ⟨S, p :: R, T, (perm_mid S R p).trans (a.cons p), r⟩
theorem perm_of_map {α β : Type} {f : α → β} {l l2 : List β} (h : l.Perm l2) : ∀ {R : List α}, l2 = R.map f → ∃ R' : List α, R'.Perm R ∧ R'.map f = l := by
  induction h with
  | nil =>
    intro R e
    have : R = [] := by simpa using e.symm
    exact ⟨[], by rw [this], rfl⟩
  | cons x _ ih =>
    intro R e
    match R, e with
    | r :: R, e =>
      rw [List.map_cons] at e
      obtain ⟨e1, e2⟩ := List.cons.inj e
      obtain ⟨R', h1, h2⟩ := ih e2
      exact ⟨r :: R', h1.cons r, by rw [List.map_cons, h2, e1]⟩
  | swap x y l =>
    intro R e
    match R, e with
    | r :: s :: R, e =>
      rw [List.map_cons, List.map_cons] at e
      obtain ⟨e1, e2⟩ := List.cons.inj e
      obtain ⟨e2, e3⟩ := List.cons.inj e2
      exact ⟨s :: r :: R, .swap r s R, by rw [List.map_cons, List.map_cons, e1, e2, e3]⟩
  | trans _ _ i1 i2 =>
    intro R e
    obtain ⟨R1, h1, h2⟩ := i2 e
    obtain ⟨R2, h3, h4⟩ := i1 h2.symm
    exact ⟨R2, h3.trans h1, h4⟩
theorem sgS_off {r : Rw} {Y : List Rw} {c : Nat} {T cs : List Nat} (hz : ∀ y ∈ Y, y c = 0) (hT : T.Sublist (c :: cs)) (h : sgS r T (det Y) ≠ 0) : ∃ x, x.Sublist cs ∧ x.length + 1 = T.length ∧ det Y x ≠ 0 := by
  obtain ⟨x, hx, hl, hn⟩ := sgS_ne h
  refine ⟨x, ?_, hl, hn⟩
  have hx' := hx.trans hT
  cases hx' with
  | cons _ h => exact h
  | cons_cons _ h => exact absurd (det_col hz List.mem_cons_self) hn
theorem ops_zero {p : Rw} {c : Nat} (h : p c ≠ 0) (X : List Rw) : ∀ y ∈ X.map (opR p c), y c = 0 := fun y hy => by
  obtain ⟨x, _, rfl⟩ := List.mem_map.mp hy
  exact opR_zero h x
theorem minor_q {k c : Nat} {p : Rw} {R X Q : List Rw} {T cs : List Nat} (hp : p c ≠ 0) (hX : (X.map (opR p c) ++ Q).Perm (R.map (opR p c))) (hT : T.Sublist (c :: cs)) (lX : X.length = k) (lT : T.length = k + 1) (h : det (p :: X) T ≠ 0) : Minor k (R.map (opR p c)) cs := by
  have e := det_ops (p := p) (c := c) T X []
  rw [List.nil_append, List.nil_append] at e
  rw [e, det_cons] at h
  obtain ⟨x, hx, hl, hn⟩ := sgS_off (ops_zero hp X) hT h
  exact ⟨X.map (opR p c), Q, x, hX, hx, by simp [lX], by omega, hn⟩
theorem minor_z {k c : Nat} {p : Rw} {R Q : List Rw} {T cs : List Nat} (hp : p c ≠ 0) (hT : T.Sublist (c :: cs)) (lT : T.length = k + 1) (no : ¬ Minor k (R.map (opR p c)) cs) :
    ∀ (B A : List Rw), ((A ++ B).map (opR p c) ++ Q).Perm (R.map (opR p c)) → (A ++ B).length = k + 1 → det (A ++ B) T = det (A ++ B.map (opR p c)) T
  | [], A, _, _ => rfl
  | x :: B, A, hP, hl => by
    have e := det_lin (x c / p c) (opR p c x) p A B T
    rw [opR_back] at e
    have z : det (A ++ p :: B) T = 0 := by
      refine Classical.byContradiction fun ne => no ?_
      have ne' := (det_perm_ne (perm_mid A B p) T).mp ne
      refine minor_q (X := A ++ B) (Q := opR p c x :: Q) hp ?_ hT (by simp at hl ⊢; omega) lT ne'
      refine List.Perm.trans ?_ hP
      have e1 : ((A ++ x :: B).map (opR p c) ++ Q) = A.map (opR p c) ++ opR p c x :: (B.map (opR p c) ++ Q) := by simp
      rw [e1]
      refine (perm_mid _ _ _).trans (.trans ?_ (perm_mid _ _ _).symm)
      simp
    have ih := minor_z hp hT lT no B (A ++ [opR p c x]) (by
      have : (A ++ [opR p c x] ++ B).map (opR p c) = (A ++ x :: B).map (opR p c) := by simp [opR_op hp]
      rw [this]; exact hP) (by simp at hl ⊢; omega)
    rw [List.append_assoc, List.append_assoc] at ih
    rw [e, z]
    have ih' : det (A ++ opR p c x :: B) T = det (A ++ opR p c x :: B.map (opR p c)) T := ih
    rw [ih', List.map_cons]
    grind
/-- putting out a column -/
theorem minor_pivot {k c : Nat} {p : Rw} {R : List Rw} {cs : List Nat} (hp : p c ≠ 0) : Minor (k + 1) (p :: R) (c :: cs) ↔ Minor k (R.map (opR p c)) cs := by
  constructor
  · rintro ⟨S, R0, T, a, b, e, d, ne⟩
    by_cases m : p ∈ S
    · obtain ⟨S1, S2, rfl⟩ := List.append_of_mem m
      have ne' := (det_perm_ne (perm_mid S1 S2 p) T).mp ne
      have z : (p :: (S1 ++ S2 ++ R0)).Perm (p :: R) := by
        refine List.Perm.trans ?_ a
        have := (perm_mid S1 S2 p).symm.append_right R0
        simpa using this
      have z' := z.cons_inv.map (opR p c)
      rw [List.map_append] at z'
      exact minor_q hp z' b (by simp at e ⊢; omega) d ne'
    · have m2 : p ∈ R0 := by
        have := a.symm.subset (List.mem_cons_self (a := p) (l := R))
        rcases List.mem_append.mp this with h | h
        · exact absurd h m
        · exact h
      obtain ⟨R1, R2, rfl⟩ := List.append_of_mem m2
      have z : (p :: (S ++ (R1 ++ R2))).Perm (p :: R) := by
        refine List.Perm.trans ?_ a
        have := (perm_mid (S ++ R1) R2 p).symm
        simpa using this
      have z' := z.cons_inv.map (opR p c)
      rw [List.map_append] at z'
      refine Classical.byContradiction fun no => ?_
      have w := minor_z hp b d no S [] (by simpa using z') (by simpa using e)
      rw [List.nil_append, List.nil_append] at w
      rw [w] at ne
      match S, e with
      | s :: S, e =>
        rw [List.map_cons, det_cons] at ne
        obtain ⟨x, hx, hl, hn⟩ := sgS_off (ops_zero hp S) b ne
        refine no ⟨S.map (opR p c), opR p c s :: (R1 ++ R2).map (opR p c), x, ?_, hx, by simpa using e, by omega, hn⟩
        refine List.Perm.trans ?_ z'
        exact (perm_mid _ _ _)
  · rintro ⟨S, R0, T, a, b, e, d, ne⟩
    obtain ⟨R', h1, h2⟩ := perm_of_map a rfl
    obtain ⟨S', R0', rfl, rfl, rfl⟩ : ∃ S' R0', R' = S' ++ R0' ∧ S'.map (opR p c) = S ∧ R0'.map (opR p c) = R0 := by
      obtain ⟨a, b, c, d, e⟩ := List.map_eq_append_iff.mp h2
      exact ⟨a, b, c, d, e⟩
    refine ⟨p :: S', R0', c :: T, by simpa using h1.cons p, b.cons_cons c, by simpa using e, by simpa using d, ?_⟩
    have o := det_ops (p := p) (c := c) (c :: T) S' []
    rw [List.nil_append, List.nil_append] at o
    rw [o, det_cons]
    unfold sgS
    rw [sgS_congr (G := fun _ => 0) fun x _ _ => det_col (ops_zero hp S') List.mem_cons_self, sgS_zero]
    intro z
    have : p c * det (S'.map (opR p c)) T = 0 := by grind
    rcases Rat.mul_eq_zero.mp this with h | h
    · exact hp h
    · exact ne h
end DL

set_option Elab.async false
set_option linter.all false
set_option maxRecDepth 100000
set_option maxHeartbeats 4000000
namespace W_k03
open PySem PySem.Spec PyProof.Rows L2 DL
/-! ### the text by places; the head's facts -/
def top (i : Nat) : Stmt := PySem.Challenge.pw_sidebooks_k03_whole_rank_and_at_once.main.body.getD i (.Pass ⟨0, 0, 0, 0⟩)
abbrev A_is_integer : Arguments := defArgs (top 9)
abbrev B_is_integer : List Stmt := defBody (top 9)
abbrev Z_is_integer : Scope := defScope (top 9)
abbrev A_is_pair : Arguments := defArgs (top 10)
abbrev B_is_pair : List Stmt := defBody (top 10)
abbrev Z_is_pair : Scope := defScope (top 10)
abbrev A_are_integers : Arguments := defArgs (top 11)
abbrev B_are_integers : List Stmt := defBody (top 11)
abbrev Z_are_integers : Scope := defScope (top 11)
abbrev A_lowest : Arguments := defArgs (top 12)
abbrev B_lowest : List Stmt := defBody (top 12)
abbrev Z_lowest : Scope := defScope (top 12)
abbrev A_is_number : Arguments := defArgs (top 13)
abbrev B_is_number : List Stmt := defBody (top 13)
abbrev Z_is_number : Scope := defScope (top 13)
abbrev A_are_numbers : Arguments := defArgs (top 14)
abbrev B_are_numbers : List Stmt := defBody (top 14)
abbrev Z_are_numbers : Scope := defScope (top 14)
abbrev A_whole : Arguments := defArgs (top 15)
abbrev B_whole : List Stmt := defBody (top 15)
abbrev Z_whole : Scope := defScope (top 15)
abbrev A_sum_of_two : Arguments := defArgs (top 16)
abbrev B_sum_of_two : List Stmt := defBody (top 16)
abbrev Z_sum_of_two : Scope := defScope (top 16)
abbrev A_opposite : Arguments := defArgs (top 17)
abbrev B_opposite : List Stmt := defBody (top 17)
abbrev Z_opposite : Scope := defScope (top 17)
abbrev A_difference : Arguments := defArgs (top 18)
abbrev B_difference : List Stmt := defBody (top 18)
abbrev Z_difference : Scope := defScope (top 18)
abbrev A_product : Arguments := defArgs (top 19)
abbrev B_product : List Stmt := defBody (top 19)
abbrev Z_product : Scope := defScope (top 19)
abbrev A_quotient : Arguments := defArgs (top 20)
abbrev B_quotient : List Stmt := defBody (top 20)
abbrev Z_quotient : Scope := defScope (top 20)
abbrev A_sum_of_all : Arguments := defArgs (top 21)
abbrev B_sum_of_all : List Stmt := defBody (top 21)
abbrev Z_sum_of_all : Scope := defScope (top 21)
abbrev A_sign_of : Arguments := defArgs (top 22)
abbrev B_sign_of : List Stmt := defBody (top 22)
abbrev Z_sign_of : Scope := defScope (top 22)
abbrev A_dot : Arguments := defArgs (top 23)
abbrev B_dot : List Stmt := defBody (top 23)
abbrev Z_dot : Scope := defScope (top 23)
abbrev A_divided : Arguments := defArgs (top 24)
abbrev B_divided : List Stmt := defBody (top 24)
abbrev Z_divided : Scope := defScope (top 24)
abbrev A_times_row : Arguments := defArgs (top 25)
abbrev B_times_row : List Stmt := defBody (top 25)
abbrev Z_times_row : Scope := defScope (top 25)
abbrev A_less_row : Arguments := defArgs (top 26)
abbrev B_less_row : List Stmt := defBody (top 26)
abbrev Z_less_row : Scope := defScope (top 26)
abbrev A_reduced : Arguments := defArgs (top 27)
abbrev B_reduced : List Stmt := defBody (top 27)
abbrev Z_reduced : Scope := defScope (top 27)
abbrev A_is_question : Arguments := defArgs (top 29)
abbrev B_is_question : List Stmt := defBody (top 29)
abbrev Z_is_question : Scope := defScope (top 29)
abbrev A_row_of_question : Arguments := defArgs (top 30)
abbrev B_row_of_question : List Stmt := defBody (top 30)
abbrev Z_row_of_question : Scope := defScope (top 30)
abbrev A_ground_of : Arguments := defArgs (top 31)
abbrev B_ground_of : List Stmt := defBody (top 31)
abbrev Z_ground_of : Scope := defScope (top 31)
abbrev A_is_book : Arguments := defArgs (top 32)
abbrev B_is_book : List Stmt := defBody (top 32)
abbrev Z_is_book : Scope := defScope (top 32)
abbrev A_check_book : Arguments := defArgs (top 33)
abbrev B_check_book : List Stmt := defBody (top 33)
abbrev Z_check_book : Scope := defScope (top 33)
abbrev A_check_index : Arguments := defArgs (top 34)
abbrev B_check_index : List Stmt := defBody (top 34)
abbrev Z_check_index : Scope := defScope (top 34)
abbrev A_check_point : Arguments := defArgs (top 35)
abbrev B_check_point : List Stmt := defBody (top 35)
abbrev Z_check_point : Scope := defScope (top 35)
abbrev A_without_of : Arguments := defArgs (top 36)
abbrev B_without_of : List Stmt := defBody (top 36)
abbrev Z_without_of : Scope := defScope (top 36)
abbrev A_without : Arguments := defArgs (top 37)
abbrev B_without : List Stmt := defBody (top 37)
abbrev Z_without : Scope := defScope (top 37)
abbrev A_turned_question : Arguments := defArgs (top 38)
abbrev B_turned_question : List Stmt := defBody (top 38)
abbrev Z_turned_question : Scope := defScope (top 38)
abbrev A_turned : Arguments := defArgs (top 39)
abbrev B_turned : List Stmt := defBody (top 39)
abbrev Z_turned : Scope := defScope (top 39)
abbrev A_side_rows : Arguments := defArgs (top 40)
abbrev B_side_rows : List Stmt := defBody (top 40)
abbrev Z_side_rows : Scope := defScope (top 40)
abbrev A_rank_of : Arguments := defArgs (top 41)
abbrev B_rank_of : List Stmt := defBody (top 41)
abbrev Z_rank_of : Scope := defScope (top 41)
abbrev A_rank : Arguments := defArgs (top 42)
abbrev B_rank : List Stmt := defBody (top 42)
abbrev Z_rank : Scope := defScope (top 42)
abbrev A_at_once_of : Arguments := defArgs (top 43)
abbrev B_at_once_of : List Stmt := defBody (top 43)
abbrev Z_at_once_of : Scope := defScope (top 43)
abbrev A_at_once : Arguments := defArgs (top 44)
abbrev B_at_once : List Stmt := defBody (top 44)
abbrev Z_at_once : Scope := defScope (top 44)
abbrev A_answer_of : Arguments := defArgs (top 46)
abbrev B_answer_of : List Stmt := defBody (top 46)
abbrev Z_answer_of : Scope := defScope (top 46)
abbrev A_row_at : Arguments := defArgs (top 47)
abbrev B_row_at : List Stmt := defBody (top 47)
abbrev Z_row_at : Scope := defScope (top 47)
abbrev A_row_of : Arguments := defArgs (top 48)
abbrev B_row_of : List Stmt := defBody (top 48)
abbrev Z_row_of : Scope := defScope (top 48)
abbrev A__law_deck : Arguments := defArgs (top 50)
abbrev B__law_deck : List Stmt := defBody (top 50)
abbrev Z__law_deck : Scope := defScope (top 50)
abbrev A__law_take : Arguments := defArgs (top 51)
abbrev B__law_take : List Stmt := defBody (top 51)
abbrev Z__law_take : Scope := defScope (top 51)
abbrev A__law_gcd : Arguments := defArgs (top 52)
abbrev B__law_gcd : List Stmt := defBody (top 52)
abbrev Z__law_gcd : Scope := defScope (top 52)
abbrev A__law_pair : Arguments := defArgs (top 53)
abbrev B__law_pair : List Stmt := defBody (top 53)
abbrev Z__law_pair : Scope := defScope (top 53)
abbrev A__law_plus : Arguments := defArgs (top 54)
abbrev B__law_plus : List Stmt := defBody (top 54)
abbrev Z__law_plus : Scope := defScope (top 54)
abbrev A__law_times : Arguments := defArgs (top 55)
abbrev B__law_times : List Stmt := defBody (top 55)
abbrev Z__law_times : Scope := defScope (top 55)
abbrev A__law_less : Arguments := defArgs (top 56)
abbrev B__law_less : List Stmt := defBody (top 56)
abbrev Z__law_less : Scope := defScope (top 56)
abbrev A__law_same : Arguments := defArgs (top 57)
abbrev B__law_same : List Stmt := defBody (top 57)
abbrev Z__law_same : Scope := defScope (top 57)
abbrev A__law_ground : Arguments := defArgs (top 58)
abbrev B__law_ground : List Stmt := defBody (top 58)
abbrev Z__law_ground : Scope := defScope (top 58)
abbrev A__law_line : Arguments := defArgs (top 59)
abbrev B__law_line : List Stmt := defBody (top 59)
abbrev Z__law_line : Scope := defScope (top 59)
abbrev A__law_page : Arguments := defArgs (top 60)
abbrev B__law_page : List Stmt := defBody (top 60)
abbrev Z__law_page : Scope := defScope (top 60)
abbrev A__law_through : Arguments := defArgs (top 61)
abbrev B__law_through : List Stmt := defBody (top 61)
abbrev Z__law_through : Scope := defScope (top 61)
abbrev A__law_web : Arguments := defArgs (top 62)
abbrev B__law_web : List Stmt := defBody (top 62)
abbrev Z__law_web : Scope := defScope (top 62)
abbrev A__law_least : Arguments := defArgs (top 63)
abbrev B__law_least : List Stmt := defBody (top 63)
abbrev Z__law_least : Scope := defScope (top 63)
abbrev A__law_picks : Arguments := defArgs (top 64)
abbrev B__law_picks : List Stmt := defBody (top 64)
abbrev Z__law_picks : Scope := defScope (top 64)
abbrev A__law_rank : Arguments := defArgs (top 65)
abbrev B__law_rank : List Stmt := defBody (top 65)
abbrev Z__law_rank : Scope := defScope (top 65)
abbrev A__law_meeting : Arguments := defArgs (top 66)
abbrev B__law_meeting : List Stmt := defBody (top 66)
abbrev Z__law_meeting : Scope := defScope (top 66)
abbrev A__law_less_row : Arguments := defArgs (top 67)
abbrev B__law_less_row : List Stmt := defBody (top 67)
abbrev Z__law_less_row : Scope := defScope (top 67)
abbrev A__law_right : Arguments := defArgs (top 68)
abbrev B__law_right : List Stmt := defBody (top 68)
abbrev Z__law_right : Scope := defScope (top 68)
abbrev A_law : Arguments := defArgs (top 69)
abbrev B_law : List Stmt := defBody (top 69)
abbrev Z_law : Scope := defScope (top 69)
abbrev iS : Stmt := inClass (top 2) 0
def fnL0 : List He.DefD := [⟨("is_integer", none), "is_integer", "is_integer", A_is_integer, B_is_integer, Z_is_integer, [], []⟩, ⟨("is_pair", none), "is_pair", "is_pair", A_is_pair, B_is_pair, Z_is_pair, [], []⟩, ⟨("are_integers", none), "are_integers", "are_integers", A_are_integers, B_are_integers, Z_are_integers, [], []⟩, ⟨("lowest", none), "lowest", "lowest", A_lowest, B_lowest, Z_lowest, [], []⟩, ⟨("is_number", none), "is_number", "is_number", A_is_number, B_is_number, Z_is_number, [], []⟩, ⟨("are_numbers", none), "are_numbers", "are_numbers", A_are_numbers, B_are_numbers, Z_are_numbers, [], []⟩, ⟨("whole", none), "whole", "whole", A_whole, B_whole, Z_whole, [], []⟩, ⟨("sum_of_two", none), "sum_of_two", "sum_of_two", A_sum_of_two, B_sum_of_two, Z_sum_of_two, [], []⟩, ⟨("opposite", none), "opposite", "opposite", A_opposite, B_opposite, Z_opposite, [], []⟩, ⟨("difference", none), "difference", "difference", A_difference, B_difference, Z_difference, [], []⟩, ⟨("product", none), "product", "product", A_product, B_product, Z_product, [], []⟩, ⟨("quotient", none), "quotient", "quotient", A_quotient, B_quotient, Z_quotient, [], []⟩]
def fnL1 : List He.DefD := [⟨("sum_of_all", none), "sum_of_all", "sum_of_all", A_sum_of_all, B_sum_of_all, Z_sum_of_all, [], []⟩, ⟨("sign_of", none), "sign_of", "sign_of", A_sign_of, B_sign_of, Z_sign_of, [], []⟩, ⟨("dot", none), "dot", "dot", A_dot, B_dot, Z_dot, [], []⟩, ⟨("divided", none), "divided", "divided", A_divided, B_divided, Z_divided, [], []⟩, ⟨("times_row", none), "times_row", "times_row", A_times_row, B_times_row, Z_times_row, [], []⟩, ⟨("less_row", none), "less_row", "less_row", A_less_row, B_less_row, Z_less_row, [], []⟩, ⟨("reduced", none), "reduced", "reduced", A_reduced, B_reduced, Z_reduced, [], []⟩, ⟨("is_question", none), "is_question", "is_question", A_is_question, B_is_question, Z_is_question, [], []⟩, ⟨("row_of_question", none), "row_of_question", "row_of_question", A_row_of_question, B_row_of_question, Z_row_of_question, [], []⟩, ⟨("ground_of", none), "ground_of", "ground_of", A_ground_of, B_ground_of, Z_ground_of, [], []⟩, ⟨("is_book", none), "is_book", "is_book", A_is_book, B_is_book, Z_is_book, [], []⟩, ⟨("check_book", none), "check_book", "check_book", A_check_book, B_check_book, Z_check_book, [], []⟩]
def fnL2 : List He.DefD := [⟨("check_index", none), "check_index", "check_index", A_check_index, B_check_index, Z_check_index, [], []⟩, ⟨("check_point", none), "check_point", "check_point", A_check_point, B_check_point, Z_check_point, [], []⟩, ⟨("without_of", none), "without_of", "without_of", A_without_of, B_without_of, Z_without_of, [], []⟩, ⟨("without", none), "without", "without", A_without, B_without, Z_without, [], []⟩, ⟨("turned_question", none), "turned_question", "turned_question", A_turned_question, B_turned_question, Z_turned_question, [], []⟩, ⟨("turned", none), "turned", "turned", A_turned, B_turned, Z_turned, [], []⟩, ⟨("side_rows", none), "side_rows", "side_rows", A_side_rows, B_side_rows, Z_side_rows, [], []⟩, ⟨("rank_of", none), "rank_of", "rank_of", A_rank_of, B_rank_of, Z_rank_of, [], []⟩, ⟨("rank", none), "rank", "rank", A_rank, B_rank, Z_rank, [], []⟩, ⟨("at_once_of", none), "at_once_of", "at_once_of", A_at_once_of, B_at_once_of, Z_at_once_of, [], []⟩, ⟨("at_once", none), "at_once", "at_once", A_at_once, B_at_once, Z_at_once, [], []⟩, ⟨("answer_of", none), "answer_of", "answer_of", A_answer_of, B_answer_of, Z_answer_of, [], []⟩]
def fnL3 : List He.DefD := [⟨("row_at", none), "row_at", "row_at", A_row_at, B_row_at, Z_row_at, [], []⟩, ⟨("row_of", none), "row_of", "row_of", A_row_of, B_row_of, Z_row_of, [], []⟩, ⟨("_law_deck", none), "_law_deck", "_law_deck", A__law_deck, B__law_deck, Z__law_deck, [], []⟩, ⟨("_law_take", none), "_law_take", "_law_take", A__law_take, B__law_take, Z__law_take, [], []⟩, ⟨("_law_gcd", none), "_law_gcd", "_law_gcd", A__law_gcd, B__law_gcd, Z__law_gcd, [], []⟩, ⟨("_law_pair", none), "_law_pair", "_law_pair", A__law_pair, B__law_pair, Z__law_pair, [], []⟩, ⟨("_law_plus", none), "_law_plus", "_law_plus", A__law_plus, B__law_plus, Z__law_plus, [], []⟩, ⟨("_law_times", none), "_law_times", "_law_times", A__law_times, B__law_times, Z__law_times, [], []⟩, ⟨("_law_less", none), "_law_less", "_law_less", A__law_less, B__law_less, Z__law_less, [], []⟩, ⟨("_law_same", none), "_law_same", "_law_same", A__law_same, B__law_same, Z__law_same, [], []⟩, ⟨("_law_ground", none), "_law_ground", "_law_ground", A__law_ground, B__law_ground, Z__law_ground, [], []⟩, ⟨("_law_line", none), "_law_line", "_law_line", A__law_line, B__law_line, Z__law_line, [], []⟩]
def fnL4 : List He.DefD := [⟨("_law_page", none), "_law_page", "_law_page", A__law_page, B__law_page, Z__law_page, [], []⟩, ⟨("_law_through", none), "_law_through", "_law_through", A__law_through, B__law_through, Z__law_through, [], []⟩, ⟨("_law_web", none), "_law_web", "_law_web", A__law_web, B__law_web, Z__law_web, [], []⟩, ⟨("_law_least", none), "_law_least", "_law_least", A__law_least, B__law_least, Z__law_least, [], []⟩, ⟨("_law_picks", none), "_law_picks", "_law_picks", A__law_picks, B__law_picks, Z__law_picks, [], []⟩, ⟨("_law_rank", none), "_law_rank", "_law_rank", A__law_rank, B__law_rank, Z__law_rank, [], []⟩, ⟨("_law_meeting", none), "_law_meeting", "_law_meeting", A__law_meeting, B__law_meeting, Z__law_meeting, [], []⟩, ⟨("_law_less_row", none), "_law_less_row", "_law_less_row", A__law_less_row, B__law_less_row, Z__law_less_row, [], []⟩, ⟨("_law_right", none), "_law_right", "_law_right", A__law_right, B__law_right, Z__law_right, [], []⟩, ⟨("law", none), "law", "law", A_law, B_law, Z_law, [], []⟩, ⟨("BookError", some "__init__"), "__init__", "BookError.__init__", defArgs iS, defBody iS, defScope iS, [], []⟩]
def fnL : List He.DefD := fnL0 ++ fnL1 ++ fnL2 ++ fnL3 ++ fnL4
def faL0 : List Fc := [.he (.glo "is_integer"), .he (.glo "is_pair"), .he (.glo "are_integers"), .he (.glo "lowest"), .he (.glo "is_number"), .he (.glo "are_numbers"), .he (.glo "whole"), .he (.glo "sum_of_two"), .he (.glo "opposite"), .he (.glo "difference"), .he (.glo "product"), .he (.glo "quotient")]
def faL1 : List Fc := [.he (.glo "sum_of_all"), .he (.glo "sign_of"), .he (.glo "dot"), .he (.glo "divided"), .he (.glo "times_row"), .he (.glo "less_row"), .he (.glo "reduced"), .he (.glo "is_question"), .he (.glo "row_of_question"), .he (.glo "ground_of"), .he (.glo "is_book"), .he (.glo "check_book")]
def faL2 : List Fc := [.he (.glo "check_index"), .he (.glo "check_point"), .he (.glo "without_of"), .he (.glo "without"), .he (.glo "turned_question"), .he (.glo "turned"), .he (.glo "side_rows"), .he (.glo "rank_of"), .he (.glo "rank"), .he (.glo "at_once_of"), .he (.glo "at_once"), .he (.glo "answer_of")]
def faL3 : List Fc := [.he (.glo "row_at"), .he (.glo "row_of"), .he (.glo "_law_deck"), .he (.glo "_law_take"), .he (.glo "_law_gcd"), .he (.glo "_law_pair"), .he (.glo "_law_plus"), .he (.glo "_law_times"), .he (.glo "_law_less"), .he (.glo "_law_same"), .he (.glo "_law_ground"), .he (.glo "_law_line")]
def faL4 : List Fc := [.he (.glo "_law_page"), .he (.glo "_law_through"), .he (.glo "_law_web"), .he (.glo "_law_least"), .he (.glo "_law_picks"), .he (.glo "_law_rank"), .he (.glo "_law_meeting"), .he (.glo "_law_less_row"), .he (.glo "_law_right"), .he (.glo "law"), .he (.free "len"), .he (.free "all")]
def faL5 : List Fc := [.he (.free "any"), .he (.free "tuple"), .he (.free "list"), .he (.free "int"), .he (.free "isinstance"), .he (.free "range"), .he (.free "zip"), .he (.free "abs"), .he (.free "max"), .he (.free "min"), .he (.free "enumerate"), .he (.free "sorted")]
def faL6 : List Fc := [.he (.free "sum"), .he (.free "dict"), .he (.free "set"), .he (.free "str"), .he (.free "bool"), .he (.free "ValueError"), .he (.free "reversed"), .he (.free "repr"), .con "ZERO" [0, 1], .con "ONE" [1, 1], .bfun "gcd" "math.gcd", .exc "BookError" "BookError"]
def faL7 : List Fc := [.exc "BookError" "InvalidPoint", .exc "BookError" "InvalidBook", .exc "BookError" "InvalidIndex"]
def faL : List Fc := faL0 ++ faL1 ++ faL2 ++ faL3 ++ faL4 ++ faL5 ++ faL6 ++ faL7
def nmL0 : List PySem.Str := ["BookError", "InvalidPoint", "InvalidBook", "InvalidIndex", "ZERO", "ONE", "is_integer", "is_pair", "are_integers", "lowest", "is_number", "are_numbers"]
def nmL1 : List PySem.Str := ["whole", "sum_of_two", "opposite", "difference", "product", "quotient", "sum_of_all", "sign_of", "dot", "divided", "times_row", "less_row"]
def nmL2 : List PySem.Str := ["reduced", "is_question", "row_of_question", "ground_of", "is_book", "check_book", "check_index", "check_point", "without_of", "without", "turned_question", "turned"]
def nmL3 : List PySem.Str := ["side_rows", "rank_of", "rank", "at_once_of", "at_once", "answer_of", "row_at", "row_of", "_law_deck", "_law_take", "_law_gcd", "_law_pair"]
def nmL4 : List PySem.Str := ["_law_plus", "_law_times", "_law_less", "_law_same", "_law_ground", "_law_line", "_law_page", "_law_through", "_law_web", "_law_least", "_law_picks", "_law_rank"]
def nmL5 : List PySem.Str := ["_law_meeting", "_law_less_row", "_law_right"]
def nmL : List PySem.Str := nmL0 ++ nmL1 ++ nmL2 ++ nmL3 ++ nmL4 ++ nmL5
abbrev RwO : PySem.W.OpenRow := PySem.W.OpenLaw.row PySem.Challenge.rw_sidebooks_k03_whole_rank_and_at_once
abbrev hk : PySem.W.Hook := hookF 5 faL fnL
def ob (s : PySem.W.SharedT) : AlF := obsFG 5 faL fnL (HandSHeadRun.getT s)
theorem ob_eq (s : PySem.W.SharedT) : ob s = hk.obs s.abs := obsFG_eq (HandSHeadRun.getT_eq s)
/-- what the top leaves -/
structure TopF (K : PySem.W.Frag) (mg : Str → Option Value) : Prop where
  b_len : mg "len" = none
  b_all : mg "all" = none
  b_any : mg "any" = none
  b_tuple : mg "tuple" = none
  b_list : mg "list" = none
  b_int : mg "int" = none
  b_isinstance : mg "isinstance" = none
  b_range : mg "range" = none
  b_zip : mg "zip" = none
  b_abs : mg "abs" = none
  b_max : mg "max" = none
  b_min : mg "min" = none
  b_enumerate : mg "enumerate" = none
  b_sorted : mg "sorted" = none
  b_sum : mg "sum" = none
  b_dict : mg "dict" = none
  b_set : mg "set" = none
  b_str : mg "str" = none
  b_bool : mg "bool" = none
  b_ValueError : mg "ValueError" = none
  b_reversed : mg "reversed" = none
  b_repr : mg "repr" = none
  k_ZERO : ConF K mg "ZERO" (.tuple [(.int 0), (.int 1)])
  k_ONE : ConK K mg "ONE" [1, 1]
  gcd : mg "gcd" = some (.builtin "math.gcd")
  x_BookError : XC K mg "BookError" (He.ma K (He.ga K "BookError") "__init__")
  x_InvalidPoint : XC K mg "InvalidPoint" (He.ma K (He.ga K "BookError") "__init__")
  x_InvalidBook : XC K mg "InvalidBook" (He.ma K (He.ga K "BookError") "__init__")
  x_InvalidIndex : XC K mg "InvalidIndex" (He.ma K (He.ga K "BookError") "__init__")
  d_is_integer : DefF K mg "is_integer" A_is_integer B_is_integer Z_is_integer
  d_is_pair : DefF K mg "is_pair" A_is_pair B_is_pair Z_is_pair
  d_are_integers : DefF K mg "are_integers" A_are_integers B_are_integers Z_are_integers
  d_lowest : DefF K mg "lowest" A_lowest B_lowest Z_lowest
  d_is_number : DefF K mg "is_number" A_is_number B_is_number Z_is_number
  d_are_numbers : DefF K mg "are_numbers" A_are_numbers B_are_numbers Z_are_numbers
  d_whole : DefF K mg "whole" A_whole B_whole Z_whole
  d_sum_of_two : DefF K mg "sum_of_two" A_sum_of_two B_sum_of_two Z_sum_of_two
  d_opposite : DefF K mg "opposite" A_opposite B_opposite Z_opposite
  d_difference : DefF K mg "difference" A_difference B_difference Z_difference
  d_product : DefF K mg "product" A_product B_product Z_product
  d_quotient : DefF K mg "quotient" A_quotient B_quotient Z_quotient
  d_sum_of_all : DefF K mg "sum_of_all" A_sum_of_all B_sum_of_all Z_sum_of_all
  d_sign_of : DefF K mg "sign_of" A_sign_of B_sign_of Z_sign_of
  d_dot : DefF K mg "dot" A_dot B_dot Z_dot
  d_divided : DefF K mg "divided" A_divided B_divided Z_divided
  d_times_row : DefF K mg "times_row" A_times_row B_times_row Z_times_row
  d_less_row : DefF K mg "less_row" A_less_row B_less_row Z_less_row
  d_reduced : DefF K mg "reduced" A_reduced B_reduced Z_reduced
  d_is_question : DefF K mg "is_question" A_is_question B_is_question Z_is_question
  d_row_of_question : DefF K mg "row_of_question" A_row_of_question B_row_of_question Z_row_of_question
  d_ground_of : DefF K mg "ground_of" A_ground_of B_ground_of Z_ground_of
  d_is_book : DefF K mg "is_book" A_is_book B_is_book Z_is_book
  d_check_book : DefF K mg "check_book" A_check_book B_check_book Z_check_book
  d_check_index : DefF K mg "check_index" A_check_index B_check_index Z_check_index
  d_check_point : DefF K mg "check_point" A_check_point B_check_point Z_check_point
  d_without_of : DefF K mg "without_of" A_without_of B_without_of Z_without_of
  d_without : DefF K mg "without" A_without B_without Z_without
  d_turned_question : DefF K mg "turned_question" A_turned_question B_turned_question Z_turned_question
  d_turned : DefF K mg "turned" A_turned B_turned Z_turned
  d_side_rows : DefF K mg "side_rows" A_side_rows B_side_rows Z_side_rows
  d_rank_of : DefF K mg "rank_of" A_rank_of B_rank_of Z_rank_of
  d_rank : DefF K mg "rank" A_rank B_rank Z_rank
  d_at_once_of : DefF K mg "at_once_of" A_at_once_of B_at_once_of Z_at_once_of
  d_at_once : DefF K mg "at_once" A_at_once B_at_once Z_at_once
  d_answer_of : DefF K mg "answer_of" A_answer_of B_answer_of Z_answer_of
  d_row_at : DefF K mg "row_at" A_row_at B_row_at Z_row_at
  d_row_of : DefF K mg "row_of" A_row_of B_row_of Z_row_of
  d__law_deck : DefF K mg "_law_deck" A__law_deck B__law_deck Z__law_deck
  d__law_take : DefF K mg "_law_take" A__law_take B__law_take Z__law_take
  d__law_gcd : DefF K mg "_law_gcd" A__law_gcd B__law_gcd Z__law_gcd
  d__law_pair : DefF K mg "_law_pair" A__law_pair B__law_pair Z__law_pair
  d__law_plus : DefF K mg "_law_plus" A__law_plus B__law_plus Z__law_plus
  d__law_times : DefF K mg "_law_times" A__law_times B__law_times Z__law_times
  d__law_less : DefF K mg "_law_less" A__law_less B__law_less Z__law_less
  d__law_same : DefF K mg "_law_same" A__law_same B__law_same Z__law_same
  d__law_ground : DefF K mg "_law_ground" A__law_ground B__law_ground Z__law_ground
  d__law_line : DefF K mg "_law_line" A__law_line B__law_line Z__law_line
  d__law_page : DefF K mg "_law_page" A__law_page B__law_page Z__law_page
  d__law_through : DefF K mg "_law_through" A__law_through B__law_through Z__law_through
  d__law_web : DefF K mg "_law_web" A__law_web B__law_web Z__law_web
  d__law_least : DefF K mg "_law_least" A__law_least B__law_least Z__law_least
  d__law_picks : DefF K mg "_law_picks" A__law_picks B__law_picks Z__law_picks
  d__law_rank : DefF K mg "_law_rank" A__law_rank B__law_rank Z__law_rank
  d__law_meeting : DefF K mg "_law_meeting" A__law_meeting B__law_meeting Z__law_meeting
  d__law_less_row : DefF K mg "_law_less_row" A__law_less_row B__law_less_row Z__law_less_row
  d__law_right : DefF K mg "_law_right" A__law_right B__law_right Z__law_right
  d_law : DefF K mg "law" A_law B_law Z_law
  d_init : ∃ fd, FunD K "__init__" "BookError.__init__" (defArgs iS) (defBody iS) (defScope iS) [] [] (He.ma K (He.ga K "BookError") "__init__") fd
theorem top_ok {K : PySem.W.Frag} {h : Heap} {mg : Str → Option Value} (X : K.In h) (G : h.Ns mainGlobals mg) (c : SaysF faL fnL K) : TopF K mg :=
  ⟨free_okF X G (c.fact 58),
   free_okF X G (c.fact 59),
   free_okF X G (c.fact 60),
   free_okF X G (c.fact 61),
   free_okF X G (c.fact 62),
   free_okF X G (c.fact 63),
   free_okF X G (c.fact 64),
   free_okF X G (c.fact 65),
   free_okF X G (c.fact 66),
   free_okF X G (c.fact 67),
   free_okF X G (c.fact 68),
   free_okF X G (c.fact 69),
   free_okF X G (c.fact 70),
   free_okF X G (c.fact 71),
   free_okF X G (c.fact 72),
   free_okF X G (c.fact 73),
   free_okF X G (c.fact 74),
   free_okF X G (c.fact 75),
   free_okF X G (c.fact 76),
   free_okF X G (c.fact 77),
   free_okF X G (c.fact 78),
   free_okF X G (c.fact 79),
   con_ok X G (c.fact 80) rfl,
   conK_ok X G (c.fact 81),
   bfun_okF X G (c.fact 82),
   exc_okF X G (c.fact 83),
   exc_okF X G (c.fact 84),
   exc_okF X G (c.fact 85),
   exc_okF X G (c.fact 86),
   def_okF X G c 0 0,
   def_okF X G c 1 1,
   def_okF X G c 2 2,
   def_okF X G c 3 3,
   def_okF X G c 4 4,
   def_okF X G c 5 5,
   def_okF X G c 6 6,
   def_okF X G c 7 7,
   def_okF X G c 8 8,
   def_okF X G c 9 9,
   def_okF X G c 10 10,
   def_okF X G c 11 11,
   def_okF X G c 12 12,
   def_okF X G c 13 13,
   def_okF X G c 14 14,
   def_okF X G c 15 15,
   def_okF X G c 16 16,
   def_okF X G c 17 17,
   def_okF X G c 18 18,
   def_okF X G c 19 19,
   def_okF X G c 20 20,
   def_okF X G c 21 21,
   def_okF X G c 22 22,
   def_okF X G c 23 23,
   def_okF X G c 24 24,
   def_okF X G c 25 25,
   def_okF X G c 26 26,
   def_okF X G c 27 27,
   def_okF X G c 28 28,
   def_okF X G c 29 29,
   def_okF X G c 30 30,
   def_okF X G c 31 31,
   def_okF X G c 32 32,
   def_okF X G c 33 33,
   def_okF X G c 34 34,
   def_okF X G c 35 35,
   def_okF X G c 36 36,
   def_okF X G c 37 37,
   def_okF X G c 38 38,
   def_okF X G c 39 39,
   def_okF X G c 40 40,
   def_okF X G c 41 41,
   def_okF X G c 42 42,
   def_okF X G c 43 43,
   def_okF X G c 44 44,
   def_okF X G c 45 45,
   def_okF X G c 46 46,
   def_okF X G c 47 47,
   def_okF X G c 48 48,
   def_okF X G c 49 49,
   def_okF X G c 50 50,
   def_okF X G c 51 51,
   def_okF X G c 52 52,
   def_okF X G c 53 53,
   def_okF X G c 54 54,
   def_okF X G c 55 55,
   def_okF X G c 56 56,
   def_okF X G c 57 57,
   c.def_ 58⟩
section
variable {P : Program} {w : World} {K : PySem.W.Frag} {mg : Str → Option Value} {base : Heap}
theorem sc_init : FnScope ["self", "value"] ["self", "value"] (defScope iS) := ⟨rfl, rfl, rfl, by decide +kernel, rfl, by decide +kernel, by decide +kernel⟩
theorem initF (T : TopF K mg) : InitF P w K mg base (He.ma K (He.ga K "BookError") "__init__") 1 := by
  obtain ⟨fd, F⟩ := T.d_init
  exact init_mk F sc_init (F.bindsN fun _ _ _ _ _ _ us hl => match us, hl with | [_, _], _ => rfl) (fun cdv A outer s H E =>
    pss_cons (ps_expr (pe_veinit (by rfl) T.b_ValueError rfl (pa_cons (pv 0) (pa_cons (pv 1) pa_nil)))) (pss_one (ps_ost (pv 0) (pv 1))))
end
end W_k03

set_option Elab.async false
set_option linter.all false
set_option maxRecDepth 100000
set_option maxHeartbeats 0
namespace W_k03
open PySem PySem.Spec PyProof.Rows L2 DL
theorem runTop (w : World) : HandSHeadRun.RunEqI RwO (PySem.W.view RwO.prog [0, 69]) hk ob 8000 nmL w := by
  unfold HandSHeadRun.RunEqI
  kernel_rfl
end W_k03

set_option Elab.async false
set_option linter.all false
set_option maxRecDepth 100000
set_option maxHeartbeats 4000000
namespace W_k03
open PySem PySem.Spec PyProof.Rows L2 DL
/-! is_integer -/
noncomputable def G_is_integer : MS := (sRet ((eAnd (eIsi isInt (eVar 0)) (eNot (eIsi isBool (eVar 0))))))
noncomputable def F_is_integer : FnD := mkF false 1 1 G_is_integer
/-! is_pair -/
noncomputable def G_is_pair : MS := (sRet ((eAnd (eIsi isTuple (eVar 0)) (eOp dEq (eLen (eVar 0)) (eC (.int 2))))))
noncomputable def F_is_pair : FnD := mkF false 1 1 G_is_pair
/-! are_integers -/
noncomputable def G_are_integers : MS := (sRet ((eAnd (eIsi isTuple (eVar 0)) (eCallB (d1 dAll) (aCons (eLc [1] (iSeq (eVar 0)) (gN 1) tYesD (eCall F_is_integer (aCons (eVar 1) aNil))) aNil)))))
noncomputable def F_are_integers : FnD := mkF false 2 1 G_are_integers
/-! lowest -/
noncomputable def G_lowest : MS := (sSeq (sSet 2 (eCallB gGcd (aCons (eVar 0) (aCons (eVar 1) aNil))))
    (sSeq (sIf (tVal (eOp (dInt2 (gCmp fun i j => decide (i < j))) (eVar 1) (eC (.int 0)))) (sSet 2 (eUn dNeg (eVar 2))) sNext)
    (sRet (eTup (aCons (eOp (dInt2 gFdivN) (eVar 0) (eVar 2)) (aCons (eOp (dInt2 gFdivN) (eVar 1) (eVar 2)) aNil))))))
noncomputable def F_lowest : FnD := mkF false 3 2 G_lowest
/-! is_number -/
noncomputable def G_is_number : MS := (sRet ((eAnd (eCall F_is_pair (aCons (eVar 0) aNil)) (eAnd (eCall F_are_integers (aCons (eVar 0) aNil)) (eAnd (eOp (dInt2 (gCmp fun i j => decide (j < i))) (eIx (eVar 0) (eC (.int 1))) (eC (.int 0))) (eOp dEq (eCall F_lowest (aCons (eIx (eVar 0) (eC (.int 0))) (aCons (eIx (eVar 0) (eC (.int 1))) aNil))) (eVar 0)))))))
noncomputable def F_is_number : FnD := mkF false 1 1 G_is_number
/-! are_numbers -/
noncomputable def G_are_numbers : MS := (sRet ((eAnd (eIsi isTuple (eVar 0)) (eAnd (eOp dEq (eLen (eVar 0)) (eVar 1)) (eCallB (d1 dAll) (aCons (eLc [2] (iSeq (eVar 0)) (gN 2) tYesD (eCall F_is_number (aCons (eVar 2) aNil))) aNil))))))
noncomputable def F_are_numbers : FnD := mkF false 3 2 G_are_numbers
/-! whole -/
noncomputable def G_whole : MS := (sRet (eTup (aCons (eVar 0) (aCons (eC (.int 1)) aNil))))
noncomputable def F_whole : FnD := mkF false 1 1 G_whole
/-! sum_of_two -/
noncomputable def G_sum_of_two : MS := (sRet (eCall F_lowest (aCons (eOp dAdd (eOp dMul (eIx (eVar 0) (eC (.int 0))) (eIx (eVar 1) (eC (.int 1)))) (eOp dMul (eIx (eVar 1) (eC (.int 0))) (eIx (eVar 0) (eC (.int 1))))) (aCons (eOp dMul (eIx (eVar 0) (eC (.int 1))) (eIx (eVar 1) (eC (.int 1)))) aNil))))
noncomputable def F_sum_of_two : FnD := mkF false 2 2 G_sum_of_two
/-! opposite -/
noncomputable def G_opposite : MS := (sRet (eTup (aCons (eUn dNeg (eIx (eVar 0) (eC (.int 0)))) (aCons (eIx (eVar 0) (eC (.int 1))) aNil))))
noncomputable def F_opposite : FnD := mkF false 1 1 G_opposite
/-! difference -/
noncomputable def G_difference : MS := (sRet (eCall F_sum_of_two (aCons (eVar 0) (aCons (eCall F_opposite (aCons (eVar 1) aNil)) aNil))))
noncomputable def F_difference : FnD := mkF false 2 2 G_difference
/-! product -/
noncomputable def G_product : MS := (sRet (eCall F_lowest (aCons (eOp dMul (eIx (eVar 0) (eC (.int 0))) (eIx (eVar 1) (eC (.int 0)))) (aCons (eOp dMul (eIx (eVar 0) (eC (.int 1))) (eIx (eVar 1) (eC (.int 1)))) aNil))))
noncomputable def F_product : FnD := mkF false 2 2 G_product
/-! quotient -/
noncomputable def G_quotient : MS := (sRet (eCall F_lowest (aCons (eOp dMul (eIx (eVar 0) (eC (.int 0))) (eIx (eVar 1) (eC (.int 1)))) (aCons (eOp dMul (eIx (eVar 0) (eC (.int 1))) (eIx (eVar 1) (eC (.int 0)))) aNil))))
noncomputable def F_quotient : FnD := mkF false 2 2 G_quotient
/-! sum_of_all -/
noncomputable def G_sum_of_all : MS := (sSeq (sSet 1 (eC (.tuple [(.int 0), (.int 1)])))
    (sSeq (sFor (iSeq (eVar 0)) (gN 2) (sSet 1 (eCall F_sum_of_two (aCons (eVar 1) (aCons (eVar 2) aNil)))))
    (sRet (eVar 1))))
noncomputable def F_sum_of_all : FnD := mkF false 3 1 G_sum_of_all
/-! sign_of -/
noncomputable def G_sign_of : MS := (sRet (eOp (dInt2 gSub) (eCallB (d1 dInt) (aCons (eOp (dInt2 (gCmp fun i j => decide (j < i))) (eVar 0) (eC (.int 0))) aNil)) (eCallB (d1 dInt) (aCons (eOp (dInt2 (gCmp fun i j => decide (i < j))) (eVar 0) (eC (.int 0))) aNil))))
noncomputable def F_sign_of : FnD := mkF false 1 1 G_sign_of
/-! dot -/
noncomputable def G_dot : MS := (sRet (eCall F_sum_of_all (aCons (eLc [2, 3] (iZip2 (aCons (eVar 0) (aCons (eVar 1) aNil))) (gT (gsCons (gN 2) (gsCons (gN 3) gsNil))) tYesD (eCall F_product (aCons (eCall F_whole (aCons (eVar 2) aNil)) (aCons (eVar 3) aNil)))) aNil)))
noncomputable def F_dot : FnD := mkF false 4 2 G_dot
/-! divided -/
noncomputable def G_divided : MS := (sSeq (sSet 1 (eC (.int 0)))
    (sSeq (sFor (iSeq (eVar 0)) (gN 2) (sSet 1 (eCallB gGcd (aCons (eVar 1) (aCons (eVar 2) aNil)))))
    (sRet (eCallB (d1 dTuple) (aCons (eLc [2] (iSeq (eVar 0)) (gN 2) tYesD (eOp (dInt2 gFdivN) (eVar 2) (eVar 1))) aNil)))))
noncomputable def F_divided : FnD := mkF false 3 1 G_divided
/-! times_row -/
noncomputable def G_times_row : MS := (sRet (eCallB (d1 dTuple) (aCons (eLc [2] (iSeq (eVar 0)) (gN 2) tYesD (eCall F_product (aCons (eVar 2) (aCons (eVar 1) aNil)))) aNil)))
noncomputable def F_times_row : FnD := mkF false 3 2 G_times_row
/-! less_row -/
noncomputable def G_less_row : MS := (sRet (eCallB (d1 dTuple) (aCons (eLc [2, 3] (iZip2 (aCons (eVar 0) (aCons (eVar 1) aNil))) (gT (gsCons (gN 2) (gsCons (gN 3) gsNil))) tYesD (eCall F_difference (aCons (eVar 2) (aCons (eVar 3) aNil)))) aNil)))
noncomputable def F_less_row : FnD := mkF false 4 2 G_less_row
/-! reduced -/
noncomputable def G_reduced : MS := (sSeq (sParN [1, 2] (aCons (eLcM [7] (iSeq (eVar 0)) (gN 7) tYesD (eCallB (d1 dTuple) (aCons (eVar 7) aNil))) (aCons (eLstM aNil) aNil)))
    (sSeq (sSet 3 (eIf (tVal (eOp dNe (eVar 1) (eLst aNil))) (eLen (eIx (eVar 1) (eC (.int 0)))) (eC (.int 0))))
    (sSeq (sFor (iRng rangeOf1 (aCons (eVar 3) aNil)) (gN 4) (sSeq (sSet 5 (eLc [7] (iRng rangeOf1 (aCons (eLen (eVar 1)) aNil)) (gN 7) (tVal (eOp dNe (eIx (eIx (eVar 1) (eVar 7)) (eVar 4)) (eC (.tuple [(.int 0), (.int 1)])))) (eVar 7)))
    (sIf (tVal (eOp dNe (eVar 5) (eLst aNil))) (sSeq (sSet 6 (eLM gPopAt (eVar 1) (aCons (eIx (eVar 5) (eC (.int 0))) aNil)))
    (sSeq (sSet 6 (eCall F_times_row (aCons (eVar 6) (aCons (eCall F_quotient (aCons (eK [1, 1]) (aCons (eIx (eVar 6) (eVar 4)) aNil))) aNil))))
    (sSeq (sSet 1 (eLcM [7] (iSeq (eVar 1)) (gN 7) tYesD (eCall F_less_row (aCons (eVar 7) (aCons (eCall F_times_row (aCons (eVar 6) (aCons (eIx (eVar 7) (eVar 4)) aNil))) aNil)))))
    (sExpr (eLM gAppend (eVar 2) (aCons (eVar 6) aNil)))))) sNext)))
    (sRet (eVar 2)))))
noncomputable def F_reduced : FnD := mkF false 8 1 G_reduced
/-! is_question -/
noncomputable def G_is_question : MS := (sSeq (sIf (tOrD (tNotD (tVal (eCall F_is_pair (aCons (eVar 1) aNil)))) (tOrD (tNotD (tVal (eCall F_are_integers (aCons (eIx (eVar 1) (eC (.int 0))) aNil)))) (tNotD (tVal (eCall F_is_integer (aCons (eIx (eVar 1) (eC (.int 1))) aNil)))))) (sRet (eC (.bool false))) sNext)
    (sRet ((eAnd (eOp dEq (eLen (eIx (eVar 1) (eC (.int 0)))) (eVar 0)) (eCallB (d1 dAny) (aCons (eLc [2] (iSeq (eIx (eVar 1) (eC (.int 0)))) (gN 2) tYesD (eOp dNe (eVar 2) (eC (.int 0)))) aNil))))))
noncomputable def F_is_question : FnD := mkF false 3 2 G_is_question
/-! row_of_question -/
noncomputable def G_row_of_question : MS := (sRet (eOp dAdd (eIx (eVar 0) (eC (.int 0))) (eTup (aCons (eIx (eVar 0) (eC (.int 1))) aNil))))
noncomputable def F_row_of_question : FnD := mkF false 1 1 G_row_of_question
/-! ground_of -/
noncomputable def G_ground_of : MS := (sSeq (sSet 1 (eCall F_divided (aCons (eCall F_row_of_question (aCons (eVar 0) aNil)) aNil)))
    (sSeq (sSet 2 (eIx (eLc [3] (iSeq (eVar 1)) (gN 3) (tVal (eOp dNe (eVar 3) (eC (.int 0)))) (eVar 3)) (eC (.int 0))))
    (sRet (eIf (tVal (eOp (dInt2 (gCmp fun i j => decide (j < i))) (eVar 2) (eC (.int 0)))) (eVar 1) (eCallB (d1 dTuple) (aCons (eLc [3] (iSeq (eVar 1)) (gN 3) tYesD (eUn dNeg (eVar 3))) aNil))))))
noncomputable def F_ground_of : FnD := mkF false 4 1 G_ground_of
/-! is_book -/
noncomputable def G_is_book : MS := (sSeq (sIf (tOrD (tNotD (tVal (eCall F_is_pair (aCons (eVar 0) aNil)))) (tOrD (tNotD (tVal (eCall F_is_integer (aCons (eIx (eVar 0) (eC (.int 0))) aNil)))) (tOrD (tVal (eOp (dInt2 (gCmp fun i j => decide (i < j))) (eIx (eVar 0) (eC (.int 0))) (eC (.int 1)))) (tNotD (tVal (eIsi isTuple (eIx (eVar 0) (eC (.int 1))))))))) (sRet (eC (.bool false))) sNext)
    (sSeq (sIf (tNotD (tVal (eCallB (d1 dAll) (aCons (eLc [1] (iSeq (eIx (eVar 0) (eC (.int 1)))) (gN 1) tYesD (eCall F_is_question (aCons (eIx (eVar 0) (eC (.int 0))) (aCons (eVar 1) aNil)))) aNil)))) (sRet (eC (.bool false))) sNext)
    (sRet (eOp dEq (eLen (eDcM true [1] (iSeq (eIx (eVar 0) (eC (.int 1)))) (gN 1) tYesD (eCall F_ground_of (aCons (eVar 1) aNil)) (eC (.bool true)))) (eLen (eIx (eVar 0) (eC (.int 1))))))))
noncomputable def F_is_book : FnD := mkF false 2 1 G_is_book
/-! check_book -/
noncomputable def G_check_book : MS := (sIf (tNotD (tVal (eCall F_is_book (aCons (eVar 0) aNil)))) (sRaise "InvalidBook" (eVar 0)) sNext)
noncomputable def F_check_book : FnD := mkF false 1 1 G_check_book
/-! check_index -/
noncomputable def G_check_index : MS := (sIf (tOrD (tNotD (tVal (eCall F_is_integer (aCons (eVar 1) aNil)))) (tNotD (tVal (eChain (dInt2 (gCmp fun i j => decide (i ≤ j))) (dInt2 (gCmp fun i j => decide (i < j))) (eC (.int 0)) (eVar 1) (eLen (eIx (eVar 0) (eC (.int 1)))))))) (sRaise "InvalidIndex" (eVar 1)) sNext)
noncomputable def F_check_index : FnD := mkF false 2 2 G_check_index
/-! check_point -/
noncomputable def G_check_point : MS := (sIf (tNotD (tVal (eCall F_are_numbers (aCons (eVar 1) (aCons (eVar 0) aNil))))) (sRaise "InvalidPoint" (eVar 1)) sNext)
noncomputable def F_check_point : FnD := mkF false 2 2 G_check_point
/-! without_of -/
noncomputable def G_without_of : MS := (sSeq (sAsg (eVar 0) (gT (gsCons (gN 2) (gsCons (gN 3) gsNil))))
    (sRet (eTup (aCons (eVar 2) (aCons (eOp dAdd (eSl (eVar 3) oNone (oSome (eVar 1))) (eSl (eVar 3) (oSome (eOp dAdd (eVar 1) (eC (.int 1)))) oNone)) aNil)))))
noncomputable def F_without_of : FnD := mkF false 4 2 G_without_of
/-! without -/
noncomputable def G_without : MS := (sSeq (sExpr (eCall F_check_book (aCons (eVar 0) aNil)))
    (sSeq (sExpr (eCall F_check_index (aCons (eVar 0) (aCons (eVar 1) aNil))))
    (sRet (eCall F_without_of (aCons (eVar 0) (aCons (eVar 1) aNil))))))
noncomputable def F_without : FnD := mkF false 2 2 G_without
/-! turned_question -/
noncomputable def G_turned_question : MS := (sSeq (sAsg (eVar 0) (gT (gsCons (gN 1) (gsCons (gN 2) gsNil))))
    (sRet (eTup (aCons (eCallB (d1 dTuple) (aCons (eLc [3] (iSeq (eVar 1)) (gN 3) tYesD (eUn dNeg (eVar 3))) aNil)) (aCons (eUn dNeg (eVar 2)) aNil)))))
noncomputable def F_turned_question : FnD := mkF false 4 1 G_turned_question
/-! turned -/
noncomputable def G_turned : MS := (sSeq (sExpr (eCall F_check_book (aCons (eVar 0) aNil)))
    (sSeq (sExpr (eCall F_check_index (aCons (eVar 0) (aCons (eVar 1) aNil))))
    (sSeq (sAsg (eVar 0) (gT (gsCons (gN 2) (gsCons (gN 3) gsNil))))
    (sRet (eTup (aCons (eVar 2) (aCons (eOp dAdd (eOp dAdd (eSl (eVar 3) oNone (oSome (eVar 1))) (eTup (aCons (eCall F_turned_question (aCons (eIx (eVar 3) (eVar 1)) aNil)) aNil))) (eSl (eVar 3) (oSome (eOp dAdd (eVar 1) (eC (.int 1)))) oNone)) aNil)))))))
noncomputable def F_turned : FnD := mkF false 4 2 G_turned
/-! side_rows -/
noncomputable def G_side_rows : MS := (sRet (eLc [2, 3] (iSeq (eIx (eVar 0) (eC (.int 1)))) (gT (gsCons (gN 2) (gsCons (gN 3) gsNil))) tYesD (eLc [1] (iSeq (eVar 2)) (gN 1) tYesD (eCall F_whole (aCons (eVar 1) aNil)))))
noncomputable def F_side_rows : FnD := mkF false 4 1 G_side_rows
/-! rank_of -/
noncomputable def G_rank_of : MS := (sRet (eLen (eCall F_reduced (aCons (eCall F_side_rows (aCons (eVar 0) aNil)) aNil))))
noncomputable def F_rank_of : FnD := mkF false 1 1 G_rank_of
/-! rank -/
noncomputable def G_rank : MS := (sSeq (sExpr (eCall F_check_book (aCons (eVar 0) aNil)))
    (sRet (eCall F_rank_of (aCons (eVar 0) aNil))))
noncomputable def F_rank : FnD := mkF false 1 1 G_rank
/-! at_once_of -/
noncomputable def G_at_once_of : MS := (sSeq (sSet 1 (eLc [2, 3] (iZip2 (aCons (eCall F_side_rows (aCons (eVar 0) aNil)) (aCons (eIx (eVar 0) (eC (.int 1))) aNil))) (gT (gsCons (gN 2) (gsCons (gN 3) gsNil))) tYesD (eOp dAdd (eVar 2) (eLst (aCons (eCall F_whole (aCons (eIx (eVar 3) (eC (.int 1))) aNil)) aNil)))))
    (sRet (eCallB (d1 dAll) (aCons (eLc [4] (iSeq (eCall F_reduced (aCons (eVar 1) aNil))) (gN 4) tYesD (eOp dNe (eSl (eVar 4) oNone (oSome (eUn dNeg (eC (.int 1))))) (eOp dMul (eTup (aCons (eC (.tuple [(.int 0), (.int 1)])) aNil)) (eIx (eVar 0) (eC (.int 0)))))) aNil))))
noncomputable def F_at_once_of : FnD := mkF false 5 1 G_at_once_of
/-! at_once -/
noncomputable def G_at_once : MS := (sSeq (sExpr (eCall F_check_book (aCons (eVar 0) aNil)))
    (sRet (eCall F_at_once_of (aCons (eVar 0) aNil))))
noncomputable def F_at_once : FnD := mkF false 1 1 G_at_once
/-! answer_of -/
noncomputable def G_answer_of : MS := (sSeq (sAsg (eVar 0) (gT (gsCons (gN 2) (gsCons (gN 3) gsNil))))
    (sRet (eCall F_sign_of (aCons (eIx (eCall F_difference (aCons (eCall F_dot (aCons (eVar 2) (aCons (eVar 1) aNil))) (aCons (eCall F_whole (aCons (eVar 3) aNil)) aNil))) (eC (.int 0))) aNil))))
noncomputable def F_answer_of : FnD := mkF false 4 2 G_answer_of
/-! row_at -/
noncomputable def G_row_at : MS := (sRet (eCallB (d1 dTuple) (aCons (eLc [2] (iSeq (eIx (eVar 0) (eC (.int 1)))) (gN 2) tYesD (eCall F_answer_of (aCons (eVar 2) (aCons (eVar 1) aNil)))) aNil)))
noncomputable def F_row_at : FnD := mkF false 3 2 G_row_at
/-! row_of -/
noncomputable def G_row_of : MS := (sSeq (sExpr (eCall F_check_book (aCons (eVar 0) aNil)))
    (sSeq (sExpr (eCall F_check_point (aCons (eIx (eVar 0) (eC (.int 0))) (aCons (eVar 1) aNil))))
    (sRet (eCall F_row_at (aCons (eVar 0) (aCons (eVar 1) aNil))))))
noncomputable def F_row_of : FnD := mkF false 2 2 G_row_of
/-! _law_deck -/
noncomputable def G__law_deck : MS := (sSeq (sSet 2 (eC (.int 0)))
    (sSeq (sIf (tVal (eOp (dInt2 (gCmp fun i j => decide (i < j))) (eVar 1) (eLen (eVar 0)))) (sSet 2 (eIx (eVar 0) (eVar 1))) sNext)
    (sSeq (sSet 3 (eOp (dInt2 gMod) (eCallB (d1 dInt) (aCons (eOp dAdd (eOp dAdd (eVar 2) (eOp dMul (eC (.int 7919)) (eVar 1))) (eC (.int 104729))) aNil)) (eC (.int 2305843009213693951))))
    (sSeq (sSet 3 (eOp (dInt2 gMod) (eCallB (d1 dInt) (aCons (eOp dAdd (eOp dAdd (eOp dMul (eOp dMul (eVar 3) (eVar 3)) (eVar 3)) (eOp dMul (eC (.int 31)) (eVar 1))) (eC (.int 7))) aNil)) (eC (.int 2305843009213693951))))
    (sSeq (sIf (tVal (eOp (dInt2 (gCmp fun i j => decide (i < j))) (eVar 2) (eOp (dInt2 gPow) (eC (.int 10)) (eC (.int 18))))) (sRet (eLstM (aCons (eC (.int 0)) (aCons (eVar 3) aNil)))) sNext)
    (sRet (eLstM (aCons (eOp (dInt2 gSub) (eVar 2) (eOp (dInt2 gPow) (eC (.int 10)) (eC (.int 18)))) (aCons (eVar 3) aNil)))))))))
noncomputable def F__law_deck : FnD := mkF true 4 2 G__law_deck
/-! _law_take -/
noncomputable def G__law_take : MS := (sSeq (sIf (tVal (eOp (dInt2 (gCmp fun i j => decide (j < i))) (eIx (eVar 0) (eC (.int 0))) (eC (.int 0)))) (sSeq (sSet 2 (eOp (dInt2 gMod) (eCallB (d1 dInt) (aCons (eIx (eVar 0) (eC (.int 0))) aNil)) (eVar 1)))
    (sSeq (sSub (eOp (dInt2 gFdivN) (eIx (eVar 0) (eC (.int 0))) (eVar 1)) (eVar 0) (eC (.int 0)))
    (sRet (eVar 2)))) sNext)
    (sSeq (sSub (eOp (dInt2 gMod) (eCallB (d1 dInt) (aCons (eOp dAdd (eOp dMul (eIx (eVar 0) (eC (.int 1))) (eC (.int 6364136223846793005))) (eC (.int 1442695040888963407))) aNil)) (eOp (dInt2 gPow) (eC (.int 2)) (eC (.int 64)))) (eVar 0) (eC (.int 1)))
    (sRet (eOp (dInt2 gMod) (eOp (dInt2 gFdivN) (eIx (eVar 0) (eC (.int 1))) (eOp (dInt2 gPow) (eC (.int 2)) (eC (.int 33)))) (eVar 1)))))
noncomputable def F__law_take : FnD := mkF false 3 2 G__law_take
/-! _law_gcd -/
noncomputable def G__law_gcd : MS := (sSeq (sWhile (tVal (eOp dNe (eVar 1) (eC (.int 0)))) (sParN [0, 1] (aCons (eVar 1) (aCons (eOp (dInt2 gMod) (eCallB (d1 dInt) (aCons (eVar 0) aNil)) (eVar 1)) aNil))))
    (sRet (eVar 0)))
noncomputable def F__law_gcd : FnD := mkF false 2 2 G__law_gcd
/-! _law_pair -/
noncomputable def G__law_pair : MS := (sSeq (sSet 2 (eCall F__law_gcd (aCons (eCallB (d1 dAbs) (aCons (eVar 0) aNil)) (aCons (eCallB (d1 dAbs) (aCons (eVar 1) aNil)) aNil))))
    (sSeq (sIf (tVal (eOp (dInt2 (gCmp fun i j => decide (i < j))) (eVar 1) (eC (.int 0)))) (sSet 2 (eUn dNeg (eVar 2))) sNext)
    (sRet (eTup (aCons (eOp (dInt2 gFdivN) (eVar 0) (eVar 2)) (aCons (eOp (dInt2 gFdivN) (eVar 1) (eVar 2)) aNil))))))
noncomputable def F__law_pair : FnD := mkF false 3 2 G__law_pair
/-! _law_plus -/
noncomputable def G__law_plus : MS := (sRet (eCall F__law_pair (aCons (eOp dAdd (eOp dMul (eIx (eVar 0) (eC (.int 0))) (eIx (eVar 1) (eC (.int 1)))) (eOp dMul (eIx (eVar 1) (eC (.int 0))) (eIx (eVar 0) (eC (.int 1))))) (aCons (eOp dMul (eIx (eVar 0) (eC (.int 1))) (eIx (eVar 1) (eC (.int 1)))) aNil))))
noncomputable def F__law_plus : FnD := mkF false 2 2 G__law_plus
/-! _law_times -/
noncomputable def G__law_times : MS := (sRet (eCall F__law_pair (aCons (eOp dMul (eIx (eVar 0) (eC (.int 0))) (eIx (eVar 1) (eC (.int 0)))) (aCons (eOp dMul (eIx (eVar 0) (eC (.int 1))) (eIx (eVar 1) (eC (.int 1)))) aNil))))
noncomputable def F__law_times : FnD := mkF false 2 2 G__law_times
/-! _law_less -/
noncomputable def G__law_less : MS := (sRet (eOp (dInt2 (gCmp fun i j => decide (i < j))) (eOp (dInt2 gSub) (eOp dMul (eIx (eVar 0) (eC (.int 0))) (eIx (eVar 1) (eC (.int 1)))) (eOp dMul (eIx (eVar 1) (eC (.int 0))) (eIx (eVar 0) (eC (.int 1))))) (eC (.int 0))))
noncomputable def F__law_less : FnD := mkF false 2 2 G__law_less
/-! _law_same -/
noncomputable def G__law_same (Fr : FnD) : MS := (sSeq (sIf (tVal (eIsi isTL (eVar 1))) (sSeq (sIf (tOrD (tVal (eOp dNe (eIsi isTuple (eVar 0)) (eIsi isTuple (eVar 1)))) (tVal (eOp dNe (eIsi isList (eVar 0)) (eIsi isList (eVar 1))))) (sRet (eC (.bool false))) sNext)
    (sSeq (sIf (tVal (eOp dNe (eLen (eVar 0)) (eLen (eVar 1)))) (sRet (eC (.bool false))) sNext)
    (sRet (eOp dEq (eLc [2] (iRng rangeOf1 (aCons (eLen (eVar 1)) aNil)) (gN 2) (tNotD (tVal (eCall Fr (aCons (eIx (eVar 0) (eVar 2)) (aCons (eIx (eVar 1) (eVar 2)) aNil))))) (eVar 2)) (eLst aNil))))) sNext)
    (sSeq (sIf (tVal (eIsN (eVar 1))) (sRet (eIsN (eVar 0))) sNext)
    (sSeq (sIf (tVal (eIsi isStr (eVar 1))) (sRet ((eAnd (eIsi isStr (eVar 0)) (eOp dEq (eVar 0) (eVar 1))))) sNext)
    (sSeq (sIf (tOrD (tVal (eIsi isBool (eVar 1))) (tVal (eIsi isBool (eVar 0)))) (sRet ((eAnd (eIsi isBool (eVar 1)) (eAnd (eIsi isBool (eVar 0)) (eOp dEq (eVar 0) (eVar 1)))))) sNext)
    (sRet ((eAnd (eIsi isInt (eVar 0)) (eOp dEq (eVar 0) (eVar 1)))))))))
noncomputable def R__law_same : Nat → FnD
  | 0 => fun _ _ => .no
  | k + 1 => mkF false 3 2 (G__law_same (R__law_same k))
noncomputable def F__law_same : FnD := R__law_same 12
/-! _law_ground -/
noncomputable def G__law_ground : MS := (sSeq (sSet 1 (eOp dAdd (eIx (eVar 0) (eC (.int 0))) (eTup (aCons (eIx (eVar 0) (eC (.int 1))) aNil))))
    (sSeq (sSet 2 (eC (.int 0)))
    (sSeq (sFor (iSeq (eVar 1)) (gN 3) (sSet 2 (eCall F__law_gcd (aCons (eCallB (d1 dAbs) (aCons (eVar 3) aNil)) (aCons (eVar 2) aNil)))))
    (sSeq (sSet 4 (eIx (eLc [3] (iSeq (eVar 1)) (gN 3) (tVal (eOp dNe (eVar 3) (eC (.int 0)))) (eVar 3)) (eC (.int 0))))
    (sRet (eCallB (d1 dTuple) (aCons (eLc [3] (iSeq (eVar 1)) (gN 3) tYesD (eIf (tVal (eOp (dInt2 (gCmp fun i j => decide (j < i))) (eVar 4) (eC (.int 0)))) (eOp (dInt2 gFdivN) (eVar 3) (eVar 2)) (eOp (dInt2 gFdivN) (eUn dNeg (eVar 3)) (eVar 2)))) aNil)))))))
noncomputable def F__law_ground : FnD := mkF false 5 1 G__law_ground
/-! _law_line -/
noncomputable def G__law_line : MS := (sSeq (sParN [3, 4] (aCons (eIx (eLst (aCons (eC (.int 1)) (aCons (eC (.int 1)) (aCons (eC (.int 2)) (aCons (eC (.int 3)) (aCons (eC (.int 9)) aNil)))))) (eCall F__law_take (aCons (eVar 0) (aCons (eC (.int 5)) aNil)))) (aCons (eCall F__law_take (aCons (eVar 0) (aCons (eC (.int 6)) aNil))) aNil)))
    (sSeq (sSet 5 (eLcM [10] (iRng rangeOf1 (aCons (eVar 1) aNil)) (gN 10) tYesD (eOp (dInt2 gSub) (eCall F__law_take (aCons (eVar 0) (aCons (eOp dAdd (eOp dMul (eC (.int 2)) (eVar 3)) (eC (.int 1))) aNil))) (eVar 3))))
    (sSeq (sSet 6 (eOp (dInt2 gSub) (eCall F__law_take (aCons (eVar 0) (aCons (eOp dAdd (eOp dMul (eC (.int 2)) (eVar 3)) (eC (.int 1))) aNil))) (eVar 3)))
    (sSeq (sIf (tAndD (tVal (eOp dNe (eVar 2) (eLst aNil))) (tVal (eOp (dInt2 (gCmp fun i j => decide (i < j))) (eVar 4) (eC (.int 2))))) (sSeq (sParN [7, 8] (aCons (eIx (eVar 2) (eCall F__law_take (aCons (eVar 0) (aCons (eLen (eVar 2)) aNil)))) (aCons (eIx (eVar 2) (eCall F__law_take (aCons (eVar 0) (aCons (eLen (eVar 2)) aNil)))) aNil)))
    (sSeq (sSet 9 (eIx (eLst (aCons (eTup (aCons (eC (.int 1)) (aCons (eC (.int 0)) aNil))) (aCons (eTup (aCons (eC (.int 2)) (aCons (eC (.int 0)) aNil))) (aCons (eTup (aCons (eUn dNeg (eC (.int 1))) (aCons (eC (.int 0)) aNil))) (aCons (eTup (aCons (eC (.int 1)) (aCons (eC (.int 1)) aNil))) (aCons (eTup (aCons (eC (.int 1)) (aCons (eUn dNeg (eC (.int 1))) aNil))) (aCons (eTup (aCons (eC (.int 2)) (aCons (eUn dNeg (eC (.int 1))) aNil))) aNil))))))) (eCall F__law_take (aCons (eVar 0) (aCons (eC (.int 6)) aNil)))))
    (sSeq (sSet 5 (eLcM [11, 12] (iZip2 (aCons (eIx (eVar 7) (eC (.int 0))) (aCons (eIx (eVar 8) (eC (.int 0))) aNil))) (gT (gsCons (gN 11) (gsCons (gN 12) gsNil))) tYesD (eOp dAdd (eOp dMul (eIx (eVar 9) (eC (.int 0))) (eVar 11)) (eOp dMul (eIx (eVar 9) (eC (.int 1))) (eVar 12)))))
    (sSet 6 (eIx (eLst (aCons (eVar 6) (aCons (eOp dAdd (eOp dMul (eIx (eVar 9) (eC (.int 0))) (eIx (eVar 7) (eC (.int 1)))) (eOp dMul (eIx (eVar 9) (eC (.int 1))) (eIx (eVar 8) (eC (.int 1))))) (aCons (eC (.int 0)) aNil)))) (eCall F__law_take (aCons (eVar 0) (aCons (eC (.int 3)) aNil)))))))) sNext)
    (sSeq (sIf (tVal (eOp dEq (eVar 4) (eC (.int 2)))) (sSet 6 (eC (.int 0))) sNext)
    (sSeq (sIf (tOrD (tVal (eOp (dInt2 (gCmp fun i j => decide (j < i))) (eCallB (d1 dMax) (aCons (eOp dAdd (eLc [11] (iSeq (eVar 5)) (gN 11) tYesD (eCallB (d1 dAbs) (aCons (eVar 11) aNil))) (eLst (aCons (eCallB (d1 dAbs) (aCons (eVar 6) aNil)) aNil))) aNil)) (eC (.int 9)))) (tVal (eOp dEq (eVar 5) (eOp dMul (eLst (aCons (eC (.int 0)) aNil)) (eVar 1))))) (sSeq (sSet 5 (eOpM dMulM (eLst (aCons (eC (.int 0)) aNil)) (eVar 1)))
    (sSeq (sSub (eIx (eLst (aCons (eC (.int 1)) (aCons (eUn dNeg (eC (.int 1))) (aCons (eC (.int 2)) aNil)))) (eCall F__law_take (aCons (eVar 0) (aCons (eC (.int 3)) aNil)))) (eVar 5) (eCall F__law_take (aCons (eVar 0) (aCons (eVar 1) aNil))))
    (sSet 6 (eOp (dInt2 gSub) (eCall F__law_take (aCons (eVar 0) (aCons (eC (.int 7)) aNil))) (eC (.int 3)))))) sNext)
    (sRet (eTup (aCons (eCallB (d1 dTuple) (aCons (eVar 5) aNil)) (aCons (eVar 6) aNil))))))))))
noncomputable def F__law_line : FnD := mkF false 13 3 G__law_line
/-! _law_page -/
noncomputable def G__law_page : MS := (sSeq (sParN [2, 3, 4] (aCons (eOp dAdd (eC (.int 1)) (eCall F__law_take (aCons (eVar 0) (aCons (eC (.int 3)) aNil)))) (aCons (eLstM aNil) (aCons (eDicM true) aNil))))
    (sSeq (sFor (iRng rangeOf1 (aCons (eCall F__law_take (aCons (eVar 0) (aCons (eOp dAdd (eVar 1) (eC (.int 1))) aNil))) aNil)) (gN 5) (sSeq (sSet 6 (eCall F__law_line (aCons (eVar 0) (aCons (eVar 2) (aCons (eVar 3) aNil)))))
    (sIf (tVal (eDIn true (eCall F__law_ground (aCons (eVar 6) aNil)) (eVar 4))) (sSeq (sDPut (eC (.bool true)) (eVar 4) (eCall F__law_ground (aCons (eVar 6) aNil)))
    (sExpr (eLM gAppend (eVar 3) (aCons (eVar 6) aNil)))) sNext)))
    (sRet (eTup (aCons (eVar 2) (aCons (eCallB (d1 dTuple) (aCons (eVar 3) aNil)) aNil))))))
noncomputable def F__law_page : FnD := mkF false 7 2 G__law_page
/-! _law_through -/
noncomputable def G__law_through : MS := (sSeq (sSet 2 (eLc [7] (iRng rangeOf1 (aCons (eIx (eVar 1) (eC (.int 0))) aNil)) (gN 7) tYesD (eOp (dInt2 gSub) (eCall F__law_take (aCons (eVar 0) (aCons (eC (.int 3)) aNil))) (eC (.int 1)))))
    (sSeq (sParN [3, 4] (aCons (eLstM aNil) (aCons (eDicM true) aNil)))
    (sSeq (sFor (iSeq (eIx (eVar 1) (eC (.int 1)))) (gN 5) (sSeq (sSet 6 (eCallB (d1 dSum) (aCons (eLc [8, 9] (iZip2 (aCons (eIx (eVar 5) (eC (.int 0))) (aCons (eVar 2) aNil))) (gT (gsCons (gN 8) (gsCons (gN 9) gsNil))) tYesD (eOp dMul (eVar 8) (eVar 9))) aNil)))
    (sIf (tAndD (tVal (eOp (dInt2 (gCmp fun i j => decide (i < j))) (eCallB (d1 dAbs) (aCons (eVar 6) aNil)) (eC (.int 10)))) (tVal (eDIn true (eCall F__law_ground (aCons (eTup (aCons (eIx (eVar 5) (eC (.int 0))) (aCons (eVar 6) aNil))) aNil)) (eVar 4)))) (sSeq (sDPut (eC (.bool true)) (eVar 4) (eCall F__law_ground (aCons (eTup (aCons (eIx (eVar 5) (eC (.int 0))) (aCons (eVar 6) aNil))) aNil)))
    (sExpr (eLM gAppend (eVar 3) (aCons (eTup (aCons (eIx (eVar 5) (eC (.int 0))) (aCons (eVar 6) aNil))) aNil)))) sNext)))
    (sRet (eTup (aCons (eIx (eVar 1) (eC (.int 0))) (aCons (eCallB (d1 dTuple) (aCons (eVar 3) aNil)) aNil)))))))
noncomputable def F__law_through : FnD := mkF false 10 2 G__law_through
/-! _law_web -/
noncomputable def G__law_web : MS := (sSeq (sParN [1, 2] (aCons (eOp dAdd (eC (.int 2)) (eCall F__law_take (aCons (eVar 0) (aCons (eC (.int 3)) aNil)))) (aCons (eLstM aNil) aNil)))
    (sSeq (sFor (iRng rangeOf1 (aCons (eVar 1) aNil)) (gN 3) (sFor (iRng rangeOf2 (aCons (eOp dAdd (eVar 3) (eC (.int 1))) (aCons (eVar 1) aNil))) (gN 4) (sIf (tVal (eOp (dInt2 (gCmp fun i j => decide (j < i))) (eCall F__law_take (aCons (eVar 0) (aCons (eC (.int 4)) aNil))) (eC (.int 0)))) (sExpr (eLM gAppend (eVar 2) (aCons (eTup (aCons (eCallB (d1 dTuple) (aCons (eLc [5] (iRng rangeOf1 (aCons (eVar 1) aNil)) (gN 5) tYesD (eOp (dInt2 gSub) (eCallB (d1 dInt) (aCons (eOp dEq (eVar 5) (eVar 3)) aNil)) (eCallB (d1 dInt) (aCons (eOp dEq (eVar 5) (eVar 4)) aNil)))) aNil)) (aCons (eC (.int 0)) aNil))) aNil))) sNext)))
    (sRet (eTup (aCons (eVar 1) (aCons (eCallB (d1 dTuple) (aCons (eVar 2) aNil)) aNil))))))
noncomputable def F__law_web : FnD := mkF false 6 1 G__law_web
/-! _law_least -/
noncomputable def G__law_least (Fr : FnD) : MS := (sSeq (sIf (tVal (eOp dEq (eVar 0) (eLst aNil))) (sRet (eC (.int 1))) sNext)
    (sSeq (sParN [1, 2] (aCons (eC (.int 0)) (aCons (eC (.int 1)) aNil)))
    (sSeq (sFor (iRng rangeOf1 (aCons (eLen (eVar 0)) aNil)) (gN 3) (sSeq (sSet 4 (eLc [5] (iSeq (eSl (eVar 0) (oSome (eC (.int 1))) oNone)) (gN 5) tYesD (eOp dAdd (eSl (eVar 5) oNone (oSome (eVar 3))) (eSl (eVar 5) (oSome (eOp dAdd (eVar 3) (eC (.int 1)))) oNone))))
    (sSeq (sSet 1 (eOp dAdd (eVar 1) (eOp dMul (eOp dMul (eVar 2) (eIx (eIx (eVar 0) (eC (.int 0))) (eVar 3))) (eCall Fr (aCons (eVar 4) aNil)))))
    (sSet 2 (eUn dNeg (eVar 2))))))
    (sRet (eVar 1)))))
noncomputable def R__law_least : Nat → FnD
  | 0 => fun _ _ => .no
  | k + 1 => mkF false 6 1 (G__law_least (R__law_least k))
noncomputable def F__law_least : FnD := R__law_least 12
/-! _law_picks -/
noncomputable def G__law_picks : MS := (sSeq (sSet 2 (eLst (aCons (eLst aNil) aNil)))
    (sSeq (sFor (iRng rangeOf1 (aCons (eVar 1) aNil)) (gN 3) (sSeq (sSet 4 (eLst aNil))
    (sSeq (sFor (iSeq (eVar 2)) (gN 5) (sSet 4 (eOp dAdd (eVar 4) (eLc [6] (iRng rangeOf2 (aCons (eIf (tVal (eOp dNe (eVar 5) (eLst aNil))) (eOp dAdd (eIx (eVar 5) (eUn dNeg (eC (.int 1)))) (eC (.int 1))) (eC (.int 0))) (aCons (eVar 0) aNil))) (gN 6) tYesD (eOp dAdd (eVar 5) (eLst (aCons (eVar 6) aNil)))))))
    (sSet 2 (eVar 4)))))
    (sRet (eVar 2))))
noncomputable def F__law_picks : FnD := mkF false 7 2 G__law_picks
/-! _law_rank -/
noncomputable def G__law_rank : MS := (sSeq (sFor (iRng rangeOfD (aCons (eCallB (d2 gMin2) (aCons (eLen (eVar 0)) (aCons (eVar 1) aNil))) (aCons (eC (.int 0)) (aCons (eUn dNeg (eC (.int 1))) aNil)))) (gN 2) (sFor (iSeq (eCall F__law_picks (aCons (eLen (eVar 0)) (aCons (eVar 2) aNil)))) (gN 3) (sFor (iSeq (eCall F__law_picks (aCons (eVar 1) (aCons (eVar 2) aNil)))) (gN 4) (sIf (tVal (eOp dNe (eCall F__law_least (aCons (eLc [6] (iSeq (eVar 3)) (gN 6) tYesD (eLc [5] (iSeq (eVar 4)) (gN 5) tYesD (eIx (eIx (eVar 0) (eVar 6)) (eVar 5)))) aNil)) (eC (.int 0)))) (sRet (eVar 2)) sNext))))
    (sRet (eC (.int 0))))
noncomputable def F__law_rank : FnD := mkF false 7 2 G__law_rank
/-! _law_less_row -/
noncomputable def G__law_less_row : MS := (sSeq (sSet 3 (eCall F__law_times (aCons (eTup (aCons (eUn dNeg (eIx (eIx (eVar 0) (eVar 2)) (eC (.int 0)))) (aCons (eIx (eIx (eVar 0) (eVar 2)) (eC (.int 1))) aNil))) (aCons (eCall F__law_pair (aCons (eIx (eIx (eVar 1) (eVar 2)) (eC (.int 1))) (aCons (eIx (eIx (eVar 1) (eVar 2)) (eC (.int 0))) aNil))) aNil))))
    (sRet (eLc [4, 5] (iZip2 (aCons (eVar 0) (aCons (eVar 1) aNil))) (gT (gsCons (gN 4) (gsCons (gN 5) gsNil))) tYesD (eCall F__law_plus (aCons (eVar 4) (aCons (eCall F__law_times (aCons (eVar 3) (aCons (eVar 5) aNil))) aNil))))))
noncomputable def F__law_less_row : FnD := mkF false 6 3 G__law_less_row
/-! _law_meeting -/
noncomputable def G__law_meeting : MS := (sSeq (sParN [1, 2, 3] (aCons (eIx (eVar 0) (eC (.int 0))) (aCons (eLc [11] (iSeq (eIx (eVar 0) (eC (.int 1)))) (gN 11) tYesD (eOp dAdd (eLc [10] (iSeq (eIx (eVar 11) (eC (.int 0)))) (gN 10) tYesD (eTup (aCons (eVar 10) (aCons (eC (.int 1)) aNil)))) (eLst (aCons (eTup (aCons (eIx (eVar 11) (eC (.int 1))) (aCons (eC (.int 1)) aNil))) aNil)))) (aCons (eLstM aNil) aNil))))
    (sSeq (sFor (iRng rangeOf1 (aCons (eVar 1) aNil)) (gN 4) (sSeq (sSet 5 (eLc [12] (iSeq (eVar 2)) (gN 12) (tVal (eOp dNe (eIx (eIx (eVar 12) (eVar 4)) (eC (.int 0))) (eC (.int 0)))) (eVar 12)))
    (sIf (tVal (eOp dNe (eVar 5) (eLst aNil))) (sSeq (sSet 6 (eIx (eVar 5) (eC (.int 0))))
    (sSeq (sExpr (eLM gAppend (eVar 3) (aCons (eTup (aCons (eVar 4) (aCons (eVar 6) aNil))) aNil)))
    (sSet 2 (eLc [12] (iSeq (eVar 2)) (gN 12) tYesD (eCall F__law_less_row (aCons (eVar 12) (aCons (eVar 6) (aCons (eVar 4) aNil)))))))) sNext)))
    (sSeq (sSet 7 (eOpM dMulM (eLst (aCons (eTup (aCons (eC (.int 0)) (aCons (eC (.int 1)) aNil))) aNil)) (eVar 1)))
    (sSeq (sFor (iSeq (eRev (eVar 3))) (gT (gsCons (gN 4) (gsCons (gN 6) gsNil))) (sSeq (sSet 8 (eIx (eVar 6) (eVar 1)))
    (sSeq (sFor (iRng rangeOf1 (aCons (eVar 1) aNil)) (gN 9) (sIf (tVal (eOp dNe (eVar 9) (eVar 4))) (sSet 8 (eCall F__law_plus (aCons (eVar 8) (aCons (eCall F__law_times (aCons (eTup (aCons (eUn dNeg (eIx (eIx (eVar 6) (eVar 9)) (eC (.int 0)))) (aCons (eIx (eIx (eVar 6) (eVar 9)) (eC (.int 1))) aNil))) (aCons (eIx (eVar 7) (eVar 9)) aNil))) aNil)))) sNext))
    (sSub (eCall F__law_times (aCons (eVar 8) (aCons (eCall F__law_pair (aCons (eIx (eIx (eVar 6) (eVar 4)) (eC (.int 1))) (aCons (eIx (eIx (eVar 6) (eVar 4)) (eC (.int 0))) aNil))) aNil))) (eVar 7) (eVar 4)))))
    (sRet (eCallB (d1 dTuple) (aCons (eVar 7) aNil)))))))
noncomputable def F__law_meeting : FnD := mkF false 13 1 G__law_meeting
/-! _law_right -/
noncomputable def G__law_right : MS := (sSeq (sAsg (eVar 1) (gT (gsCons (gN 2) (gsCons (gN 3) gsNil))))
    (sSeq (sSet 4 (eCall F__law_rank (aCons (eLc [8] (iSeq (eVar 3)) (gN 8) tYesD (eCallB (d1 dList) (aCons (eIx (eVar 8) (eC (.int 0))) aNil))) (aCons (eVar 2) aNil))))
    (sSeq (sSet 5 (eOp dEq (eCall F__law_rank (aCons (eLc [8] (iSeq (eVar 3)) (gN 8) tYesD (eOp dAdd (eCallB (d1 dList) (aCons (eIx (eVar 8) (eC (.int 0))) aNil)) (eLst (aCons (eIx (eVar 8) (eC (.int 1))) aNil)))) (aCons (eOp dAdd (eVar 2) (eC (.int 1))) aNil))) (eVar 4)))
    (sSeq (sIf (tNotD (tVal (eCall F__law_same (aCons (eLst (aCons (eCall F_rank (aCons (eVar 1) aNil)) (aCons (eCallK F_rank [0] aNil (aCons (eVar 1) aNil)) (aCons (eCall F_at_once (aCons (eVar 1) aNil)) (aCons (eCallK F_at_once [0] aNil (aCons (eVar 1) aNil)) aNil))))) (aCons (eLst (aCons (eVar 4) (aCons (eVar 4) (aCons (eVar 5) (aCons (eVar 5) aNil))))) aNil))))) (sRet (eC (.bool false))) sNext)
    (sSeq (sIf (tAndD (tVal (eVar 5)) (tNotD (tVal (eCall F__law_same (aCons (eCall F_row_of (aCons (eVar 1) (aCons (eCall F__law_meeting (aCons (eVar 1) aNil)) aNil))) (aCons (eOp dMul (eTup (aCons (eC (.int 0)) aNil)) (eLen (eVar 3))) aNil)))))) (sRet (eC (.bool false))) sNext)
    (sSeq (sIf (tVal (eOp dEq (eVar 3) (eTup aNil))) (sRet (eC (.bool true))) sNext)
    (sSeq (sSet 6 (eCall F__law_take (aCons (eVar 0) (aCons (eLen (eVar 3)) aNil))))
    (sSeq (sSet 7 (eCall F_rank (aCons (eCall F_without (aCons (eVar 1) (aCons (eVar 6) aNil))) aNil)))
    (sRet ((eAnd (eOp (dIn false) (eVar 7) (eLst (aCons (eOp (dInt2 gSub) (eVar 4) (eC (.int 1))) (aCons (eVar 4) aNil)))) (eCall F__law_same (aCons (eLst (aCons (eCall F_rank (aCons (eCall F_turned (aCons (eVar 1) (aCons (eVar 6) aNil))) aNil)) (aCons (eCall F_at_once (aCons (eCall F_turned (aCons (eVar 1) (aCons (eVar 6) aNil))) aNil)) aNil))) (aCons (eLst (aCons (eVar 4) (aCons (eVar 5) aNil))) aNil))))))))))))))
noncomputable def F__law_right : FnD := mkF false 9 2 G__law_right
/-! law -/
noncomputable def G_law : MS := (sSeq (sFor (iRng rangeOf1 (aCons (eCallB (d2 gMax2) (aCons (eC (.int 2)) (aCons (eCallB (d2 gMin2) (aCons (eLen (eVar 0)) (aCons (eC (.int 12)) aNil))) aNil))) aNil)) (gN 1) (sSeq (sSet 2 (eCall F__law_deck (aCons (eVar 0) (aCons (eVar 1) aNil))))
    (sSeq (sSet 3 (eCall F__law_page (aCons (eVar 2) (aCons (eC (.int 6)) aNil))))
    (sSeq (sIf (tOrD (tNotD (tVal (eCall F__law_right (aCons (eVar 2) (aCons (eVar 3) aNil))))) (tNotD (tVal (eCall F__law_right (aCons (eVar 2) (aCons (eCall F__law_through (aCons (eVar 2) (aCons (eVar 3) aNil))) aNil)))))) (sRet (eC (.bool false))) sNext)
    (sIf (tAndD (tVal (eOp (dInt2 (gCmp fun i j => decide (i < j))) (eVar 1) (eC (.int 2)))) (tNotD (tVal (eCall F__law_right (aCons (eVar 2) (aCons (eCall F__law_web (aCons (eVar 2) aNil)) aNil)))))) (sRet (eC (.bool false))) sNext)))))
    (sRet (eC (.bool true))))
noncomputable def F_law : FnD := mkF false 4 1 G_law
end W_k03

set_option Elab.async false
set_option linter.all false
set_option maxRecDepth 100000
set_option maxHeartbeats 4000000
namespace W_k03
open PySem PySem.Spec PyProof.Rows L2 DL
theorem sc_is_integer : FnScope ["value"] ["value"] Z_is_integer := ⟨rfl, rfl, rfl, by decide +kernel, rfl, by decide +kernel, by decide +kernel⟩
theorem fn_is_integer {P : Program} {w : World} {K : PySem.W.Frag} {mg : Str → Option Value} {base : Heap} (T : TopF K mg) : FnF P w K mg base "is_integer" A_is_integer B_is_integer Z_is_integer ["value"] 1 F_is_integer := by
  obtain ⟨fd, hm, FD⟩ := T.d_is_integer.ex
  exact fn_mk (N := ["value"]) false hm FD sc_is_integer (FD.bindsN fun _ _ _ _ _ _ us hl => match us, hl with | [_], _ => rfl) fun cdv A outer s H E C =>
    (show SSs _ _ G_is_integer from (ss_one (ss_ret (ee_and (ee_isi hk_int T.b_isinstance T.b_int (by decide +kernel) (ee_var 0)) (ee_one (ee_not (ee_isi hk_bool T.b_isinstance T.b_bool (by decide +kernel) (ee_var 0))))))))
theorem sc_is_pair : FnScope ["value"] ["value"] Z_is_pair := ⟨rfl, rfl, rfl, by decide +kernel, rfl, by decide +kernel, by decide +kernel⟩
theorem fn_is_pair {P : Program} {w : World} {K : PySem.W.Frag} {mg : Str → Option Value} {base : Heap} (T : TopF K mg) : FnF P w K mg base "is_pair" A_is_pair B_is_pair Z_is_pair ["value"] 1 F_is_pair := by
  obtain ⟨fd, hm, FD⟩ := T.d_is_pair.ex
  exact fn_mk (N := ["value"]) false hm FD sc_is_pair (FD.bindsN fun _ _ _ _ _ _ us hl => match us, hl with | [_], _ => rfl) fun cdv A outer s H E C =>
    (show SSs _ _ G_is_pair from (ss_one (ss_ret (ee_and (ee_isi hk_tuple T.b_isinstance T.b_tuple (by decide +kernel) (ee_var 0)) (ee_one (ee_cmp (op_eqD C.room.units) od_eq (ee_len T.b_len (ee_var 0)) (ee_int)))))))
theorem sc_are_integers : FnScope ["value", "a"] ["value"] Z_are_integers := ⟨rfl, rfl, rfl, by decide +kernel, rfl, by decide +kernel, by decide +kernel⟩
theorem fn_are_integers {P : Program} {w : World} {K : PySem.W.Frag} {mg : Str → Option Value} {base : Heap} (T : TopF K mg) : FnF P w K mg base "are_integers" A_are_integers B_are_integers Z_are_integers ["value"] 2 F_are_integers := by
  obtain ⟨fd, hm, FD⟩ := T.d_are_integers.ex
  exact fn_mk (N := ["value", "a"]) false hm FD sc_are_integers (FD.bindsN fun _ _ _ _ _ _ us hl => match us, hl with | [_], _ => rfl) fun cdv A outer s H E C =>
    (show SSs _ _ G_are_integers from (ss_one (ss_ret (ee_and (ee_isi hk_tuple T.b_isinstance T.b_tuple (by decide +kernel) (ee_var 0)) (ee_one (ee_callB (cr_all C.calm) cd_all T.b_all (by decide +kernel) (ea_cons (ee_lc [("a", 1)] C (ei_seq (ee_var 0)) (by rfl) (fun _ _ _ _ _ => (eg_name 1 C.nd)) (fun _ _ _ _ _ C1 => ets_nil) (fun _ _ _ _ _ C1 => (ee_call (fn_is_integer T) C1 (ea_cons (ee_var 1) ea_nil)))) ea_nil)))))))
theorem sc_lowest : FnScope ["top", "bottom", "common"] ["top", "bottom"] Z_lowest := ⟨rfl, rfl, rfl, by decide +kernel, rfl, by decide +kernel, by decide +kernel⟩
theorem fn_lowest {P : Program} {w : World} {K : PySem.W.Frag} {mg : Str → Option Value} {base : Heap} (T : TopF K mg) : FnF P w K mg base "lowest" A_lowest B_lowest Z_lowest ["top", "bottom"] 1 F_lowest := by
  obtain ⟨fd, hm, FD⟩ := T.d_lowest.ex
  exact fn_mk (N := ["top", "bottom", "common"]) false hm FD sc_lowest (FD.bindsN fun _ _ _ _ _ _ us hl => match us, hl with | [_, _], _ => rfl) fun cdv A outer s H E C =>
    (show SSs _ _ G_lowest from (ss_cons (ss_set 2 C.nd (ee_callFun cr_gcd cd_gcd T.gcd (ea_cons (ee_var 0) (ea_cons (ee_var 1) ea_nil))))
    (ss_cons (ss_if (et_cmp op_lt od_cmp (ee_var 1) (ee_int)) (ss_one (ss_set 2 C.nd (ee_un un_neg ud_neg (ee_var 2)))) (ss_nil))
    (ss_one (ss_ret (ee_tup (ea_cons (ee_op op_fdivNW od_fdiv (ee_var 0) (ee_var 2)) (ea_cons (ee_op op_fdivNW od_fdiv (ee_var 1) (ee_var 2)) ea_nil))))))))
theorem sc_is_number : FnScope ["told"] ["told"] Z_is_number := ⟨rfl, rfl, rfl, by decide +kernel, rfl, by decide +kernel, by decide +kernel⟩
theorem fn_is_number {P : Program} {w : World} {K : PySem.W.Frag} {mg : Str → Option Value} {base : Heap} (T : TopF K mg) : FnF P w K mg base "is_number" A_is_number B_is_number Z_is_number ["told"] 3 F_is_number := by
  obtain ⟨fd, hm, FD⟩ := T.d_is_number.ex
  exact fn_mk (N := ["told"]) false hm FD sc_is_number (FD.bindsN fun _ _ _ _ _ _ us hl => match us, hl with | [_], _ => rfl) fun cdv A outer s H E C =>
    (show SSs _ _ G_is_number from (ss_one (ss_ret (ee_and (ee_call (fn_is_pair T) C (ea_cons (ee_var 0) ea_nil)) (ee_and (ee_call (fn_are_integers T) C (ea_cons (ee_var 0) ea_nil)) (ee_and (ee_cmp op_gt od_cmp (ee_ixS (ee_var 0) (ee_int)) (ee_int)) (ee_one (ee_cmp (op_eqD C.room.units) od_eq (ee_call (fn_lowest T) C (ea_cons (ee_ixS (ee_var 0) (ee_int)) (ea_cons (ee_ixS (ee_var 0) (ee_int)) ea_nil))) (ee_var 0)))))))))
theorem sc_are_numbers : FnScope ["told", "many", "a"] ["told", "many"] Z_are_numbers := ⟨rfl, rfl, rfl, by decide +kernel, rfl, by decide +kernel, by decide +kernel⟩
theorem fn_are_numbers {P : Program} {w : World} {K : PySem.W.Frag} {mg : Str → Option Value} {base : Heap} (T : TopF K mg) : FnF P w K mg base "are_numbers" A_are_numbers B_are_numbers Z_are_numbers ["told", "many"] 4 F_are_numbers := by
  obtain ⟨fd, hm, FD⟩ := T.d_are_numbers.ex
  exact fn_mk (N := ["told", "many", "a"]) false hm FD sc_are_numbers (FD.bindsN fun _ _ _ _ _ _ us hl => match us, hl with | [_, _], _ => rfl) fun cdv A outer s H E C =>
    (show SSs _ _ G_are_numbers from (ss_one (ss_ret (ee_and (ee_isi hk_tuple T.b_isinstance T.b_tuple (by decide +kernel) (ee_var 0)) (ee_and (ee_cmp (op_eqD C.room.units) od_eq (ee_len T.b_len (ee_var 0)) (ee_var 1)) (ee_one (ee_callB (cr_all C.calm) cd_all T.b_all (by decide +kernel) (ea_cons (ee_lc [("a", 2)] C (ei_seq (ee_var 0)) (by rfl) (fun _ _ _ _ _ => (eg_name 2 C.nd)) (fun _ _ _ _ _ C1 => ets_nil) (fun _ _ _ _ _ C1 => (ee_call (fn_is_number T) C1 (ea_cons (ee_var 2) ea_nil)))) ea_nil))))))))
theorem sc_whole : FnScope ["a"] ["a"] Z_whole := ⟨rfl, rfl, rfl, by decide +kernel, rfl, by decide +kernel, by decide +kernel⟩
theorem fn_whole {P : Program} {w : World} {K : PySem.W.Frag} {mg : Str → Option Value} {base : Heap} (T : TopF K mg) : FnF P w K mg base "whole" A_whole B_whole Z_whole ["a"] 1 F_whole := by
  obtain ⟨fd, hm, FD⟩ := T.d_whole.ex
  exact fn_mk (N := ["a"]) false hm FD sc_whole (FD.bindsN fun _ _ _ _ _ _ us hl => match us, hl with | [_], _ => rfl) fun cdv A outer s H E C =>
    (show SSs _ _ G_whole from (ss_one (ss_ret (ee_tup (ea_cons (ee_var 0) (ea_cons (ee_int) ea_nil))))))
theorem sc_sum_of_two : FnScope ["a", "b"] ["a", "b"] Z_sum_of_two := ⟨rfl, rfl, rfl, by decide +kernel, rfl, by decide +kernel, by decide +kernel⟩
theorem fn_sum_of_two {P : Program} {w : World} {K : PySem.W.Frag} {mg : Str → Option Value} {base : Heap} (T : TopF K mg) : FnF P w K mg base "sum_of_two" A_sum_of_two B_sum_of_two Z_sum_of_two ["a", "b"] 2 F_sum_of_two := by
  obtain ⟨fd, hm, FD⟩ := T.d_sum_of_two.ex
  exact fn_mk (N := ["a", "b"]) false hm FD sc_sum_of_two (FD.bindsN fun _ _ _ _ _ _ us hl => match us, hl with | [_, _], _ => rfl) fun cdv A outer s H E C =>
    (show SSs _ _ G_sum_of_two from (ss_one (ss_ret (ee_call (fn_lowest T) C (ea_cons (ee_op op_addD od_add (ee_op op_mulD od_mul (ee_ixS (ee_var 0) (ee_int)) (ee_ixS (ee_var 1) (ee_int))) (ee_op op_mulD od_mul (ee_ixS (ee_var 1) (ee_int)) (ee_ixS (ee_var 0) (ee_int)))) (ea_cons (ee_op op_mulD od_mul (ee_ixS (ee_var 0) (ee_int)) (ee_ixS (ee_var 1) (ee_int))) ea_nil))))))
theorem sc_opposite : FnScope ["a"] ["a"] Z_opposite := ⟨rfl, rfl, rfl, by decide +kernel, rfl, by decide +kernel, by decide +kernel⟩
theorem fn_opposite {P : Program} {w : World} {K : PySem.W.Frag} {mg : Str → Option Value} {base : Heap} (T : TopF K mg) : FnF P w K mg base "opposite" A_opposite B_opposite Z_opposite ["a"] 1 F_opposite := by
  obtain ⟨fd, hm, FD⟩ := T.d_opposite.ex
  exact fn_mk (N := ["a"]) false hm FD sc_opposite (FD.bindsN fun _ _ _ _ _ _ us hl => match us, hl with | [_], _ => rfl) fun cdv A outer s H E C =>
    (show SSs _ _ G_opposite from (ss_one (ss_ret (ee_tup (ea_cons (ee_un un_neg ud_neg (ee_ixS (ee_var 0) (ee_int))) (ea_cons (ee_ixS (ee_var 0) (ee_int)) ea_nil))))))
theorem sc_difference : FnScope ["a", "b"] ["a", "b"] Z_difference := ⟨rfl, rfl, rfl, by decide +kernel, rfl, by decide +kernel, by decide +kernel⟩
theorem fn_difference {P : Program} {w : World} {K : PySem.W.Frag} {mg : Str → Option Value} {base : Heap} (T : TopF K mg) : FnF P w K mg base "difference" A_difference B_difference Z_difference ["a", "b"] 3 F_difference := by
  obtain ⟨fd, hm, FD⟩ := T.d_difference.ex
  exact fn_mk (N := ["a", "b"]) false hm FD sc_difference (FD.bindsN fun _ _ _ _ _ _ us hl => match us, hl with | [_, _], _ => rfl) fun cdv A outer s H E C =>
    (show SSs _ _ G_difference from (ss_one (ss_ret (ee_call (fn_sum_of_two T) C (ea_cons (ee_var 0) (ea_cons (ee_call (fn_opposite T) C (ea_cons (ee_var 1) ea_nil)) ea_nil))))))
theorem sc_product : FnScope ["a", "b"] ["a", "b"] Z_product := ⟨rfl, rfl, rfl, by decide +kernel, rfl, by decide +kernel, by decide +kernel⟩
theorem fn_product {P : Program} {w : World} {K : PySem.W.Frag} {mg : Str → Option Value} {base : Heap} (T : TopF K mg) : FnF P w K mg base "product" A_product B_product Z_product ["a", "b"] 2 F_product := by
  obtain ⟨fd, hm, FD⟩ := T.d_product.ex
  exact fn_mk (N := ["a", "b"]) false hm FD sc_product (FD.bindsN fun _ _ _ _ _ _ us hl => match us, hl with | [_, _], _ => rfl) fun cdv A outer s H E C =>
    (show SSs _ _ G_product from (ss_one (ss_ret (ee_call (fn_lowest T) C (ea_cons (ee_op op_mulD od_mul (ee_ixS (ee_var 0) (ee_int)) (ee_ixS (ee_var 1) (ee_int))) (ea_cons (ee_op op_mulD od_mul (ee_ixS (ee_var 0) (ee_int)) (ee_ixS (ee_var 1) (ee_int))) ea_nil))))))
theorem sc_quotient : FnScope ["a", "b"] ["a", "b"] Z_quotient := ⟨rfl, rfl, rfl, by decide +kernel, rfl, by decide +kernel, by decide +kernel⟩
theorem fn_quotient {P : Program} {w : World} {K : PySem.W.Frag} {mg : Str → Option Value} {base : Heap} (T : TopF K mg) : FnF P w K mg base "quotient" A_quotient B_quotient Z_quotient ["a", "b"] 2 F_quotient := by
  obtain ⟨fd, hm, FD⟩ := T.d_quotient.ex
  exact fn_mk (N := ["a", "b"]) false hm FD sc_quotient (FD.bindsN fun _ _ _ _ _ _ us hl => match us, hl with | [_, _], _ => rfl) fun cdv A outer s H E C =>
    (show SSs _ _ G_quotient from (ss_one (ss_ret (ee_call (fn_lowest T) C (ea_cons (ee_op op_mulD od_mul (ee_ixS (ee_var 0) (ee_int)) (ee_ixS (ee_var 1) (ee_int))) (ea_cons (ee_op op_mulD od_mul (ee_ixS (ee_var 0) (ee_int)) (ee_ixS (ee_var 1) (ee_int))) ea_nil))))))
theorem sc_sum_of_all : FnScope ["numbers", "total", "a"] ["numbers"] Z_sum_of_all := ⟨rfl, rfl, rfl, by decide +kernel, rfl, by decide +kernel, by decide +kernel⟩
theorem fn_sum_of_all {P : Program} {w : World} {K : PySem.W.Frag} {mg : Str → Option Value} {base : Heap} (T : TopF K mg) : FnF P w K mg base "sum_of_all" A_sum_of_all B_sum_of_all Z_sum_of_all ["numbers"] 3 F_sum_of_all := by
  obtain ⟨fd, hm, FD⟩ := T.d_sum_of_all.ex
  exact fn_mk (N := ["numbers", "total", "a"]) false hm FD sc_sum_of_all (FD.bindsN fun _ _ _ _ _ _ us hl => match us, hl with | [_], _ => rfl) fun cdv A outer s H E C =>
    (show SSs _ _ G_sum_of_all from (ss_cons (ss_set 1 C.nd (ee_conF T.k_ZERO))
    (ss_cons (ss_for C (ei_seq (ee_var 0)) (eg_name 2 C.nd) (ss_one (ss_set 1 C.nd (ee_call (fn_sum_of_two T) C (ea_cons (ee_var 1) (ea_cons (ee_var 2) ea_nil))))))
    (ss_one (ss_ret (ee_var 1))))))
theorem sc_sign_of : FnScope ["a"] ["a"] Z_sign_of := ⟨rfl, rfl, rfl, by decide +kernel, rfl, by decide +kernel, by decide +kernel⟩
theorem fn_sign_of {P : Program} {w : World} {K : PySem.W.Frag} {mg : Str → Option Value} {base : Heap} (T : TopF K mg) : FnF P w K mg base "sign_of" A_sign_of B_sign_of Z_sign_of ["a"] 1 F_sign_of := by
  obtain ⟨fd, hm, FD⟩ := T.d_sign_of.ex
  exact fn_mk (N := ["a"]) false hm FD sc_sign_of (FD.bindsN fun _ _ _ _ _ _ us hl => match us, hl with | [_], _ => rfl) fun cdv A outer s H E C =>
    (show SSs _ _ G_sign_of from (ss_one (ss_ret (ee_op op_sub od_sub (ee_callTy call_int1 cd_int T.b_int (by decide +kernel) (ea_cons (ee_cmp op_gt od_cmp (ee_var 0) (ee_int)) ea_nil)) (ee_callTy call_int1 cd_int T.b_int (by decide +kernel) (ea_cons (ee_cmp op_lt od_cmp (ee_var 0) (ee_int)) ea_nil))))))
theorem sc_dot : FnScope ["sides", "point", "side", "a"] ["sides", "point"] Z_dot := ⟨rfl, rfl, rfl, by decide +kernel, rfl, by decide +kernel, by decide +kernel⟩
theorem fn_dot {P : Program} {w : World} {K : PySem.W.Frag} {mg : Str → Option Value} {base : Heap} (T : TopF K mg) : FnF P w K mg base "dot" A_dot B_dot Z_dot ["sides", "point"] 4 F_dot := by
  obtain ⟨fd, hm, FD⟩ := T.d_dot.ex
  exact fn_mk (N := ["sides", "point", "side", "a"]) false hm FD sc_dot (FD.bindsN fun _ _ _ _ _ _ us hl => match us, hl with | [_, _], _ => rfl) fun cdv A outer s H E C =>
    (show SSs _ _ G_dot from (ss_one (ss_ret (ee_call (fn_sum_of_all T) C (ea_cons (ee_lc [("side", 2), ("a", 3)] C (ei_zip T.b_zip (ea_cons (ee_var 0) (ea_cons (ee_var 1) ea_nil))) (by rfl) (fun _ _ _ _ _ => (eg_tup C.calm (egs_cons (eg_name 2 C.nd) (egs_cons (eg_name 3 C.nd) egs_nil)) (gsCons_len (gsCons_len gsNil_len (gN_ok _)) (gN_ok _)))) (fun _ _ _ _ _ C1 => ets_nil) (fun _ _ _ _ _ C1 => (ee_call (fn_product T) C1 (ea_cons (ee_call (fn_whole T) C1 (ea_cons (ee_var 2) ea_nil)) (ea_cons (ee_var 3) ea_nil))))) ea_nil)))))
theorem sc_divided : FnScope ["row", "common", "a"] ["row"] Z_divided := ⟨rfl, rfl, rfl, by decide +kernel, rfl, by decide +kernel, by decide +kernel⟩
theorem fn_divided {P : Program} {w : World} {K : PySem.W.Frag} {mg : Str → Option Value} {base : Heap} (T : TopF K mg) : FnF P w K mg base "divided" A_divided B_divided Z_divided ["row"] 1 F_divided := by
  obtain ⟨fd, hm, FD⟩ := T.d_divided.ex
  exact fn_mk (N := ["row", "common", "a"]) false hm FD sc_divided (FD.bindsN fun _ _ _ _ _ _ us hl => match us, hl with | [_], _ => rfl) fun cdv A outer s H E C =>
    (show SSs _ _ G_divided from (ss_cons (ss_set 1 C.nd (ee_int))
    (ss_cons (ss_for C (ei_seq (ee_var 0)) (eg_name 2 C.nd) (ss_one (ss_set 1 C.nd (ee_callFun cr_gcd cd_gcd T.gcd (ea_cons (ee_var 1) (ea_cons (ee_var 2) ea_nil))))))
    (ss_one (ss_ret (ee_callTy call_tuple_of cd_tuple T.b_tuple (by decide +kernel) (ea_cons (ee_lc [("a", 2)] C (ei_seq (ee_var 0)) (by rfl) (fun _ _ _ _ _ => (eg_name 2 C.nd)) (fun _ _ _ _ _ C1 => ets_nil) (fun _ _ _ _ _ C1 => (ee_op op_fdivNW od_fdiv (ee_var 2) (ee_var 1)))) ea_nil)))))))
theorem sc_times_row : FnScope ["row", "by", "a"] ["row", "by"] Z_times_row := ⟨rfl, rfl, rfl, by decide +kernel, rfl, by decide +kernel, by decide +kernel⟩
theorem fn_times_row {P : Program} {w : World} {K : PySem.W.Frag} {mg : Str → Option Value} {base : Heap} (T : TopF K mg) : FnF P w K mg base "times_row" A_times_row B_times_row Z_times_row ["row", "by"] 3 F_times_row := by
  obtain ⟨fd, hm, FD⟩ := T.d_times_row.ex
  exact fn_mk (N := ["row", "by", "a"]) false hm FD sc_times_row (FD.bindsN fun _ _ _ _ _ _ us hl => match us, hl with | [_, _], _ => rfl) fun cdv A outer s H E C =>
    (show SSs _ _ G_times_row from (ss_one (ss_ret (ee_callTy call_tuple_of cd_tuple T.b_tuple (by decide +kernel) (ea_cons (ee_lc [("a", 2)] C (ei_seq (ee_var 0)) (by rfl) (fun _ _ _ _ _ => (eg_name 2 C.nd)) (fun _ _ _ _ _ C1 => ets_nil) (fun _ _ _ _ _ C1 => (ee_call (fn_product T) C1 (ea_cons (ee_var 2) (ea_cons (ee_var 1) ea_nil))))) ea_nil)))))
theorem sc_less_row : FnScope ["one", "other", "a", "b"] ["one", "other"] Z_less_row := ⟨rfl, rfl, rfl, by decide +kernel, rfl, by decide +kernel, by decide +kernel⟩
theorem fn_less_row {P : Program} {w : World} {K : PySem.W.Frag} {mg : Str → Option Value} {base : Heap} (T : TopF K mg) : FnF P w K mg base "less_row" A_less_row B_less_row Z_less_row ["one", "other"] 4 F_less_row := by
  obtain ⟨fd, hm, FD⟩ := T.d_less_row.ex
  exact fn_mk (N := ["one", "other", "a", "b"]) false hm FD sc_less_row (FD.bindsN fun _ _ _ _ _ _ us hl => match us, hl with | [_, _], _ => rfl) fun cdv A outer s H E C =>
    (show SSs _ _ G_less_row from (ss_one (ss_ret (ee_callTy call_tuple_of cd_tuple T.b_tuple (by decide +kernel) (ea_cons (ee_lc [("a", 2), ("b", 3)] C (ei_zip T.b_zip (ea_cons (ee_var 0) (ea_cons (ee_var 1) ea_nil))) (by rfl) (fun _ _ _ _ _ => (eg_tup C.calm (egs_cons (eg_name 2 C.nd) (egs_cons (eg_name 3 C.nd) egs_nil)) (gsCons_len (gsCons_len gsNil_len (gN_ok _)) (gN_ok _)))) (fun _ _ _ _ _ C1 => ets_nil) (fun _ _ _ _ _ C1 => (ee_call (fn_difference T) C1 (ea_cons (ee_var 2) (ea_cons (ee_var 3) ea_nil))))) ea_nil)))))
theorem sc_reduced : FnScope ["rows", "left", "found", "wide", "place", "at", "lead", "row"] ["rows"] Z_reduced := ⟨rfl, rfl, rfl, by decide +kernel, rfl, by decide +kernel, by decide +kernel⟩
theorem fn_reduced {P : Program} {w : World} {K : PySem.W.Frag} {mg : Str → Option Value} {base : Heap} (T : TopF K mg) : FnF P w K mg base "reduced" A_reduced B_reduced Z_reduced ["rows"] 5 F_reduced := by
  obtain ⟨fd, hm, FD⟩ := T.d_reduced.ex
  exact fn_mk (N := ["rows", "left", "found", "wide", "place", "at", "lead", "row"]) false hm FD sc_reduced (FD.bindsN fun _ _ _ _ _ _ us hl => match us, hl with | [_], _ => rfl) fun cdv A outer s H E C =>
    (show SSs _ _ G_reduced from (ss_cons (ss_parT C.calm (ea_cons (ee_lcM [("row", 7)] C (ei_seq (ee_var 0)) (by rfl) (fun _ _ _ _ _ => (eg_name 7 C.nd)) (fun _ _ _ _ _ C1 => ets_nil) (fun _ _ _ _ _ C1 => (ee_callTy call_tuple_of cd_tuple T.b_tuple (by decide +kernel) (ea_cons (ee_var 7) ea_nil)))) (ea_cons (ee_lstM ea_nil) ea_nil)) (ng_cons 1 C.nd (ng_cons 2 C.nd ng_nil)))
    (ss_cons (ss_set 3 C.nd (ee_if (et_cmp (op_neD C.room.units) od_ne (ee_var 1) (ee_lst ea_nil)) (ee_len T.b_len (ee_ixS (ee_var 1) (ee_int))) (ee_int)))
    (ss_cons (ss_for C (ei_range1 T.b_range (ea_cons (ee_var 3) ea_nil)) (eg_name 4 C.nd) (ss_cons (ss_lc 5 [("row", 7)] C (ei_range1 T.b_range (ea_cons (ee_len T.b_len (ee_var 1)) ea_nil)) (by rfl) (fun _ _ _ _ _ => (eg_name 7 C.nd)) (fun _ _ _ _ _ C1 => (ets_one (et_cmp (op_neD C1.room.units) od_ne (ee_ixS (ee_ixS (ee_var 1) (ee_var 7)) (ee_var 4)) (ee_conF T.k_ZERO)))) (fun _ _ _ _ _ C1 => (ee_var 7)))
    (ss_one (ss_if (et_cmp (op_neD C.room.units) od_ne (ee_var 5) (ee_lst ea_nil)) (ss_cons (ss_set 6 C.nd (ee_lm PySem.F.slot_list_pop PySem.F.type_list_pop mt_popAt lm_popAt (ee_var 1) (ea_cons (ee_ixS (ee_var 5) (ee_int)) ea_nil)))
    (ss_cons (ss_set 6 C.nd (ee_call (fn_times_row T) C (ea_cons (ee_var 6) (ea_cons (ee_call (fn_quotient T) C (ea_cons (ee_conKF T.k_ONE) (ea_cons (ee_ixS (ee_var 6) (ee_var 4)) ea_nil))) ea_nil))))
    (ss_cons (ss_set 1 C.nd (ee_lcM [("row", 7)] C (ei_seq (ee_var 1)) (by rfl) (fun _ _ _ _ _ => (eg_name 7 C.nd)) (fun _ _ _ _ _ C1 => ets_nil) (fun _ _ _ _ _ C1 => (ee_call (fn_less_row T) C1 (ea_cons (ee_var 7) (ea_cons (ee_call (fn_times_row T) C1 (ea_cons (ee_var 6) (ea_cons (ee_ixS (ee_var 7) (ee_var 4)) ea_nil))) ea_nil))))))
    (ss_one (ss_expr (ee_lm PySem.F.slot_list_append PySem.F.type_list_append mt_append lm_append (ee_var 2) (ea_cons (ee_var 6) ea_nil))))))) (ss_nil)))))
    (ss_one (ss_ret (ee_var 2)))))))
theorem sc_is_question : FnScope ["d", "told", "side"] ["d", "told"] Z_is_question := ⟨rfl, rfl, rfl, by decide +kernel, rfl, by decide +kernel, by decide +kernel⟩
theorem fn_is_question {P : Program} {w : World} {K : PySem.W.Frag} {mg : Str → Option Value} {base : Heap} (T : TopF K mg) : FnF P w K mg base "is_question" A_is_question B_is_question Z_is_question ["d", "told"] 3 F_is_question := by
  obtain ⟨fd, hm, FD⟩ := T.d_is_question.ex
  exact fn_mk (N := ["d", "told", "side"]) false hm FD sc_is_question (FD.bindsN fun _ _ _ _ _ _ us hl => match us, hl with | [_, _], _ => rfl) fun cdv A outer s H E C =>
    (show SSs _ _ G_is_question from (ss_cons (ss_if (ew_or (et_not (et_val (ee_call (fn_is_pair T) C (ea_cons (ee_var 1) ea_nil)))) (ew_or (et_not (et_val (ee_call (fn_are_integers T) C (ea_cons (ee_ixS (ee_var 1) (ee_int)) ea_nil)))) (ew_or1 (et_not (et_val (ee_call (fn_is_integer T) C (ea_cons (ee_ixS (ee_var 1) (ee_int)) ea_nil))))))).t (ss_one (ss_ret (ee_bl))) (ss_nil))
    (ss_one (ss_ret (ee_and (ee_cmp (op_eqD C.room.units) od_eq (ee_len T.b_len (ee_ixS (ee_var 1) (ee_int))) (ee_var 0)) (ee_one (ee_callB (cr_any C.calm) cd_any T.b_any (by decide +kernel) (ea_cons (ee_lc [("side", 2)] C (ei_seq (ee_ixS (ee_var 1) (ee_int))) (by rfl) (fun _ _ _ _ _ => (eg_name 2 C.nd)) (fun _ _ _ _ _ C1 => ets_nil) (fun _ _ _ _ _ C1 => (ee_cmp (op_neD C1.room.units) od_ne (ee_var 2) (ee_int)))) ea_nil))))))))
theorem sc_row_of_question : FnScope ["question"] ["question"] Z_row_of_question := ⟨rfl, rfl, rfl, by decide +kernel, rfl, by decide +kernel, by decide +kernel⟩
theorem fn_row_of_question {P : Program} {w : World} {K : PySem.W.Frag} {mg : Str → Option Value} {base : Heap} (T : TopF K mg) : FnF P w K mg base "row_of_question" A_row_of_question B_row_of_question Z_row_of_question ["question"] 1 F_row_of_question := by
  obtain ⟨fd, hm, FD⟩ := T.d_row_of_question.ex
  exact fn_mk (N := ["question"]) false hm FD sc_row_of_question (FD.bindsN fun _ _ _ _ _ _ us hl => match us, hl with | [_], _ => rfl) fun cdv A outer s H E C =>
    (show SSs _ _ G_row_of_question from (ss_one (ss_ret (ee_op op_addD od_add (ee_ixS (ee_var 0) (ee_int)) (ee_tup (ea_cons (ee_ixS (ee_var 0) (ee_int)) ea_nil))))))
theorem sc_ground_of : FnScope ["question", "numbers", "first", "a"] ["question"] Z_ground_of := ⟨rfl, rfl, rfl, by decide +kernel, rfl, by decide +kernel, by decide +kernel⟩
theorem fn_ground_of {P : Program} {w : World} {K : PySem.W.Frag} {mg : Str → Option Value} {base : Heap} (T : TopF K mg) : FnF P w K mg base "ground_of" A_ground_of B_ground_of Z_ground_of ["question"] 2 F_ground_of := by
  obtain ⟨fd, hm, FD⟩ := T.d_ground_of.ex
  exact fn_mk (N := ["question", "numbers", "first", "a"]) false hm FD sc_ground_of (FD.bindsN fun _ _ _ _ _ _ us hl => match us, hl with | [_], _ => rfl) fun cdv A outer s H E C =>
    (show SSs _ _ G_ground_of from (ss_cons (ss_set 1 C.nd (ee_call (fn_divided T) C (ea_cons (ee_call (fn_row_of_question T) C (ea_cons (ee_var 0) ea_nil)) ea_nil)))
    (ss_cons (ss_set 2 C.nd (ee_ixS (ee_lc [("a", 3)] C (ei_seq (ee_var 1)) (by rfl) (fun _ _ _ _ _ => (eg_name 3 C.nd)) (fun _ _ _ _ _ C1 => (ets_one (et_cmp (op_neD C1.room.units) od_ne (ee_var 3) (ee_int)))) (fun _ _ _ _ _ C1 => (ee_var 3))) (ee_int)))
    (ss_one (ss_ret (ee_if (et_cmp op_gt od_cmp (ee_var 2) (ee_int)) (ee_var 1) (ee_callTy call_tuple_of cd_tuple T.b_tuple (by decide +kernel) (ea_cons (ee_lc [("a", 3)] C (ei_seq (ee_var 1)) (by rfl) (fun _ _ _ _ _ => (eg_name 3 C.nd)) (fun _ _ _ _ _ C1 => ets_nil) (fun _ _ _ _ _ C1 => (ee_un un_neg ud_neg (ee_var 3)))) ea_nil))))))))
theorem sc_is_book : FnScope ["told", "question"] ["told"] Z_is_book := ⟨rfl, rfl, rfl, by decide +kernel, rfl, by decide +kernel, by decide +kernel⟩
theorem fn_is_book {P : Program} {w : World} {K : PySem.W.Frag} {mg : Str → Option Value} {base : Heap} (T : TopF K mg) : FnF P w K mg base "is_book" A_is_book B_is_book Z_is_book ["told"] 4 F_is_book := by
  obtain ⟨fd, hm, FD⟩ := T.d_is_book.ex
  exact fn_mk (N := ["told", "question"]) false hm FD sc_is_book (FD.bindsN fun _ _ _ _ _ _ us hl => match us, hl with | [_], _ => rfl) fun cdv A outer s H E C =>
    (show SSs _ _ G_is_book from (ss_cons (ss_if (ew_or (et_not (et_val (ee_call (fn_is_pair T) C (ea_cons (ee_var 0) ea_nil)))) (ew_or (et_not (et_val (ee_call (fn_is_integer T) C (ea_cons (ee_ixS (ee_var 0) (ee_int)) ea_nil)))) (ew_or (et_cmp op_lt od_cmp (ee_ixS (ee_var 0) (ee_int)) (ee_int)) (ew_or1 (et_not (et_val (ee_isi hk_tuple T.b_isinstance T.b_tuple (by decide +kernel) (ee_ixS (ee_var 0) (ee_int))))))))).t (ss_one (ss_ret (ee_bl))) (ss_nil))
    (ss_cons (ss_if (et_not (et_val (ee_callB (cr_all C.calm) cd_all T.b_all (by decide +kernel) (ea_cons (ee_lc [("question", 1)] C (ei_seq (ee_ixS (ee_var 0) (ee_int))) (by rfl) (fun _ _ _ _ _ => (eg_name 1 C.nd)) (fun _ _ _ _ _ C1 => ets_nil) (fun _ _ _ _ _ C1 => (ee_call (fn_is_question T) C1 (ea_cons (ee_ixS (ee_var 0) (ee_int)) (ea_cons (ee_var 1) ea_nil))))) ea_nil)))) (ss_one (ss_ret (ee_bl))) (ss_nil))
    (ss_one (ss_ret (ee_cmp (op_eqD C.room.units) od_eq (ee_len T.b_len (ee_dcM true [("question", 1)] C (ei_seq (ee_ixS (ee_var 0) (ee_int))) (by rfl) (fun _ _ _ _ _ => (eg_name 1 C.nd)) (fun _ _ _ _ _ C1 => ets_nil) (fun _ _ _ _ _ C1 => (ee_call (fn_ground_of T) C1 (ea_cons (ee_var 1) ea_nil))) (fun _ _ _ _ _ C1 => (ee_bl)))) (ee_len T.b_len (ee_ixS (ee_var 0) (ee_int)))))))))
theorem sc_check_book : FnScope ["book"] ["book"] Z_check_book := ⟨rfl, rfl, rfl, by decide +kernel, rfl, by decide +kernel, by decide +kernel⟩
theorem fn_check_book {P : Program} {w : World} {K : PySem.W.Frag} {mg : Str → Option Value} {base : Heap} (T : TopF K mg) : FnF P w K mg base "check_book" A_check_book B_check_book Z_check_book ["book"] 5 F_check_book := by
  obtain ⟨fd, hm, FD⟩ := T.d_check_book.ex
  exact fn_mk (N := ["book"]) false hm FD sc_check_book (FD.bindsN fun _ _ _ _ _ _ us hl => match us, hl with | [_], _ => rfl) fun cdv A outer s H E C =>
    (show SSs _ _ G_check_book from (ss_one (ss_if (et_not (et_val (ee_call (fn_is_book T) C (ea_cons (ee_var 0) ea_nil)))) (ss_one (ss_raise T.x_InvalidBook (initF T) C (ee_var 0))) (ss_nil))))
theorem sc_check_index : FnScope ["book", "index"] ["book", "index"] Z_check_index := ⟨rfl, rfl, rfl, by decide +kernel, rfl, by decide +kernel, by decide +kernel⟩
theorem fn_check_index {P : Program} {w : World} {K : PySem.W.Frag} {mg : Str → Option Value} {base : Heap} (T : TopF K mg) : FnF P w K mg base "check_index" A_check_index B_check_index Z_check_index ["book", "index"] 3 F_check_index := by
  obtain ⟨fd, hm, FD⟩ := T.d_check_index.ex
  exact fn_mk (N := ["book", "index"]) false hm FD sc_check_index (FD.bindsN fun _ _ _ _ _ _ us hl => match us, hl with | [_, _], _ => rfl) fun cdv A outer s H E C =>
    (show SSs _ _ G_check_index from (ss_one (ss_if (ew_or (et_not (et_val (ee_call (fn_is_integer T) C (ea_cons (ee_var 1) ea_nil)))) (ew_or1 (et_not (et_chain op_le od_cmp op_lt od_cmp (ee_int) (ee_var 1) (ee_len T.b_len (ee_ixS (ee_var 0) (ee_int))))))).t (ss_one (ss_raise T.x_InvalidIndex (initF T) C (ee_var 1))) (ss_nil))))
theorem sc_check_point : FnScope ["d", "point"] ["d", "point"] Z_check_point := ⟨rfl, rfl, rfl, by decide +kernel, rfl, by decide +kernel, by decide +kernel⟩
theorem fn_check_point {P : Program} {w : World} {K : PySem.W.Frag} {mg : Str → Option Value} {base : Heap} (T : TopF K mg) : FnF P w K mg base "check_point" A_check_point B_check_point Z_check_point ["d", "point"] 5 F_check_point := by
  obtain ⟨fd, hm, FD⟩ := T.d_check_point.ex
  exact fn_mk (N := ["d", "point"]) false hm FD sc_check_point (FD.bindsN fun _ _ _ _ _ _ us hl => match us, hl with | [_, _], _ => rfl) fun cdv A outer s H E C =>
    (show SSs _ _ G_check_point from (ss_one (ss_if (et_not (et_val (ee_call (fn_are_numbers T) C (ea_cons (ee_var 1) (ea_cons (ee_var 0) ea_nil))))) (ss_one (ss_raise T.x_InvalidPoint (initF T) C (ee_var 1))) (ss_nil))))
theorem sc_without_of : FnScope ["book", "index", "d", "questions"] ["book", "index"] Z_without_of := ⟨rfl, rfl, rfl, by decide +kernel, rfl, by decide +kernel, by decide +kernel⟩
theorem fn_without_of {P : Program} {w : World} {K : PySem.W.Frag} {mg : Str → Option Value} {base : Heap} (T : TopF K mg) : FnF P w K mg base "without_of" A_without_of B_without_of Z_without_of ["book", "index"] 1 F_without_of := by
  obtain ⟨fd, hm, FD⟩ := T.d_without_of.ex
  exact fn_mk (N := ["book", "index", "d", "questions"]) false hm FD sc_without_of (FD.bindsN fun _ _ _ _ _ _ us hl => match us, hl with | [_, _], _ => rfl) fun cdv A outer s H E C =>
    (show SSs _ _ G_without_of from (ss_cons (ss_asg (ee_var 0) (eg_tup C.calm (egs_cons (eg_name 2 C.nd) (egs_cons (eg_name 3 C.nd) egs_nil)) (gsCons_len (gsCons_len gsNil_len (gN_ok _)) (gN_ok _))))
    (ss_one (ss_ret (ee_tup (ea_cons (ee_var 2) (ea_cons (ee_op op_addD od_add (ee_sl (ee_var 3) eo_none (eo_some (ee_var 1))) (ee_sl (ee_var 3) (eo_some (ee_op op_addD od_add (ee_var 1) (ee_int))) eo_none)) ea_nil)))))))
theorem sc_without : FnScope ["book", "index"] ["book", "index"] Z_without := ⟨rfl, rfl, rfl, by decide +kernel, rfl, by decide +kernel, by decide +kernel⟩
theorem fn_without {P : Program} {w : World} {K : PySem.W.Frag} {mg : Str → Option Value} {base : Heap} (T : TopF K mg) : FnF P w K mg base "without" A_without B_without Z_without ["book", "index"] 6 F_without := by
  obtain ⟨fd, hm, FD⟩ := T.d_without.ex
  exact fn_mk (N := ["book", "index"]) false hm FD sc_without (FD.bindsN fun _ _ _ _ _ _ us hl => match us, hl with | [_, _], _ => rfl) fun cdv A outer s H E C =>
    (show SSs _ _ G_without from (ss_cons (ss_expr (ee_call (fn_check_book T) C (ea_cons (ee_var 0) ea_nil)))
    (ss_cons (ss_expr (ee_call (fn_check_index T) C (ea_cons (ee_var 0) (ea_cons (ee_var 1) ea_nil))))
    (ss_one (ss_ret (ee_call (fn_without_of T) C (ea_cons (ee_var 0) (ea_cons (ee_var 1) ea_nil))))))))
theorem sc_turned_question : FnScope ["question", "sides", "wall", "side"] ["question"] Z_turned_question := ⟨rfl, rfl, rfl, by decide +kernel, rfl, by decide +kernel, by decide +kernel⟩
theorem fn_turned_question {P : Program} {w : World} {K : PySem.W.Frag} {mg : Str → Option Value} {base : Heap} (T : TopF K mg) : FnF P w K mg base "turned_question" A_turned_question B_turned_question Z_turned_question ["question"] 1 F_turned_question := by
  obtain ⟨fd, hm, FD⟩ := T.d_turned_question.ex
  exact fn_mk (N := ["question", "sides", "wall", "side"]) false hm FD sc_turned_question (FD.bindsN fun _ _ _ _ _ _ us hl => match us, hl with | [_], _ => rfl) fun cdv A outer s H E C =>
    (show SSs _ _ G_turned_question from (ss_cons (ss_asg (ee_var 0) (eg_tup C.calm (egs_cons (eg_name 1 C.nd) (egs_cons (eg_name 2 C.nd) egs_nil)) (gsCons_len (gsCons_len gsNil_len (gN_ok _)) (gN_ok _))))
    (ss_one (ss_ret (ee_tup (ea_cons (ee_callTy call_tuple_of cd_tuple T.b_tuple (by decide +kernel) (ea_cons (ee_lc [("side", 3)] C (ei_seq (ee_var 1)) (by rfl) (fun _ _ _ _ _ => (eg_name 3 C.nd)) (fun _ _ _ _ _ C1 => ets_nil) (fun _ _ _ _ _ C1 => (ee_un un_neg ud_neg (ee_var 3)))) ea_nil)) (ea_cons (ee_un un_neg ud_neg (ee_var 2)) ea_nil)))))))
theorem sc_turned : FnScope ["book", "index", "d", "questions"] ["book", "index"] Z_turned := ⟨rfl, rfl, rfl, by decide +kernel, rfl, by decide +kernel, by decide +kernel⟩
theorem fn_turned {P : Program} {w : World} {K : PySem.W.Frag} {mg : Str → Option Value} {base : Heap} (T : TopF K mg) : FnF P w K mg base "turned" A_turned B_turned Z_turned ["book", "index"] 6 F_turned := by
  obtain ⟨fd, hm, FD⟩ := T.d_turned.ex
  exact fn_mk (N := ["book", "index", "d", "questions"]) false hm FD sc_turned (FD.bindsN fun _ _ _ _ _ _ us hl => match us, hl with | [_, _], _ => rfl) fun cdv A outer s H E C =>
    (show SSs _ _ G_turned from (ss_cons (ss_expr (ee_call (fn_check_book T) C (ea_cons (ee_var 0) ea_nil)))
    (ss_cons (ss_expr (ee_call (fn_check_index T) C (ea_cons (ee_var 0) (ea_cons (ee_var 1) ea_nil))))
    (ss_cons (ss_asg (ee_var 0) (eg_tup C.calm (egs_cons (eg_name 2 C.nd) (egs_cons (eg_name 3 C.nd) egs_nil)) (gsCons_len (gsCons_len gsNil_len (gN_ok _)) (gN_ok _))))
    (ss_one (ss_ret (ee_tup (ea_cons (ee_var 2) (ea_cons (ee_op op_addD od_add (ee_op op_addD od_add (ee_sl (ee_var 3) eo_none (eo_some (ee_var 1))) (ee_tup (ea_cons (ee_call (fn_turned_question T) C (ea_cons (ee_ixS (ee_var 3) (ee_var 1)) ea_nil)) ea_nil))) (ee_sl (ee_var 3) (eo_some (ee_op op_addD od_add (ee_var 1) (ee_int))) eo_none)) ea_nil)))))))))
theorem sc_side_rows : FnScope ["book", "side", "sides", "wall"] ["book"] Z_side_rows := ⟨rfl, rfl, rfl, by decide +kernel, rfl, by decide +kernel, by decide +kernel⟩
theorem fn_side_rows {P : Program} {w : World} {K : PySem.W.Frag} {mg : Str → Option Value} {base : Heap} (T : TopF K mg) : FnF P w K mg base "side_rows" A_side_rows B_side_rows Z_side_rows ["book"] 2 F_side_rows := by
  obtain ⟨fd, hm, FD⟩ := T.d_side_rows.ex
  exact fn_mk (N := ["book", "side", "sides", "wall"]) false hm FD sc_side_rows (FD.bindsN fun _ _ _ _ _ _ us hl => match us, hl with | [_], _ => rfl) fun cdv A outer s H E C =>
    (show SSs _ _ G_side_rows from (ss_one (ss_ret (ee_lc [("sides", 2), ("wall", 3)] C (ei_seq (ee_ixS (ee_var 0) (ee_int))) (by rfl) (fun _ _ _ _ _ => (eg_tup C.calm (egs_cons (eg_name 2 C.nd) (egs_cons (eg_name 3 C.nd) egs_nil)) (gsCons_len (gsCons_len gsNil_len (gN_ok _)) (gN_ok _)))) (fun _ _ _ _ _ C1 => ets_nil) (fun _ _ _ _ _ C1 => (ee_lc [("side", 1)] C1 (ei_seq (ee_var 2)) (by rfl) (fun _ _ _ _ _ => (eg_name 1 C1.nd)) (fun _ _ _ _ _ C2 => ets_nil) (fun _ _ _ _ _ C2 => (ee_call (fn_whole T) C2 (ea_cons (ee_var 1) ea_nil)))))))))
theorem sc_rank_of : FnScope ["book"] ["book"] Z_rank_of := ⟨rfl, rfl, rfl, by decide +kernel, rfl, by decide +kernel, by decide +kernel⟩
theorem fn_rank_of {P : Program} {w : World} {K : PySem.W.Frag} {mg : Str → Option Value} {base : Heap} (T : TopF K mg) : FnF P w K mg base "rank_of" A_rank_of B_rank_of Z_rank_of ["book"] 6 F_rank_of := by
  obtain ⟨fd, hm, FD⟩ := T.d_rank_of.ex
  exact fn_mk (N := ["book"]) false hm FD sc_rank_of (FD.bindsN fun _ _ _ _ _ _ us hl => match us, hl with | [_], _ => rfl) fun cdv A outer s H E C =>
    (show SSs _ _ G_rank_of from (ss_one (ss_ret (ee_len T.b_len (ee_call (fn_reduced T) C (ea_cons (ee_call (fn_side_rows T) C (ea_cons (ee_var 0) ea_nil)) ea_nil))))))
theorem sc_rank : FnScope ["book"] ["book"] Z_rank := ⟨rfl, rfl, rfl, by decide +kernel, rfl, by decide +kernel, by decide +kernel⟩
theorem fn_rank {P : Program} {w : World} {K : PySem.W.Frag} {mg : Str → Option Value} {base : Heap} (T : TopF K mg) : FnF P w K mg base "rank" A_rank B_rank Z_rank ["book"] 7 F_rank := by
  obtain ⟨fd, hm, FD⟩ := T.d_rank.ex
  exact fn_mk (N := ["book"]) false hm FD sc_rank (FD.bindsN fun _ _ _ _ _ _ us hl => match us, hl with | [_], _ => rfl) fun cdv A outer s H E C =>
    (show SSs _ _ G_rank from (ss_cons (ss_expr (ee_call (fn_check_book T) C (ea_cons (ee_var 0) ea_nil)))
    (ss_one (ss_ret (ee_call (fn_rank_of T) C (ea_cons (ee_var 0) ea_nil))))))
theorem sc_at_once_of : FnScope ["book", "rows", "sides", "question", "row"] ["book"] Z_at_once_of := ⟨rfl, rfl, rfl, by decide +kernel, rfl, by decide +kernel, by decide +kernel⟩
theorem fn_at_once_of {P : Program} {w : World} {K : PySem.W.Frag} {mg : Str → Option Value} {base : Heap} (T : TopF K mg) : FnF P w K mg base "at_once_of" A_at_once_of B_at_once_of Z_at_once_of ["book"] 6 F_at_once_of := by
  obtain ⟨fd, hm, FD⟩ := T.d_at_once_of.ex
  exact fn_mk (N := ["book", "rows", "sides", "question", "row"]) false hm FD sc_at_once_of (FD.bindsN fun _ _ _ _ _ _ us hl => match us, hl with | [_], _ => rfl) fun cdv A outer s H E C =>
    (show SSs _ _ G_at_once_of from (ss_cons (ss_lc 1 [("sides", 2), ("question", 3)] C (ei_zip T.b_zip (ea_cons (ee_call (fn_side_rows T) C (ea_cons (ee_var 0) ea_nil)) (ea_cons (ee_ixS (ee_var 0) (ee_int)) ea_nil))) (by rfl) (fun _ _ _ _ _ => (eg_tup C.calm (egs_cons (eg_name 2 C.nd) (egs_cons (eg_name 3 C.nd) egs_nil)) (gsCons_len (gsCons_len gsNil_len (gN_ok _)) (gN_ok _)))) (fun _ _ _ _ _ C1 => ets_nil) (fun _ _ _ _ _ C1 => (ee_op op_addD od_add (ee_var 2) (ee_lst (ea_cons (ee_call (fn_whole T) C1 (ea_cons (ee_ixS (ee_var 3) (ee_int)) ea_nil)) ea_nil)))))
    (ss_one (ss_ret (ee_callB (cr_all C.calm) cd_all T.b_all (by decide +kernel) (ea_cons (ee_lc [("row", 4)] C (ei_seq (ee_call (fn_reduced T) C (ea_cons (ee_var 1) ea_nil))) (by rfl) (fun _ _ _ _ _ => (eg_name 4 C.nd)) (fun _ _ _ _ _ C1 => ets_nil) (fun _ _ _ _ _ C1 => (ee_cmp (op_neD C1.room.units) od_ne (ee_sl (ee_var 4) eo_none (eo_some (ee_un un_neg ud_neg (ee_int)))) (ee_op op_mulD od_mul (ee_tup (ea_cons (ee_conF T.k_ZERO) ea_nil)) (ee_ixS (ee_var 0) (ee_int)))))) ea_nil))))))
theorem sc_at_once : FnScope ["book"] ["book"] Z_at_once := ⟨rfl, rfl, rfl, by decide +kernel, rfl, by decide +kernel, by decide +kernel⟩
theorem fn_at_once {P : Program} {w : World} {K : PySem.W.Frag} {mg : Str → Option Value} {base : Heap} (T : TopF K mg) : FnF P w K mg base "at_once" A_at_once B_at_once Z_at_once ["book"] 7 F_at_once := by
  obtain ⟨fd, hm, FD⟩ := T.d_at_once.ex
  exact fn_mk (N := ["book"]) false hm FD sc_at_once (FD.bindsN fun _ _ _ _ _ _ us hl => match us, hl with | [_], _ => rfl) fun cdv A outer s H E C =>
    (show SSs _ _ G_at_once from (ss_cons (ss_expr (ee_call (fn_check_book T) C (ea_cons (ee_var 0) ea_nil)))
    (ss_one (ss_ret (ee_call (fn_at_once_of T) C (ea_cons (ee_var 0) ea_nil))))))
theorem sc_answer_of : FnScope ["question", "point", "sides", "wall"] ["question", "point"] Z_answer_of := ⟨rfl, rfl, rfl, by decide +kernel, rfl, by decide +kernel, by decide +kernel⟩
theorem fn_answer_of {P : Program} {w : World} {K : PySem.W.Frag} {mg : Str → Option Value} {base : Heap} (T : TopF K mg) : FnF P w K mg base "answer_of" A_answer_of B_answer_of Z_answer_of ["question", "point"] 5 F_answer_of := by
  obtain ⟨fd, hm, FD⟩ := T.d_answer_of.ex
  exact fn_mk (N := ["question", "point", "sides", "wall"]) false hm FD sc_answer_of (FD.bindsN fun _ _ _ _ _ _ us hl => match us, hl with | [_, _], _ => rfl) fun cdv A outer s H E C =>
    (show SSs _ _ G_answer_of from (ss_cons (ss_asg (ee_var 0) (eg_tup C.calm (egs_cons (eg_name 2 C.nd) (egs_cons (eg_name 3 C.nd) egs_nil)) (gsCons_len (gsCons_len gsNil_len (gN_ok _)) (gN_ok _))))
    (ss_one (ss_ret (ee_call (fn_sign_of T) C (ea_cons (ee_ixS (ee_call (fn_difference T) C (ea_cons (ee_call (fn_dot T) C (ea_cons (ee_var 2) (ea_cons (ee_var 1) ea_nil))) (ea_cons (ee_call (fn_whole T) C (ea_cons (ee_var 3) ea_nil)) ea_nil))) (ee_int)) ea_nil))))))
theorem sc_row_at : FnScope ["book", "point", "question"] ["book", "point"] Z_row_at := ⟨rfl, rfl, rfl, by decide +kernel, rfl, by decide +kernel, by decide +kernel⟩
theorem fn_row_at {P : Program} {w : World} {K : PySem.W.Frag} {mg : Str → Option Value} {base : Heap} (T : TopF K mg) : FnF P w K mg base "row_at" A_row_at B_row_at Z_row_at ["book", "point"] 6 F_row_at := by
  obtain ⟨fd, hm, FD⟩ := T.d_row_at.ex
  exact fn_mk (N := ["book", "point", "question"]) false hm FD sc_row_at (FD.bindsN fun _ _ _ _ _ _ us hl => match us, hl with | [_, _], _ => rfl) fun cdv A outer s H E C =>
    (show SSs _ _ G_row_at from (ss_one (ss_ret (ee_callTy call_tuple_of cd_tuple T.b_tuple (by decide +kernel) (ea_cons (ee_lc [("question", 2)] C (ei_seq (ee_ixS (ee_var 0) (ee_int))) (by rfl) (fun _ _ _ _ _ => (eg_name 2 C.nd)) (fun _ _ _ _ _ C1 => ets_nil) (fun _ _ _ _ _ C1 => (ee_call (fn_answer_of T) C1 (ea_cons (ee_var 2) (ea_cons (ee_var 1) ea_nil))))) ea_nil)))))
theorem sc_row_of : FnScope ["book", "point"] ["book", "point"] Z_row_of := ⟨rfl, rfl, rfl, by decide +kernel, rfl, by decide +kernel, by decide +kernel⟩
theorem fn_row_of {P : Program} {w : World} {K : PySem.W.Frag} {mg : Str → Option Value} {base : Heap} (T : TopF K mg) : FnF P w K mg base "row_of" A_row_of B_row_of Z_row_of ["book", "point"] 7 F_row_of := by
  obtain ⟨fd, hm, FD⟩ := T.d_row_of.ex
  exact fn_mk (N := ["book", "point"]) false hm FD sc_row_of (FD.bindsN fun _ _ _ _ _ _ us hl => match us, hl with | [_, _], _ => rfl) fun cdv A outer s H E C =>
    (show SSs _ _ G_row_of from (ss_cons (ss_expr (ee_call (fn_check_book T) C (ea_cons (ee_var 0) ea_nil)))
    (ss_cons (ss_expr (ee_call (fn_check_point T) C (ea_cons (ee_ixS (ee_var 0) (ee_int)) (ea_cons (ee_var 1) ea_nil))))
    (ss_one (ss_ret (ee_call (fn_row_at T) C (ea_cons (ee_var 0) (ea_cons (ee_var 1) ea_nil))))))))
theorem sc__law_deck : FnScope ["script", "at", "cell", "stir"] ["script", "at"] Z__law_deck := ⟨rfl, rfl, rfl, by decide +kernel, rfl, by decide +kernel, by decide +kernel⟩
theorem fn__law_deck {P : Program} {w : World} {K : PySem.W.Frag} {mg : Str → Option Value} {base : Heap} (T : TopF K mg) : FnF P w K mg base "_law_deck" A__law_deck B__law_deck Z__law_deck ["script", "at"] 1 F__law_deck := by
  obtain ⟨fd, hm, FD⟩ := T.d__law_deck.ex
  exact fn_mk (N := ["script", "at", "cell", "stir"]) true hm FD sc__law_deck (FD.bindsN fun _ _ _ _ _ _ us hl => match us, hl with | [_, _], _ => rfl) fun cdv A outer s H E C =>
    (show SSs _ _ G__law_deck from (ss_cons (ss_set 2 C.nd (ee_int))
    (ss_cons (ss_if (et_cmp op_lt od_cmp (ee_var 1) (ee_len T.b_len (ee_var 0))) (ss_one (ss_set 2 C.nd (ee_ixS (ee_var 0) (ee_var 1)))) (ss_nil))
    (ss_cons (ss_set 3 C.nd (ee_op op_modN od_mod (ee_callTy call_int1 cd_int T.b_int (by decide +kernel) (ea_cons (ee_op op_addD od_add (ee_op op_addD od_add (ee_var 2) (ee_op op_mulD od_mul (ee_int) (ee_var 1))) (ee_int)) ea_nil)) (ee_int)))
    (ss_cons (ss_set 3 C.nd (ee_op op_modN od_mod (ee_callTy call_int1 cd_int T.b_int (by decide +kernel) (ea_cons (ee_op op_addD od_add (ee_op op_addD od_add (ee_op op_mulD od_mul (ee_op op_mulD od_mul (ee_var 3) (ee_var 3)) (ee_var 3)) (ee_op op_mulD od_mul (ee_int) (ee_var 1))) (ee_int)) ea_nil)) (ee_int)))
    (ss_cons (ss_if (et_cmp op_lt od_cmp (ee_var 2) (ee_op op_powW od_pow (ee_int) (ee_int))) (ss_one (ss_ret (ee_lstM (ea_cons (ee_int) (ea_cons (ee_var 3) ea_nil))))) (ss_nil))
    (ss_one (ss_ret (ee_lstM (ea_cons (ee_op op_sub od_sub (ee_var 2) (ee_op op_powW od_pow (ee_int) (ee_int))) (ea_cons (ee_var 3) ea_nil)))))))))))
theorem sc__law_take : FnScope ["deck", "many", "taken"] ["deck", "many"] Z__law_take := ⟨rfl, rfl, rfl, by decide +kernel, rfl, by decide +kernel, by decide +kernel⟩
theorem fn__law_take {P : Program} {w : World} {K : PySem.W.Frag} {mg : Str → Option Value} {base : Heap} (T : TopF K mg) : FnF P w K mg base "_law_take" A__law_take B__law_take Z__law_take ["deck", "many"] 1 F__law_take := by
  obtain ⟨fd, hm, FD⟩ := T.d__law_take.ex
  exact fn_mk (N := ["deck", "many", "taken"]) false hm FD sc__law_take (FD.bindsN fun _ _ _ _ _ _ us hl => match us, hl with | [_, _], _ => rfl) fun cdv A outer s H E C =>
    (show SSs _ _ G__law_take from (ss_cons (ss_if (et_cmp op_gt od_cmp (ee_ixS (ee_var 0) (ee_int)) (ee_int)) (ss_cons (ss_set 2 C.nd (ee_op op_modN od_mod (ee_callTy call_int1 cd_int T.b_int (by decide +kernel) (ea_cons (ee_ixS (ee_var 0) (ee_int)) ea_nil)) (ee_var 1)))
    (ss_cons (ss_sub (ee_op op_fdivNW od_fdiv (ee_ixS (ee_var 0) (ee_int)) (ee_var 1)) (ee_var 0) (ee_int))
    (ss_one (ss_ret (ee_var 2))))) (ss_nil))
    (ss_cons (ss_sub (ee_op op_modN od_mod (ee_callTy call_int1 cd_int T.b_int (by decide +kernel) (ea_cons (ee_op op_addD od_add (ee_op op_mulD od_mul (ee_ixS (ee_var 0) (ee_int)) (ee_int)) (ee_int)) ea_nil)) (ee_op op_powW od_pow (ee_int) (ee_int))) (ee_var 0) (ee_int))
    (ss_one (ss_ret (ee_op op_modN od_mod (ee_op op_fdivNW od_fdiv (ee_ixS (ee_var 0) (ee_int)) (ee_op op_powW od_pow (ee_int) (ee_int))) (ee_var 1)))))))
theorem sc__law_gcd : FnScope ["u", "v"] ["u", "v"] Z__law_gcd := ⟨rfl, rfl, rfl, by decide +kernel, rfl, by decide +kernel, by decide +kernel⟩
theorem fn__law_gcd {P : Program} {w : World} {K : PySem.W.Frag} {mg : Str → Option Value} {base : Heap} (T : TopF K mg) : FnF P w K mg base "_law_gcd" A__law_gcd B__law_gcd Z__law_gcd ["u", "v"] 1 F__law_gcd := by
  obtain ⟨fd, hm, FD⟩ := T.d__law_gcd.ex
  exact fn_mk (N := ["u", "v"]) false hm FD sc__law_gcd (FD.bindsN fun _ _ _ _ _ _ us hl => match us, hl with | [_, _], _ => rfl) fun cdv A outer s H E C =>
    (show SSs _ _ G__law_gcd from (ss_cons (ss_while C (et_cmp (op_neD C.room.units) od_ne (ee_var 1) (ee_int)) (ss_one (ss_par 0 1 C.calm C.nd (ea_cons (ee_var 1) (ea_cons (ee_op op_modN od_mod (ee_callTy call_int1 cd_int T.b_int (by decide +kernel) (ea_cons (ee_var 0) ea_nil)) (ee_var 1)) ea_nil)))))
    (ss_one (ss_ret (ee_var 0)))))
theorem sc__law_pair : FnScope ["upper", "lower", "common"] ["upper", "lower"] Z__law_pair := ⟨rfl, rfl, rfl, by decide +kernel, rfl, by decide +kernel, by decide +kernel⟩
theorem fn__law_pair {P : Program} {w : World} {K : PySem.W.Frag} {mg : Str → Option Value} {base : Heap} (T : TopF K mg) : FnF P w K mg base "_law_pair" A__law_pair B__law_pair Z__law_pair ["upper", "lower"] 2 F__law_pair := by
  obtain ⟨fd, hm, FD⟩ := T.d__law_pair.ex
  exact fn_mk (N := ["upper", "lower", "common"]) false hm FD sc__law_pair (FD.bindsN fun _ _ _ _ _ _ us hl => match us, hl with | [_, _], _ => rfl) fun cdv A outer s H E C =>
    (show SSs _ _ G__law_pair from (ss_cons (ss_set 2 C.nd (ee_call (fn__law_gcd T) C (ea_cons (ee_callB call_abs cd_abs T.b_abs (by decide +kernel) (ea_cons (ee_var 0) ea_nil)) (ea_cons (ee_callB call_abs cd_abs T.b_abs (by decide +kernel) (ea_cons (ee_var 1) ea_nil)) ea_nil))))
    (ss_cons (ss_if (et_cmp op_lt od_cmp (ee_var 1) (ee_int)) (ss_one (ss_set 2 C.nd (ee_un un_neg ud_neg (ee_var 2)))) (ss_nil))
    (ss_one (ss_ret (ee_tup (ea_cons (ee_op op_fdivNW od_fdiv (ee_var 0) (ee_var 2)) (ea_cons (ee_op op_fdivNW od_fdiv (ee_var 1) (ee_var 2)) ea_nil))))))))
theorem sc__law_plus : FnScope ["u", "v"] ["u", "v"] Z__law_plus := ⟨rfl, rfl, rfl, by decide +kernel, rfl, by decide +kernel, by decide +kernel⟩
theorem fn__law_plus {P : Program} {w : World} {K : PySem.W.Frag} {mg : Str → Option Value} {base : Heap} (T : TopF K mg) : FnF P w K mg base "_law_plus" A__law_plus B__law_plus Z__law_plus ["u", "v"] 3 F__law_plus := by
  obtain ⟨fd, hm, FD⟩ := T.d__law_plus.ex
  exact fn_mk (N := ["u", "v"]) false hm FD sc__law_plus (FD.bindsN fun _ _ _ _ _ _ us hl => match us, hl with | [_, _], _ => rfl) fun cdv A outer s H E C =>
    (show SSs _ _ G__law_plus from (ss_one (ss_ret (ee_call (fn__law_pair T) C (ea_cons (ee_op op_addD od_add (ee_op op_mulD od_mul (ee_ixS (ee_var 0) (ee_int)) (ee_ixS (ee_var 1) (ee_int))) (ee_op op_mulD od_mul (ee_ixS (ee_var 1) (ee_int)) (ee_ixS (ee_var 0) (ee_int)))) (ea_cons (ee_op op_mulD od_mul (ee_ixS (ee_var 0) (ee_int)) (ee_ixS (ee_var 1) (ee_int))) ea_nil))))))
theorem sc__law_times : FnScope ["u", "v"] ["u", "v"] Z__law_times := ⟨rfl, rfl, rfl, by decide +kernel, rfl, by decide +kernel, by decide +kernel⟩
theorem fn__law_times {P : Program} {w : World} {K : PySem.W.Frag} {mg : Str → Option Value} {base : Heap} (T : TopF K mg) : FnF P w K mg base "_law_times" A__law_times B__law_times Z__law_times ["u", "v"] 3 F__law_times := by
  obtain ⟨fd, hm, FD⟩ := T.d__law_times.ex
  exact fn_mk (N := ["u", "v"]) false hm FD sc__law_times (FD.bindsN fun _ _ _ _ _ _ us hl => match us, hl with | [_, _], _ => rfl) fun cdv A outer s H E C =>
    (show SSs _ _ G__law_times from (ss_one (ss_ret (ee_call (fn__law_pair T) C (ea_cons (ee_op op_mulD od_mul (ee_ixS (ee_var 0) (ee_int)) (ee_ixS (ee_var 1) (ee_int))) (ea_cons (ee_op op_mulD od_mul (ee_ixS (ee_var 0) (ee_int)) (ee_ixS (ee_var 1) (ee_int))) ea_nil))))))
theorem sc__law_less : FnScope ["u", "v"] ["u", "v"] Z__law_less := ⟨rfl, rfl, rfl, by decide +kernel, rfl, by decide +kernel, by decide +kernel⟩
theorem fn__law_less {P : Program} {w : World} {K : PySem.W.Frag} {mg : Str → Option Value} {base : Heap} (T : TopF K mg) : FnF P w K mg base "_law_less" A__law_less B__law_less Z__law_less ["u", "v"] 1 F__law_less := by
  obtain ⟨fd, hm, FD⟩ := T.d__law_less.ex
  exact fn_mk (N := ["u", "v"]) false hm FD sc__law_less (FD.bindsN fun _ _ _ _ _ _ us hl => match us, hl with | [_, _], _ => rfl) fun cdv A outer s H E C =>
    (show SSs _ _ G__law_less from (ss_one (ss_ret (ee_cmp op_lt od_cmp (ee_op op_sub od_sub (ee_op op_mulD od_mul (ee_ixS (ee_var 0) (ee_int)) (ee_ixS (ee_var 1) (ee_int))) (ee_op op_mulD od_mul (ee_ixS (ee_var 1) (ee_int)) (ee_ixS (ee_var 0) (ee_int)))) (ee_int)))))
theorem sc__law_same : FnScope ["found", "due", "at"] ["found", "due"] Z__law_same := ⟨rfl, rfl, rfl, by decide +kernel, rfl, by decide +kernel, by decide +kernel⟩
theorem fR__law_same {P : Program} {w : World} {K : PySem.W.Frag} {mg : Str → Option Value} {base : Heap} (T : TopF K mg) : ∀ k, FnF P w K mg base "_law_same" A__law_same B__law_same Z__law_same ["found", "due"] (1 + k) (R__law_same k)
  | 0 => by
    obtain ⟨fd, hm, FD⟩ := T.d__law_same.ex
    exact fn_no (k := 0) hm FD sc__law_same (FD.bindsN fun _ _ _ _ _ _ us hl => match us, hl with | [_, _], _ => rfl)
  | k + 1 => by
    have Sf := fR__law_same (P := P) (w := w) (base := base) T k
    obtain ⟨fd, hm, FD⟩ := T.d__law_same.ex
    exact fn_mk (N := ["found", "due", "at"]) (k := 1 + k) false hm FD sc__law_same (FD.bindsN fun _ _ _ _ _ _ us hl => match us, hl with | [_, _], _ => rfl) fun cdv A outer s H E C =>
    (show SSs _ _ (G__law_same (R__law_same k)) from (ss_cons (ss_if (et_val (ee_isi2 hk_tl T.b_isinstance T.b_tuple (by decide +kernel) T.b_list (by decide +kernel) (ee_var 1))) (ss_cons (ss_if (ew_or (et_cmp (op_neD C.room.units) od_ne (ee_isi hk_tuple T.b_isinstance T.b_tuple (by decide +kernel) (ee_var 0)) (ee_isi hk_tuple T.b_isinstance T.b_tuple (by decide +kernel) (ee_var 1))) (ew_or1 (et_cmp (op_neD C.room.units) od_ne (ee_isi hk_list T.b_isinstance T.b_list (by decide +kernel) (ee_var 0)) (ee_isi hk_list T.b_isinstance T.b_list (by decide +kernel) (ee_var 1))))).t (ss_one (ss_ret (ee_bl))) (ss_nil))
    (ss_cons (ss_if (et_cmp (op_neD C.room.units) od_ne (ee_len T.b_len (ee_var 0)) (ee_len T.b_len (ee_var 1))) (ss_one (ss_ret (ee_bl))) (ss_nil))
    (ss_one (ss_ret (ee_cmp (op_eqD C.room.units) od_eq (ee_lc [("at", 2)] C (ei_range1 T.b_range (ea_cons (ee_len T.b_len (ee_var 1)) ea_nil)) (by rfl) (fun _ _ _ _ _ => (eg_name 2 C.nd)) (fun _ _ _ _ _ C1 => (ets_one (et_not (et_val (ee_call (Sf) C1 (ea_cons (ee_ixS (ee_var 0) (ee_var 2)) (ea_cons (ee_ixS (ee_var 1) (ee_var 2)) ea_nil)) (hk := by omega)))))) (fun _ _ _ _ _ C1 => (ee_var 2))) (ee_lst ea_nil)))))) (ss_nil))
    (ss_cons (ss_if (et_isN (ee_var 1)) (ss_one (ss_ret (ee_isN (ee_var 0)))) (ss_nil))
    (ss_cons (ss_if (et_val (ee_isi hk_str T.b_isinstance T.b_str (by decide +kernel) (ee_var 1))) (ss_one (ss_ret (ee_and (ee_isi hk_str T.b_isinstance T.b_str (by decide +kernel) (ee_var 0)) (ee_one (ee_cmp (op_eqD C.room.units) od_eq (ee_var 0) (ee_var 1)))))) (ss_nil))
    (ss_cons (ss_if (ew_or (et_val (ee_isi hk_bool T.b_isinstance T.b_bool (by decide +kernel) (ee_var 1))) (ew_or1 (et_val (ee_isi hk_bool T.b_isinstance T.b_bool (by decide +kernel) (ee_var 0))))).t (ss_one (ss_ret (ee_and (ee_isi hk_bool T.b_isinstance T.b_bool (by decide +kernel) (ee_var 1)) (ee_and (ee_isi hk_bool T.b_isinstance T.b_bool (by decide +kernel) (ee_var 0)) (ee_one (ee_cmp (op_eqD C.room.units) od_eq (ee_var 0) (ee_var 1))))))) (ss_nil))
    (ss_one (ss_ret (ee_and (ee_isi hk_int T.b_isinstance T.b_int (by decide +kernel) (ee_var 0)) (ee_one (ee_cmp (op_eqD C.room.units) od_eq (ee_var 0) (ee_var 1)))))))))))
theorem fn__law_same {P : Program} {w : World} {K : PySem.W.Frag} {mg : Str → Option Value} {base : Heap} (T : TopF K mg) : FnF P w K mg base "_law_same" A__law_same B__law_same Z__law_same ["found", "due"] 13 F__law_same := fR__law_same T 12
theorem sc__law_ground : FnScope ["line", "cells", "common", "x", "lead"] ["line"] Z__law_ground := ⟨rfl, rfl, rfl, by decide +kernel, rfl, by decide +kernel, by decide +kernel⟩
theorem fn__law_ground {P : Program} {w : World} {K : PySem.W.Frag} {mg : Str → Option Value} {base : Heap} (T : TopF K mg) : FnF P w K mg base "_law_ground" A__law_ground B__law_ground Z__law_ground ["line"] 2 F__law_ground := by
  obtain ⟨fd, hm, FD⟩ := T.d__law_ground.ex
  exact fn_mk (N := ["line", "cells", "common", "x", "lead"]) false hm FD sc__law_ground (FD.bindsN fun _ _ _ _ _ _ us hl => match us, hl with | [_], _ => rfl) fun cdv A outer s H E C =>
    (show SSs _ _ G__law_ground from (ss_cons (ss_set 1 C.nd (ee_op op_addD od_add (ee_ixS (ee_var 0) (ee_int)) (ee_tup (ea_cons (ee_ixS (ee_var 0) (ee_int)) ea_nil))))
    (ss_cons (ss_set 2 C.nd (ee_int))
    (ss_cons (ss_for C (ei_seq (ee_var 1)) (eg_name 3 C.nd) (ss_one (ss_set 2 C.nd (ee_call (fn__law_gcd T) C (ea_cons (ee_callB call_abs cd_abs T.b_abs (by decide +kernel) (ea_cons (ee_var 3) ea_nil)) (ea_cons (ee_var 2) ea_nil))))))
    (ss_cons (ss_set 4 C.nd (ee_ixS (ee_lc [("x", 3)] C (ei_seq (ee_var 1)) (by rfl) (fun _ _ _ _ _ => (eg_name 3 C.nd)) (fun _ _ _ _ _ C1 => (ets_one (et_cmp (op_neD C1.room.units) od_ne (ee_var 3) (ee_int)))) (fun _ _ _ _ _ C1 => (ee_var 3))) (ee_int)))
    (ss_one (ss_ret (ee_callTy call_tuple_of cd_tuple T.b_tuple (by decide +kernel) (ea_cons (ee_lc [("x", 3)] C (ei_seq (ee_var 1)) (by rfl) (fun _ _ _ _ _ => (eg_name 3 C.nd)) (fun _ _ _ _ _ C1 => ets_nil) (fun _ _ _ _ _ C1 => (ee_if (et_cmp op_gt od_cmp (ee_var 4) (ee_int)) (ee_op op_fdivNW od_fdiv (ee_var 3) (ee_var 2)) (ee_op op_fdivNW od_fdiv (ee_un un_neg ud_neg (ee_var 3)) (ee_var 2))))) ea_nil)))))))))
theorem sc__law_line : FnScope ["deck", "size", "lines", "far", "way", "sides", "wall", "first", "second", "times", "j", "x", "y"] ["deck", "size", "lines"] Z__law_line := ⟨rfl, rfl, rfl, by decide +kernel, rfl, by decide +kernel, by decide +kernel⟩
theorem fn__law_line {P : Program} {w : World} {K : PySem.W.Frag} {mg : Str → Option Value} {base : Heap} (T : TopF K mg) : FnF P w K mg base "_law_line" A__law_line B__law_line Z__law_line ["deck", "size", "lines"] 2 F__law_line := by
  obtain ⟨fd, hm, FD⟩ := T.d__law_line.ex
  exact fn_mk (N := ["deck", "size", "lines", "far", "way", "sides", "wall", "first", "second", "times", "j", "x", "y"]) false hm FD sc__law_line (FD.bindsN fun _ _ _ _ _ _ us hl => match us, hl with | [_, _, _], _ => rfl) fun cdv A outer s H E C =>
    (show SSs _ _ G__law_line from (ss_cons (ss_parT C.calm (ea_cons (ee_ixS (ee_lst (ea_cons (ee_int) (ea_cons (ee_int) (ea_cons (ee_int) (ea_cons (ee_int) (ea_cons (ee_int) ea_nil)))))) (ee_call (fn__law_take T) C (ea_cons (ee_var 0) (ea_cons (ee_int) ea_nil)))) (ea_cons (ee_call (fn__law_take T) C (ea_cons (ee_var 0) (ea_cons (ee_int) ea_nil))) ea_nil)) (ng_cons 3 C.nd (ng_cons 4 C.nd ng_nil)))
    (ss_cons (ss_lcM 5 [("j", 10)] C (ei_range1 T.b_range (ea_cons (ee_var 1) ea_nil)) (by rfl) (fun _ _ _ _ _ => (eg_name 10 C.nd)) (fun _ _ _ _ _ C1 => ets_nil) (fun _ _ _ _ _ C1 => (ee_op op_sub od_sub (ee_call (fn__law_take T) C1 (ea_cons (ee_var 0) (ea_cons (ee_op op_addD od_add (ee_op op_mulD od_mul (ee_int) (ee_var 3)) (ee_int)) ea_nil))) (ee_var 3))))
    (ss_cons (ss_set 6 C.nd (ee_op op_sub od_sub (ee_call (fn__law_take T) C (ea_cons (ee_var 0) (ea_cons (ee_op op_addD od_add (ee_op op_mulD od_mul (ee_int) (ee_var 3)) (ee_int)) ea_nil))) (ee_var 3)))
    (ss_cons (ss_if (ew_and (et_cmp (op_neD C.room.units) od_ne (ee_var 2) (ee_lst ea_nil)) (ew_and1 (et_cmp op_lt od_cmp (ee_var 4) (ee_int)))).t (ss_cons (ss_par 7 8 C.calm C.nd (ea_cons (ee_ixS (ee_var 2) (ee_call (fn__law_take T) C (ea_cons (ee_var 0) (ea_cons (ee_len T.b_len (ee_var 2)) ea_nil)))) (ea_cons (ee_ixS (ee_var 2) (ee_call (fn__law_take T) C (ea_cons (ee_var 0) (ea_cons (ee_len T.b_len (ee_var 2)) ea_nil)))) ea_nil)))
    (ss_cons (ss_set 9 C.nd (ee_ixS (ee_lst (ea_cons (ee_tup (ea_cons (ee_int) (ea_cons (ee_int) ea_nil))) (ea_cons (ee_tup (ea_cons (ee_int) (ea_cons (ee_int) ea_nil))) (ea_cons (ee_tup (ea_cons (ee_un un_neg ud_neg (ee_int)) (ea_cons (ee_int) ea_nil))) (ea_cons (ee_tup (ea_cons (ee_int) (ea_cons (ee_int) ea_nil))) (ea_cons (ee_tup (ea_cons (ee_int) (ea_cons (ee_un un_neg ud_neg (ee_int)) ea_nil))) (ea_cons (ee_tup (ea_cons (ee_int) (ea_cons (ee_un un_neg ud_neg (ee_int)) ea_nil))) ea_nil))))))) (ee_call (fn__law_take T) C (ea_cons (ee_var 0) (ea_cons (ee_int) ea_nil)))))
    (ss_cons (ss_lcM 5 [("x", 11), ("y", 12)] C (ei_zip T.b_zip (ea_cons (ee_ixS (ee_var 7) (ee_int)) (ea_cons (ee_ixS (ee_var 8) (ee_int)) ea_nil))) (by rfl) (fun _ _ _ _ _ => (eg_tup C.calm (egs_cons (eg_name 11 C.nd) (egs_cons (eg_name 12 C.nd) egs_nil)) (gsCons_len (gsCons_len gsNil_len (gN_ok _)) (gN_ok _)))) (fun _ _ _ _ _ C1 => ets_nil) (fun _ _ _ _ _ C1 => (ee_op op_addD od_add (ee_op op_mulD od_mul (ee_ixS (ee_var 9) (ee_int)) (ee_var 11)) (ee_op op_mulD od_mul (ee_ixS (ee_var 9) (ee_int)) (ee_var 12)))))
    (ss_one (ss_set 6 C.nd (ee_ixS (ee_lst (ea_cons (ee_var 6) (ea_cons (ee_op op_addD od_add (ee_op op_mulD od_mul (ee_ixS (ee_var 9) (ee_int)) (ee_ixS (ee_var 7) (ee_int))) (ee_op op_mulD od_mul (ee_ixS (ee_var 9) (ee_int)) (ee_ixS (ee_var 8) (ee_int)))) (ea_cons (ee_int) ea_nil)))) (ee_call (fn__law_take T) C (ea_cons (ee_var 0) (ea_cons (ee_int) ea_nil))))))))) (ss_nil))
    (ss_cons (ss_if (et_cmp (op_eqD C.room.units) od_eq (ee_var 4) (ee_int)) (ss_one (ss_set 6 C.nd (ee_int))) (ss_nil))
    (ss_cons (ss_if (ew_or (et_cmp op_gt od_cmp (ee_callB (cr_max C.calm) cd_max T.b_max (by decide +kernel) (ea_cons (ee_op op_addD od_add (ee_lc [("x", 11)] C (ei_seq (ee_var 5)) (by rfl) (fun _ _ _ _ _ => (eg_name 11 C.nd)) (fun _ _ _ _ _ C1 => ets_nil) (fun _ _ _ _ _ C1 => (ee_callB call_abs cd_abs T.b_abs (by decide +kernel) (ea_cons (ee_var 11) ea_nil)))) (ee_lst (ea_cons (ee_callB call_abs cd_abs T.b_abs (by decide +kernel) (ea_cons (ee_var 6) ea_nil)) ea_nil))) ea_nil)) (ee_int)) (ew_or1 (et_cmp (op_eqD C.room.units) od_eq (ee_var 5) (ee_op op_mulD od_mul (ee_lst (ea_cons (ee_int) ea_nil)) (ee_var 1))))).t (ss_cons (ss_set 5 C.nd (ee_opM op_rep odm_mul (ee_lst (ea_cons (ee_int) ea_nil)) (ee_var 1)))
    (ss_cons (ss_sub (ee_ixS (ee_lst (ea_cons (ee_int) (ea_cons (ee_un un_neg ud_neg (ee_int)) (ea_cons (ee_int) ea_nil)))) (ee_call (fn__law_take T) C (ea_cons (ee_var 0) (ea_cons (ee_int) ea_nil)))) (ee_var 5) (ee_call (fn__law_take T) C (ea_cons (ee_var 0) (ea_cons (ee_var 1) ea_nil))))
    (ss_one (ss_set 6 C.nd (ee_op op_sub od_sub (ee_call (fn__law_take T) C (ea_cons (ee_var 0) (ea_cons (ee_int) ea_nil))) (ee_int)))))) (ss_nil))
    (ss_one (ss_ret (ee_tup (ea_cons (ee_callTy call_tuple_of cd_tuple T.b_tuple (by decide +kernel) (ea_cons (ee_var 5) ea_nil)) (ea_cons (ee_var 6) ea_nil))))))))))))
theorem sc__law_page : FnScope ["deck", "most", "size", "lines", "seen", "turn", "line"] ["deck", "most"] Z__law_page := ⟨rfl, rfl, rfl, by decide +kernel, rfl, by decide +kernel, by decide +kernel⟩
theorem fn__law_page {P : Program} {w : World} {K : PySem.W.Frag} {mg : Str → Option Value} {base : Heap} (T : TopF K mg) : FnF P w K mg base "_law_page" A__law_page B__law_page Z__law_page ["deck", "most"] 3 F__law_page := by
  obtain ⟨fd, hm, FD⟩ := T.d__law_page.ex
  exact fn_mk (N := ["deck", "most", "size", "lines", "seen", "turn", "line"]) false hm FD sc__law_page (FD.bindsN fun _ _ _ _ _ _ us hl => match us, hl with | [_, _], _ => rfl) fun cdv A outer s H E C =>
    (show SSs _ _ G__law_page from (ss_cons (ss_par3 2 3 4 C.calm C.nd (ea_cons (ee_op op_addD od_add (ee_int) (ee_call (fn__law_take T) C (ea_cons (ee_var 0) (ea_cons (ee_int) ea_nil)))) (ea_cons (ee_lstM ea_nil) (ea_cons (ee_dnewT) ea_nil))))
    (ss_cons (ss_for C (ei_range1 T.b_range (ea_cons (ee_call (fn__law_take T) C (ea_cons (ee_var 0) (ea_cons (ee_op op_addD od_add (ee_var 1) (ee_int)) ea_nil))) ea_nil)) (eg_name 5 C.nd) (ss_cons (ss_set 6 C.nd (ee_call (fn__law_line T) C (ea_cons (ee_var 0) (ea_cons (ee_var 2) (ea_cons (ee_var 3) ea_nil)))))
    (ss_one (ss_if (et_dnotin (units1 C.room) (ee_call (fn__law_ground T) C (ea_cons (ee_var 6) ea_nil)) (ee_var 4)) (ss_cons (ss_dput (units1 C.room) (ee_bl) (ee_var 4) (ee_call (fn__law_ground T) C (ea_cons (ee_var 6) ea_nil)))
    (ss_one (ss_expr (ee_lm PySem.F.slot_list_append PySem.F.type_list_append mt_append lm_append (ee_var 3) (ea_cons (ee_var 6) ea_nil))))) (ss_nil)))))
    (ss_one (ss_ret (ee_tup (ea_cons (ee_var 2) (ea_cons (ee_callTy call_tuple_of cd_tuple T.b_tuple (by decide +kernel) (ea_cons (ee_var 3) ea_nil)) ea_nil))))))))
theorem sc__law_through : FnScope ["deck", "page", "spot", "found", "seen", "line", "wall", "j", "x", "y"] ["deck", "page"] Z__law_through := ⟨rfl, rfl, rfl, by decide +kernel, rfl, by decide +kernel, by decide +kernel⟩
theorem fn__law_through {P : Program} {w : World} {K : PySem.W.Frag} {mg : Str → Option Value} {base : Heap} (T : TopF K mg) : FnF P w K mg base "_law_through" A__law_through B__law_through Z__law_through ["deck", "page"] 3 F__law_through := by
  obtain ⟨fd, hm, FD⟩ := T.d__law_through.ex
  exact fn_mk (N := ["deck", "page", "spot", "found", "seen", "line", "wall", "j", "x", "y"]) false hm FD sc__law_through (FD.bindsN fun _ _ _ _ _ _ us hl => match us, hl with | [_, _], _ => rfl) fun cdv A outer s H E C =>
    (show SSs _ _ G__law_through from (ss_cons (ss_lc 2 [("j", 7)] C (ei_range1 T.b_range (ea_cons (ee_ixS (ee_var 1) (ee_int)) ea_nil)) (by rfl) (fun _ _ _ _ _ => (eg_name 7 C.nd)) (fun _ _ _ _ _ C1 => ets_nil) (fun _ _ _ _ _ C1 => (ee_op op_sub od_sub (ee_call (fn__law_take T) C1 (ea_cons (ee_var 0) (ea_cons (ee_int) ea_nil))) (ee_int))))
    (ss_cons (ss_par 3 4 C.calm C.nd (ea_cons (ee_lstM ea_nil) (ea_cons (ee_dnewT) ea_nil)))
    (ss_cons (ss_for C (ei_seq (ee_ixS (ee_var 1) (ee_int))) (eg_name 5 C.nd) (ss_cons (ss_set 6 C.nd (ee_callB (cr_sum C.calm) cd_sum T.b_sum (by decide +kernel) (ea_cons (ee_lc [("x", 8), ("y", 9)] C (ei_zip T.b_zip (ea_cons (ee_ixS (ee_var 5) (ee_int)) (ea_cons (ee_var 2) ea_nil))) (by rfl) (fun _ _ _ _ _ => (eg_tup C.calm (egs_cons (eg_name 8 C.nd) (egs_cons (eg_name 9 C.nd) egs_nil)) (gsCons_len (gsCons_len gsNil_len (gN_ok _)) (gN_ok _)))) (fun _ _ _ _ _ C1 => ets_nil) (fun _ _ _ _ _ C1 => (ee_op op_mulD od_mul (ee_var 8) (ee_var 9)))) ea_nil)))
    (ss_one (ss_if (ew_and (et_cmp op_lt od_cmp (ee_callB call_abs cd_abs T.b_abs (by decide +kernel) (ea_cons (ee_var 6) ea_nil)) (ee_int)) (ew_and1 (et_dnotin (units1 C.room) (ee_call (fn__law_ground T) C (ea_cons (ee_tup (ea_cons (ee_ixS (ee_var 5) (ee_int)) (ea_cons (ee_var 6) ea_nil))) ea_nil)) (ee_var 4)))).t (ss_cons (ss_dput (units1 C.room) (ee_bl) (ee_var 4) (ee_call (fn__law_ground T) C (ea_cons (ee_tup (ea_cons (ee_ixS (ee_var 5) (ee_int)) (ea_cons (ee_var 6) ea_nil))) ea_nil)))
    (ss_one (ss_expr (ee_lm PySem.F.slot_list_append PySem.F.type_list_append mt_append lm_append (ee_var 3) (ea_cons (ee_tup (ea_cons (ee_ixS (ee_var 5) (ee_int)) (ea_cons (ee_var 6) ea_nil))) ea_nil))))) (ss_nil)))))
    (ss_one (ss_ret (ee_tup (ea_cons (ee_ixS (ee_var 1) (ee_int)) (ea_cons (ee_callTy call_tuple_of cd_tuple T.b_tuple (by decide +kernel) (ea_cons (ee_var 3) ea_nil)) ea_nil)))))))))
theorem sc__law_web : FnScope ["deck", "size", "lines", "i", "j", "k"] ["deck"] Z__law_web := ⟨rfl, rfl, rfl, by decide +kernel, rfl, by decide +kernel, by decide +kernel⟩
theorem fn__law_web {P : Program} {w : World} {K : PySem.W.Frag} {mg : Str → Option Value} {base : Heap} (T : TopF K mg) : FnF P w K mg base "_law_web" A__law_web B__law_web Z__law_web ["deck"] 2 F__law_web := by
  obtain ⟨fd, hm, FD⟩ := T.d__law_web.ex
  exact fn_mk (N := ["deck", "size", "lines", "i", "j", "k"]) false hm FD sc__law_web (FD.bindsN fun _ _ _ _ _ _ us hl => match us, hl with | [_], _ => rfl) fun cdv A outer s H E C =>
    (show SSs _ _ G__law_web from (ss_cons (ss_par 1 2 C.calm C.nd (ea_cons (ee_op op_addD od_add (ee_int) (ee_call (fn__law_take T) C (ea_cons (ee_var 0) (ea_cons (ee_int) ea_nil)))) (ea_cons (ee_lstM ea_nil) ea_nil)))
    (ss_cons (ss_for C (ei_range1 T.b_range (ea_cons (ee_var 1) ea_nil)) (eg_name 3 C.nd) (ss_one (ss_for C (ei_range2 T.b_range (ea_cons (ee_op op_addD od_add (ee_var 3) (ee_int)) (ea_cons (ee_var 1) ea_nil))) (eg_name 4 C.nd) (ss_one (ss_if (et_cmp op_gt od_cmp (ee_call (fn__law_take T) C (ea_cons (ee_var 0) (ea_cons (ee_int) ea_nil))) (ee_int)) (ss_one (ss_expr (ee_lm PySem.F.slot_list_append PySem.F.type_list_append mt_append lm_append (ee_var 2) (ea_cons (ee_tup (ea_cons (ee_callTy call_tuple_of cd_tuple T.b_tuple (by decide +kernel) (ea_cons (ee_lc [("k", 5)] C (ei_range1 T.b_range (ea_cons (ee_var 1) ea_nil)) (by rfl) (fun _ _ _ _ _ => (eg_name 5 C.nd)) (fun _ _ _ _ _ C1 => ets_nil) (fun _ _ _ _ _ C1 => (ee_op op_sub od_sub (ee_callTy call_int1 cd_int T.b_int (by decide +kernel) (ea_cons (ee_cmp (op_eqD C1.room.units) od_eq (ee_var 5) (ee_var 3)) ea_nil)) (ee_callTy call_int1 cd_int T.b_int (by decide +kernel) (ea_cons (ee_cmp (op_eqD C1.room.units) od_eq (ee_var 5) (ee_var 4)) ea_nil))))) ea_nil)) (ea_cons (ee_int) ea_nil))) ea_nil)))) (ss_nil))))))
    (ss_one (ss_ret (ee_tup (ea_cons (ee_var 1) (ea_cons (ee_callTy call_tuple_of cd_tuple T.b_tuple (by decide +kernel) (ea_cons (ee_var 2) ea_nil)) ea_nil))))))))
theorem sc__law_least : FnScope ["rows", "total", "sign", "j", "rest", "row"] ["rows"] Z__law_least := ⟨rfl, rfl, rfl, by decide +kernel, rfl, by decide +kernel, by decide +kernel⟩
theorem fR__law_least {P : Program} {w : World} {K : PySem.W.Frag} {mg : Str → Option Value} {base : Heap} (T : TopF K mg) : ∀ k, FnF P w K mg base "_law_least" A__law_least B__law_least Z__law_least ["rows"] (1 + k) (R__law_least k)
  | 0 => by
    obtain ⟨fd, hm, FD⟩ := T.d__law_least.ex
    exact fn_no (k := 0) hm FD sc__law_least (FD.bindsN fun _ _ _ _ _ _ us hl => match us, hl with | [_], _ => rfl)
  | k + 1 => by
    have Sf := fR__law_least (P := P) (w := w) (base := base) T k
    obtain ⟨fd, hm, FD⟩ := T.d__law_least.ex
    exact fn_mk (N := ["rows", "total", "sign", "j", "rest", "row"]) (k := 1 + k) false hm FD sc__law_least (FD.bindsN fun _ _ _ _ _ _ us hl => match us, hl with | [_], _ => rfl) fun cdv A outer s H E C =>
    (show SSs _ _ (G__law_least (R__law_least k)) from (ss_cons (ss_if (et_cmp (op_eqD C.room.units) od_eq (ee_var 0) (ee_lst ea_nil)) (ss_one (ss_ret (ee_int))) (ss_nil))
    (ss_cons (ss_parT C.calm (ea_cons (ee_int) (ea_cons (ee_int) ea_nil)) (ng_cons 1 C.nd (ng_cons 2 C.nd ng_nil)))
    (ss_cons (ss_for C (ei_range1 T.b_range (ea_cons (ee_len T.b_len (ee_var 0)) ea_nil)) (eg_name 3 C.nd) (ss_cons (ss_lc 4 [("row", 5)] C (ei_seq (ee_sl (ee_var 0) (eo_some (ee_int)) eo_none)) (by rfl) (fun _ _ _ _ _ => (eg_name 5 C.nd)) (fun _ _ _ _ _ C1 => ets_nil) (fun _ _ _ _ _ C1 => (ee_op op_addD od_add (ee_sl (ee_var 5) eo_none (eo_some (ee_var 3))) (ee_sl (ee_var 5) (eo_some (ee_op op_addD od_add (ee_var 3) (ee_int))) eo_none))))
    (ss_cons (ss_set 1 C.nd (ee_op op_addD od_add (ee_var 1) (ee_op op_mulD od_mul (ee_op op_mulD od_mul (ee_var 2) (ee_ixS (ee_ixS (ee_var 0) (ee_int)) (ee_var 3))) (ee_call (Sf) C (ea_cons (ee_var 4) ea_nil) (hk := by omega)))))
    (ss_one (ss_set 2 C.nd (ee_un un_neg ud_neg (ee_var 2)))))))
    (ss_one (ss_ret (ee_var 1)))))))
theorem fn__law_least {P : Program} {w : World} {K : PySem.W.Frag} {mg : Str → Option Value} {base : Heap} (T : TopF K mg) : FnF P w K mg base "_law_least" A__law_least B__law_least Z__law_least ["rows"] 13 F__law_least := fR__law_least T 12
theorem sc__law_picks : FnScope ["many", "size", "found", "turn", "longer", "pick", "j"] ["many", "size"] Z__law_picks := ⟨rfl, rfl, rfl, by decide +kernel, rfl, by decide +kernel, by decide +kernel⟩
theorem fn__law_picks {P : Program} {w : World} {K : PySem.W.Frag} {mg : Str → Option Value} {base : Heap} (T : TopF K mg) : FnF P w K mg base "_law_picks" A__law_picks B__law_picks Z__law_picks ["many", "size"] 1 F__law_picks := by
  obtain ⟨fd, hm, FD⟩ := T.d__law_picks.ex
  exact fn_mk (N := ["many", "size", "found", "turn", "longer", "pick", "j"]) false hm FD sc__law_picks (FD.bindsN fun _ _ _ _ _ _ us hl => match us, hl with | [_, _], _ => rfl) fun cdv A outer s H E C =>
    (show SSs _ _ G__law_picks from (ss_cons (ss_set 2 C.nd (ee_lst (ea_cons (ee_lst ea_nil) ea_nil)))
    (ss_cons (ss_for C (ei_range1 T.b_range (ea_cons (ee_var 1) ea_nil)) (eg_name 3 C.nd) (ss_cons (ss_set 4 C.nd (ee_lst ea_nil))
    (ss_cons (ss_for C (ei_seq (ee_var 2)) (eg_name 5 C.nd) (ss_one (ss_set 4 C.nd (ee_op op_addD od_add (ee_var 4) (ee_lc [("j", 6)] C (ei_range2 T.b_range (ea_cons (ee_if (et_cmp (op_neD C.room.units) od_ne (ee_var 5) (ee_lst ea_nil)) (ee_op op_addD od_add (ee_ixS (ee_var 5) (ee_un un_neg ud_neg (ee_int))) (ee_int)) (ee_int)) (ea_cons (ee_var 0) ea_nil))) (by rfl) (fun _ _ _ _ _ => (eg_name 6 C.nd)) (fun _ _ _ _ _ C1 => ets_nil) (fun _ _ _ _ _ C1 => (ee_op op_addD od_add (ee_var 5) (ee_lst (ea_cons (ee_var 6) ea_nil)))))))))
    (ss_one (ss_set 2 C.nd (ee_var 4))))))
    (ss_one (ss_ret (ee_var 2))))))
theorem sc__law_rank : FnScope ["rows", "wide", "size", "pick", "columns", "j", "i"] ["rows", "wide"] Z__law_rank := ⟨rfl, rfl, rfl, by decide +kernel, rfl, by decide +kernel, by decide +kernel⟩
theorem fn__law_rank {P : Program} {w : World} {K : PySem.W.Frag} {mg : Str → Option Value} {base : Heap} (T : TopF K mg) : FnF P w K mg base "_law_rank" A__law_rank B__law_rank Z__law_rank ["rows", "wide"] 14 F__law_rank := by
  obtain ⟨fd, hm, FD⟩ := T.d__law_rank.ex
  exact fn_mk (N := ["rows", "wide", "size", "pick", "columns", "j", "i"]) false hm FD sc__law_rank (FD.bindsN fun _ _ _ _ _ _ us hl => match us, hl with | [_, _], _ => rfl) fun cdv A outer s H E C =>
    (show SSs _ _ G__law_rank from (ss_cons (ss_for C (ei_rangeD T.b_range (ea_cons (ee_callB (call_min2 C.calm) cd_min2 T.b_min (by decide +kernel) (ea_cons (ee_len T.b_len (ee_var 0)) (ea_cons (ee_var 1) ea_nil))) (ea_cons (ee_int) (ea_cons (ee_un un_neg ud_neg (ee_int)) ea_nil)))) (eg_name 2 C.nd) (ss_one (ss_for C (ei_seq (ee_call (fn__law_picks T) C (ea_cons (ee_len T.b_len (ee_var 0)) (ea_cons (ee_var 2) ea_nil)))) (eg_name 3 C.nd) (ss_one (ss_for C (ei_seq (ee_call (fn__law_picks T) C (ea_cons (ee_var 1) (ea_cons (ee_var 2) ea_nil)))) (eg_name 4 C.nd) (ss_one (ss_if (et_cmp (op_neD C.room.units) od_ne (ee_call (fn__law_least T) C (ea_cons (ee_lc [("i", 6)] C (ei_seq (ee_var 3)) (by rfl) (fun _ _ _ _ _ => (eg_name 6 C.nd)) (fun _ _ _ _ _ C1 => ets_nil) (fun _ _ _ _ _ C1 => (ee_lc [("j", 5)] C1 (ei_seq (ee_var 4)) (by rfl) (fun _ _ _ _ _ => (eg_name 5 C1.nd)) (fun _ _ _ _ _ C2 => ets_nil) (fun _ _ _ _ _ C2 => (ee_ixS (ee_ixS (ee_var 0) (ee_var 6)) (ee_var 5)))))) ea_nil)) (ee_int)) (ss_one (ss_ret (ee_var 2))) (ss_nil))))))))
    (ss_one (ss_ret (ee_int)))))
theorem sc__law_less_row : FnScope ["row", "lead", "j", "share", "u", "v"] ["row", "lead", "j"] Z__law_less_row := ⟨rfl, rfl, rfl, by decide +kernel, rfl, by decide +kernel, by decide +kernel⟩
theorem fn__law_less_row {P : Program} {w : World} {K : PySem.W.Frag} {mg : Str → Option Value} {base : Heap} (T : TopF K mg) : FnF P w K mg base "_law_less_row" A__law_less_row B__law_less_row Z__law_less_row ["row", "lead", "j"] 4 F__law_less_row := by
  obtain ⟨fd, hm, FD⟩ := T.d__law_less_row.ex
  exact fn_mk (N := ["row", "lead", "j", "share", "u", "v"]) false hm FD sc__law_less_row (FD.bindsN fun _ _ _ _ _ _ us hl => match us, hl with | [_, _, _], _ => rfl) fun cdv A outer s H E C =>
    (show SSs _ _ G__law_less_row from (ss_cons (ss_set 3 C.nd (ee_call (fn__law_times T) C (ea_cons (ee_tup (ea_cons (ee_un un_neg ud_neg (ee_ixS (ee_ixS (ee_var 0) (ee_var 2)) (ee_int))) (ea_cons (ee_ixS (ee_ixS (ee_var 0) (ee_var 2)) (ee_int)) ea_nil))) (ea_cons (ee_call (fn__law_pair T) C (ea_cons (ee_ixS (ee_ixS (ee_var 1) (ee_var 2)) (ee_int)) (ea_cons (ee_ixS (ee_ixS (ee_var 1) (ee_var 2)) (ee_int)) ea_nil))) ea_nil))))
    (ss_one (ss_ret (ee_lc [("u", 4), ("v", 5)] C (ei_zip T.b_zip (ea_cons (ee_var 0) (ea_cons (ee_var 1) ea_nil))) (by rfl) (fun _ _ _ _ _ => (eg_tup C.calm (egs_cons (eg_name 4 C.nd) (egs_cons (eg_name 5 C.nd) egs_nil)) (gsCons_len (gsCons_len gsNil_len (gN_ok _)) (gN_ok _)))) (fun _ _ _ _ _ C1 => ets_nil) (fun _ _ _ _ _ C1 => (ee_call (fn__law_plus T) C1 (ea_cons (ee_var 4) (ea_cons (ee_call (fn__law_times T) C1 (ea_cons (ee_var 3) (ea_cons (ee_var 5) ea_nil))) ea_nil)))))))))
theorem sc__law_meeting : FnScope ["page", "size", "rows", "kept", "j", "leads", "lead", "spot", "rest", "i", "x", "line", "row"] ["page"] Z__law_meeting := ⟨rfl, rfl, rfl, by decide +kernel, rfl, by decide +kernel, by decide +kernel⟩
theorem fn__law_meeting {P : Program} {w : World} {K : PySem.W.Frag} {mg : Str → Option Value} {base : Heap} (T : TopF K mg) : FnF P w K mg base "_law_meeting" A__law_meeting B__law_meeting Z__law_meeting ["page"] 5 F__law_meeting := by
  obtain ⟨fd, hm, FD⟩ := T.d__law_meeting.ex
  exact fn_mk (N := ["page", "size", "rows", "kept", "j", "leads", "lead", "spot", "rest", "i", "x", "line", "row"]) false hm FD sc__law_meeting (FD.bindsN fun _ _ _ _ _ _ us hl => match us, hl with | [_], _ => rfl) fun cdv A outer s H E C =>
    (show SSs _ _ G__law_meeting from (ss_cons (ss_par3 1 2 3 C.calm C.nd (ea_cons (ee_ixS (ee_var 0) (ee_int)) (ea_cons (ee_lc [("line", 11)] C (ei_seq (ee_ixS (ee_var 0) (ee_int))) (by rfl) (fun _ _ _ _ _ => (eg_name 11 C.nd)) (fun _ _ _ _ _ C1 => ets_nil) (fun _ _ _ _ _ C1 => (ee_op op_addD od_add (ee_lc [("x", 10)] C1 (ei_seq (ee_ixS (ee_var 11) (ee_int))) (by rfl) (fun _ _ _ _ _ => (eg_name 10 C1.nd)) (fun _ _ _ _ _ C2 => ets_nil) (fun _ _ _ _ _ C2 => (ee_tup (ea_cons (ee_var 10) (ea_cons (ee_int) ea_nil))))) (ee_lst (ea_cons (ee_tup (ea_cons (ee_ixS (ee_var 11) (ee_int)) (ea_cons (ee_int) ea_nil))) ea_nil))))) (ea_cons (ee_lstM ea_nil) ea_nil))))
    (ss_cons (ss_for C (ei_range1 T.b_range (ea_cons (ee_var 1) ea_nil)) (eg_name 4 C.nd) (ss_cons (ss_lc 5 [("row", 12)] C (ei_seq (ee_var 2)) (by rfl) (fun _ _ _ _ _ => (eg_name 12 C.nd)) (fun _ _ _ _ _ C1 => (ets_one (et_cmp (op_neD C1.room.units) od_ne (ee_ixS (ee_ixS (ee_var 12) (ee_var 4)) (ee_int)) (ee_int)))) (fun _ _ _ _ _ C1 => (ee_var 12)))
    (ss_one (ss_if (et_cmp (op_neD C.room.units) od_ne (ee_var 5) (ee_lst ea_nil)) (ss_cons (ss_set 6 C.nd (ee_ixS (ee_var 5) (ee_int)))
    (ss_cons (ss_expr (ee_lm PySem.F.slot_list_append PySem.F.type_list_append mt_append lm_append (ee_var 3) (ea_cons (ee_tup (ea_cons (ee_var 4) (ea_cons (ee_var 6) ea_nil))) ea_nil)))
    (ss_one (ss_lc 2 [("row", 12)] C (ei_seq (ee_var 2)) (by rfl) (fun _ _ _ _ _ => (eg_name 12 C.nd)) (fun _ _ _ _ _ C1 => ets_nil) (fun _ _ _ _ _ C1 => (ee_call (fn__law_less_row T) C1 (ea_cons (ee_var 12) (ea_cons (ee_var 6) (ea_cons (ee_var 4) ea_nil))))))))) (ss_nil)))))
    (ss_cons (ss_set 7 C.nd (ee_opM op_rep odm_mul (ee_lst (ea_cons (ee_tup (ea_cons (ee_int) (ea_cons (ee_int) ea_nil))) ea_nil)) (ee_var 1)))
    (ss_cons (ss_for C (ei_seq (ee_rev (ee_var 3))) (eg_tup C.calm (egs_cons (eg_name 4 C.nd) (egs_cons (eg_name 6 C.nd) egs_nil)) (gsCons_len (gsCons_len gsNil_len (gN_ok _)) (gN_ok _))) (ss_cons (ss_set 8 C.nd (ee_ixS (ee_var 6) (ee_var 1)))
    (ss_cons (ss_for C (ei_range1 T.b_range (ea_cons (ee_var 1) ea_nil)) (eg_name 9 C.nd) (ss_one (ss_if (et_cmp (op_neD C.room.units) od_ne (ee_var 9) (ee_var 4)) (ss_one (ss_set 8 C.nd (ee_call (fn__law_plus T) C (ea_cons (ee_var 8) (ea_cons (ee_call (fn__law_times T) C (ea_cons (ee_tup (ea_cons (ee_un un_neg ud_neg (ee_ixS (ee_ixS (ee_var 6) (ee_var 9)) (ee_int))) (ea_cons (ee_ixS (ee_ixS (ee_var 6) (ee_var 9)) (ee_int)) ea_nil))) (ea_cons (ee_ixS (ee_var 7) (ee_var 9)) ea_nil))) ea_nil))))) (ss_nil))))
    (ss_one (ss_sub (ee_call (fn__law_times T) C (ea_cons (ee_var 8) (ea_cons (ee_call (fn__law_pair T) C (ea_cons (ee_ixS (ee_ixS (ee_var 6) (ee_var 4)) (ee_int)) (ea_cons (ee_ixS (ee_ixS (ee_var 6) (ee_var 4)) (ee_int)) ea_nil))) ea_nil))) (ee_var 7) (ee_var 4))))))
    (ss_one (ss_ret (ee_callTy call_tuple_of cd_tuple T.b_tuple (by decide +kernel) (ea_cons (ee_var 7) ea_nil)))))))))
theorem sc__law_right : FnScope ["deck", "page", "size", "lines", "due", "meets", "place", "less", "line"] ["deck", "page"] Z__law_right := ⟨rfl, rfl, rfl, by decide +kernel, rfl, by decide +kernel, by decide +kernel⟩
theorem fn__law_right {P : Program} {w : World} {K : PySem.W.Frag} {mg : Str → Option Value} {base : Heap} (T : TopF K mg) : FnF P w K mg base "_law_right" A__law_right B__law_right Z__law_right ["deck", "page"] 15 F__law_right := by
  obtain ⟨fd, hm, FD⟩ := T.d__law_right.ex
  exact fn_mk (N := ["deck", "page", "size", "lines", "due", "meets", "place", "less", "line"]) false hm FD sc__law_right (FD.bindsN fun _ _ _ _ _ _ us hl => match us, hl with | [_, _], _ => rfl) fun cdv A outer s H E C =>
    (show SSs _ _ G__law_right from (ss_cons (ss_asg (ee_var 1) (eg_tup C.calm (egs_cons (eg_name 2 C.nd) (egs_cons (eg_name 3 C.nd) egs_nil)) (gsCons_len (gsCons_len gsNil_len (gN_ok _)) (gN_ok _))))
    (ss_cons (ss_set 4 C.nd (ee_call (fn__law_rank T) C (ea_cons (ee_lc [("line", 8)] C (ei_seq (ee_var 3)) (by rfl) (fun _ _ _ _ _ => (eg_name 8 C.nd)) (fun _ _ _ _ _ C1 => ets_nil) (fun _ _ _ _ _ C1 => (ee_callTy call_list_of cd_list T.b_list (by decide +kernel) (ea_cons (ee_ixS (ee_var 8) (ee_int)) ea_nil)))) (ea_cons (ee_var 2) ea_nil))))
    (ss_cons (ss_set 5 C.nd (ee_cmp (op_eqD C.room.units) od_eq (ee_call (fn__law_rank T) C (ea_cons (ee_lc [("line", 8)] C (ei_seq (ee_var 3)) (by rfl) (fun _ _ _ _ _ => (eg_name 8 C.nd)) (fun _ _ _ _ _ C1 => ets_nil) (fun _ _ _ _ _ C1 => (ee_op op_addD od_add (ee_callTy call_list_of cd_list T.b_list (by decide +kernel) (ea_cons (ee_ixS (ee_var 8) (ee_int)) ea_nil)) (ee_lst (ea_cons (ee_ixS (ee_var 8) (ee_int)) ea_nil))))) (ea_cons (ee_op op_addD od_add (ee_var 2) (ee_int)) ea_nil))) (ee_var 4)))
    (ss_cons (ss_if (et_not (et_val (ee_call (fn__law_same T) C (ea_cons (ee_lst (ea_cons (ee_call (fn_rank T) C (ea_cons (ee_var 1) ea_nil)) (ea_cons (ee_callK0 (fn_rank T) C ["book"] [0] (ek_cons (ee_var 1) ek_nil) (fun _ _ _ _ _ _ ws hl => match ws, hl with | [_], _ => rfl)) (ea_cons (ee_call (fn_at_once T) C (ea_cons (ee_var 1) ea_nil)) (ea_cons (ee_callK0 (fn_at_once T) C ["book"] [0] (ek_cons (ee_var 1) ek_nil) (fun _ _ _ _ _ _ ws hl => match ws, hl with | [_], _ => rfl)) ea_nil))))) (ea_cons (ee_lst (ea_cons (ee_var 4) (ea_cons (ee_var 4) (ea_cons (ee_var 5) (ea_cons (ee_var 5) ea_nil))))) ea_nil))))) (ss_one (ss_ret (ee_bl))) (ss_nil))
    (ss_cons (ss_if (ew_and (et_val (ee_var 5)) (ew_and1 (et_not (et_val (ee_call (fn__law_same T) C (ea_cons (ee_call (fn_row_of T) C (ea_cons (ee_var 1) (ea_cons (ee_call (fn__law_meeting T) C (ea_cons (ee_var 1) ea_nil)) ea_nil))) (ea_cons (ee_op op_mulD od_mul (ee_tup (ea_cons (ee_int) ea_nil)) (ee_len T.b_len (ee_var 3))) ea_nil))))))).t (ss_one (ss_ret (ee_bl))) (ss_nil))
    (ss_cons (ss_if (et_cmp (op_eqD C.room.units) od_eq (ee_var 3) (ee_tup ea_nil)) (ss_one (ss_ret (ee_bl))) (ss_nil))
    (ss_cons (ss_set 6 C.nd (ee_call (fn__law_take T) C (ea_cons (ee_var 0) (ea_cons (ee_len T.b_len (ee_var 3)) ea_nil))))
    (ss_cons (ss_set 7 C.nd (ee_call (fn_rank T) C (ea_cons (ee_call (fn_without T) C (ea_cons (ee_var 1) (ea_cons (ee_var 6) ea_nil))) ea_nil)))
    (ss_one (ss_ret (ee_and (ee_cmp (op_inX (units65 C.room)) (od_in false) (ee_var 7) (ee_lst (ea_cons (ee_op op_sub od_sub (ee_var 4) (ee_int)) (ea_cons (ee_var 4) ea_nil))) (by rfl)) (ee_one (ee_call (fn__law_same T) C (ea_cons (ee_lst (ea_cons (ee_call (fn_rank T) C (ea_cons (ee_call (fn_turned T) C (ea_cons (ee_var 1) (ea_cons (ee_var 6) ea_nil))) ea_nil)) (ea_cons (ee_call (fn_at_once T) C (ea_cons (ee_call (fn_turned T) C (ea_cons (ee_var 1) (ea_cons (ee_var 6) ea_nil))) ea_nil)) ea_nil))) (ea_cons (ee_lst (ea_cons (ee_var 4) (ea_cons (ee_var 5) ea_nil))) ea_nil))))))))))))))))
theorem sc_law : FnScope ["script", "at", "deck", "page"] ["script"] Z_law := ⟨rfl, rfl, rfl, by decide +kernel, rfl, by decide +kernel, by decide +kernel⟩
theorem fn_law {P : Program} {w : World} {K : PySem.W.Frag} {mg : Str → Option Value} {base : Heap} (T : TopF K mg) : FnF P w K mg base "law" A_law B_law Z_law ["script"] 16 F_law := by
  obtain ⟨fd, hm, FD⟩ := T.d_law.ex
  exact fn_mk (N := ["script", "at", "deck", "page"]) false hm FD sc_law (FD.bindsN fun _ _ _ _ _ _ us hl => match us, hl with | [_], _ => rfl) fun cdv A outer s H E C =>
    (show SSs _ _ G_law from (ss_cons (ss_for C (ei_range1 T.b_range (ea_cons (ee_callB (call_max2 C.calm) cd_max2 T.b_max (by decide +kernel) (ea_cons (ee_int) (ea_cons (ee_callB (call_min2 C.calm) cd_min2 T.b_min (by decide +kernel) (ea_cons (ee_len T.b_len (ee_var 0)) (ea_cons (ee_int) ea_nil))) ea_nil))) ea_nil)) (eg_name 1 C.nd) (ss_cons (ss_set 2 C.nd (ee_call (fn__law_deck T) C (ea_cons (ee_var 0) (ea_cons (ee_var 1) ea_nil))))
    (ss_cons (ss_set 3 C.nd (ee_call (fn__law_page T) C (ea_cons (ee_var 2) (ea_cons (ee_int) ea_nil))))
    (ss_cons (ss_if (ew_or (et_not (et_val (ee_call (fn__law_right T) C (ea_cons (ee_var 2) (ea_cons (ee_var 3) ea_nil))))) (ew_or1 (et_not (et_val (ee_call (fn__law_right T) C (ea_cons (ee_var 2) (ea_cons (ee_call (fn__law_through T) C (ea_cons (ee_var 2) (ea_cons (ee_var 3) ea_nil))) ea_nil))))))).t (ss_one (ss_ret (ee_bl))) (ss_nil))
    (ss_one (ss_if (ew_and (et_cmp op_lt od_cmp (ee_var 1) (ee_int)) (ew_and1 (et_not (et_val (ee_call (fn__law_right T) C (ea_cons (ee_var 2) (ea_cons (ee_call (fn__law_web T) C (ea_cons (ee_var 2) ea_nil)) ea_nil))))))).t (ss_one (ss_ret (ee_bl))) (ss_nil)))))))
    (ss_one (ss_ret (ee_bl)))))
end W_k03

set_option maxHeartbeats 400000
namespace W_k03
open PySem PySem.Spec PyProof.Rows L2 DL
/-! ### fresh.py: numbers -/
section
variable {h : Hs}
theorem lowest_ok0 {t b : Int} (hb : b ≠ 0) (e3 : (comm2 t b).natAbs.log2 < 9000) : F_lowest [.d (.int t), .d (.int b)] h = .ok (.d (qD (Rat.divInt t b))) h := by
  have e1 := comm2_num (t := t) hb
  have e2 := comm2_den (t := t) hb
  have e4 := comm2_ne (t := t) hb
  have sz : (2 : Nat) ≤ sizeLine := by rw [sizeLine_eq]; omega
  refine wpR_eq ?_
  unfold F_lowest G_lowest
  rw [wpR_mkF]
  refine ⟨rfl, ?_⟩
  by_cases hn : b < 0
  · have ec : comm2 t b = -((Nat.gcd t.natAbs b.natAbs : Nat) : Int) := if_pos hn
    rw [ec] at e1 e2 e3
    rw [Int.natAbs_neg, Int.natAbs_natCast] at e3
    simp [startE, hn, gFdivN, hb, e3, e1, e2, sz, qD]
  · have ec : comm2 t b = ((Nat.gcd t.natAbs b.natAbs : Nat) : Int) := if_neg hn
    simp [startE, hn, ← ec, gFdivN, e4, e3, e1, e2, sz, qD]
theorem lowest_ok {n : Nat} {t b : Int} (hb : b ≠ 0) (h2 : Lt2 n b) (hn : n ≤ 8000) : F_lowest [.d (.int t), .d (.int b)] h = .ok (.d (qD (Rat.divInt t b))) h :=
  lowest_ok0 hb (Nat.lt_of_le_of_lt (comm2_log (t := t) hb h2) (by omega))
theorem dn (q : Rat) : (q.den : Int) ≠ 0 := by have := q.den_nz; omega
theorem qD0 (q : Rat) : dIx (qD q) (.int 0) = some (.int q.num) := rfl
theorem qD1 (q : Rat) : dIx (qD q) (.int 1) = some (.int q.den) := rfl
theorem sum_of_two_ok {n m : Nat} {a b : Rat} (ha : Bd n a) (hb : Bd m b) (hn : min n m ≤ 4400 ∧ n + m ≤ 400000) : F_sum_of_two [.d (qD a), .d (qD b)] h = .ok (.d (qD (a + b))) h := by
  have l := lowest_ok0 (h := h) (t := a.num * b.den + b.num * a.den) (Int.mul_ne_zero (dn a) (dn b)) (Nat.lt_of_le_of_lt (comm_add ha hb) (by omega))
  rw [qadd] at l
  refine wpR_eq ?_
  unfold F_sum_of_two G_sum_of_two
  rw [wpR_mkF]
  refine ⟨rfl, ?_⟩
  simp [startE, qD0, qD1, dMul_of ha.1 (Lt2.den hb) (by omega), dMul_of hb.1 (Lt2.den ha) (by omega), dMul_of (Lt2.den ha) (Lt2.den hb) (by omega), l]
theorem product_ok {n m : Nat} {a b : Rat} (ha : Bd n a) (hb : Bd m b) (hn : min n m ≤ 4400 ∧ n ≤ 8900 ∧ m ≤ 8900) : F_product [.d (qD a), .d (qD b)] h = .ok (.d (qD (a * b))) h := by
  have l := lowest_ok0 (h := h) (t := a.num * b.num) (Int.mul_ne_zero (dn a) (dn b)) (comm_mul ha hb hn)
  rw [qmul] at l
  refine wpR_eq ?_
  unfold F_product G_product
  rw [wpR_mkF]
  refine ⟨rfl, ?_⟩
  simp [startE, qD0, qD1, dMul_of ha.1 hb.1 (by omega), dMul_of (Lt2.den ha) (Lt2.den hb) (by omega), l]
theorem whole_ok (i : Int) : F_whole [.d (.int i)] h = .ok (.d (qD i)) h := by
  refine wpR_eq ?_
  unfold F_whole G_whole
  rw [wpR_mkF]
  refine ⟨rfl, ?_⟩
  simp [startE, qD_int, sz_le]
theorem opposite_ok (a : Rat) : F_opposite [.d (qD a)] h = .ok (.d (qD (-a))) h := by
  refine wpR_eq ?_
  unfold F_opposite G_opposite
  rw [wpR_mkF]
  refine ⟨rfl, ?_⟩
  simp [startE, qD0, qD1, sz_le]
  simp [qD, Rat.neg_num, Rat.neg_den]
theorem difference_ok {n m : Nat} {a b : Rat} (ha : Bd n a) (hb : Bd m b) (hn : min n m ≤ 4400 ∧ n + m ≤ 400000) : F_difference [.d (qD a), .d (qD b)] h = .ok (.d (qD (a - b))) h := by
  refine wpR_eq ?_
  unfold F_difference G_difference
  rw [wpR_mkF]
  refine ⟨rfl, ?_⟩
  simp [startE, opposite_ok, sum_of_two_ok ha hb.neg hn, Rat.sub_eq_add_neg]
theorem sign_of_ok (i : Int) : F_sign_of [.d (.int i)] h = .ok (.d (.int i.sign)) h := by
  refine wpR_eq ?_
  unfold F_sign_of G_sign_of
  rw [wpR_mkF]
  refine ⟨rfl, ?_⟩
  simp [startE]
  rcases Int.lt_trichotomy i 0 with z | z | z
  · simp [z, Int.sign_eq_neg_one_of_neg z, show ¬ 0 < i by omega]
  · simp [z]
  · simp [z, Int.sign_eq_one_of_pos z, show ¬ i < 0 by omega]
def qsum (qs : List Rat) : Rat := qs.foldl (· + ·) 0
theorem qsum_bd {n : Nat} {qs : List Rat} (hq : ∀ q ∈ qs, Bd n q) : Bd (1 + qs.length * (n + 1)) (qsum qs) := by
  have go : ∀ (qs : List Rat) (a : Rat) (k : Nat), (∀ q ∈ qs, Bd n q) → Bd k a → Bd (k + qs.length * (n + 1)) (qs.foldl (· + ·) a) := by
    intro qs
    induction qs with
    | nil => exact fun a k _ ha => ha.mono (by omega)
    | cons q qs ih =>
      intro a k hq ha
      have z := ih (a + q) (k + n + 1) (fun x m => hq x (List.mem_cons_of_mem _ m)) (ha.add (hq q List.mem_cons_self))
      refine z.mono ?_
      rw [List.length_cons, Nat.succ_mul]
      omega
  exact go qs 0 1 hq (by simp [Bd, Lt2])
theorem sum_of_all_ok {n : Nat} {qs : List Rat} (hq : ∀ q ∈ qs, Bd n q) (hn : n ≤ 4400 ∧ qs.length * (n + 1) + n ≤ 300000) : F_sum_of_all [.d (.list (qs.map qD))] h = .ok (.d (qD (qsum qs))) h := by
  refine wpR_eq ?_
  unfold F_sum_of_all G_sum_of_all
  rw [wpR_mkF]
  refine ⟨rfl, ?_⟩
  simp [startE]
  refine wp_for (fun i ρ h' => ∃ x, h' = h ∧ ρ = [some (.d (.list (qs.map qD))), some (.d (qD (qsum (qs.take i)))), x] ∧ Bd (1 + i * (n + 1)) (qsum (qs.take i))) 0 (fun i ρ h hi => Chk_nil _) ⟨none, rfl, by simp [qsum]; rfl, by simp [qsum, Bd, Lt2]⟩ ?_ ?_
  · rintro i d ρ h' hd ⟨x, rfl, rfl, hb⟩
    rw [Nat.zero_add] at hb
    obtain ⟨q, hq', rfl⟩ : ∃ q, qs[i]? = some q ∧ qD q = d := by simpa using hd
    have hlt : i < qs.length := (List.getElem?_eq_some_iff.mp hq').1
    have bq := hq q (List.mem_of_getElem? hq')
    have le : i * (n + 1) + (n + 1) ≤ qs.length * (n + 1) := by rw [← Nat.succ_mul]; exact Nat.mul_le_mul_right _ hlt
    have e : qsum (qs.take (i + 1)) = qsum (qs.take i) + q := by
      rw [List.take_succ, hq']
      simp [qsum, List.foldl_append]
    have b2 := hb.add bq
    simp [sum_of_two_ok hb bq (by omega), e]
    refine b2.mono ?_
    rw [Nat.succ_mul]
    omega
  · rintro ρ h' ⟨x, rfl, rfl, hb⟩
    simp
end

end W_k03

set_option maxHeartbeats 400000
namespace W_k03
open PySem PySem.Spec PyProof.Rows L2 DL
/-! ### books and points, as they are drawn -/
abbrev Ln := List Int × Int
def lineD (l : Ln) : D := .tuple [.tuple (l.1.map .int), .int l.2]
def pageD (n : Nat) (ls : List Ln) : D := .tuple [.int n, .tuple (ls.map lineD)]
def spotD (qs : List Rat) : D := .tuple (qs.map qD)
def dotq (s : List Int) (qs : List Rat) : Rat := qsum ((s.zip qs).map fun p => (p.1 : Rat) * p.2)
section
variable {h : Hs}
theorem dot_ok {m n : Nat} {s : List Int} {qs : List Rat} (hs : ∀ x ∈ s, Lt2 m x) (hq : ∀ q ∈ qs, Bd n q) (hn : m + 1 + n ≤ 4400 ∧ qs.length * (m + 1 + n + 1) + (m + 1 + n) ≤ 300000) (hz : qs.length ≤ 4096) : F_dot [.d (.tuple (s.map .int)), .d (spotD qs)] h = .ok (.d (qD (dotq s qs))) h := by
  have hl : (s.zip qs).length ≤ qs.length := by rw [List.length_zip]; exact Nat.min_le_right _ _
  have sm := sum_of_all_ok (h := h) (n := m + 1 + n) (qs := (s.zip qs).map fun p => (p.1 : Rat) * p.2) (fun q hq' => by
    obtain ⟨p, hp, rfl⟩ := List.mem_map.mp hq'
    obtain ⟨h1, h2⟩ := List.of_mem_zip hp
    exact (Bd.int (hs _ h1)).mul (hq _ h2)) (by
      rw [List.length_map]
      have := Nat.mul_le_mul_right (m + 1 + n + 1) hl
      omega)
  refine wpR_eq ?_
  unfold F_dot G_dot
  rw [wpR_mkF]
  refine ⟨rfl, ?_⟩
  have cm := compR_map (h := h) (g := []) (gt := gT (gsCons (gN 2) (gsCons (gN 3) gsNil))) (fe := eCall F_product (aCons (eCall F_whole (aCons (eVar 2) aNil)) (aCons (eVar 3) aNil))) (ρ := [some (.d (.tuple (s.map .int))), some (.d (spotD qs)), none, none])
    (fun p : Int × Rat => .tuple [.int p.1, qD p.2]) (fun p => qD ((p.1 : Rat) * p.2)) (l := s.zip qs) (Chk_nil _) (sz_le (by omega)) (fun p hp => by
      obtain ⟨h1, h2⟩ := List.of_mem_zip hp
      have hn' : min (m + 1) n ≤ 4400 ∧ m + 1 ≤ 8900 ∧ n ≤ 8900 := by omega
      simp [whole_ok, product_ok (Bd.int (hs _ h1)) (hq _ h2) hn'])
  unfold spotD at *
  simp [startE]
  rw [zw, cm]
  rw [List.map_map] at sm
  simp only [Function.comp_def] at sm
  simp [sm, dotq]
theorem is_integer_ok (i : Int) : F_is_integer [.d (.int i)] h = .ok (.d (.bool true)) h := by
  refine wpR_eq ?_
  unfold F_is_integer G_is_integer
  rw [wpR_mkF]
  refine ⟨rfl, ?_⟩
  simp [startE]
theorem is_pair_ok (a b : D) : F_is_pair [.d (.tuple [a, b])] h = .ok (.d (.bool true)) h := by
  refine wpR_eq ?_
  unfold F_is_pair G_is_pair
  rw [wpR_mkF]
  refine ⟨rfl, ?_⟩
  simp [startE, dEq_int]
theorem boolsOf_true {γ : Type} : ∀ l : List γ, boolsOf (l.map fun _ => PyData.bool true) = some (l.map fun _ => true)
  | [] => rfl
  | x :: l => by simp only [List.map_cons, boolsOf, boolsOf_true l, Option.map_some]
theorem all_true {γ : Type} (l : List γ) : (l.map fun _ => true).all id = true := by simp
theorem are_integers_ok {s : List Int} (hs : s.length ≤ 4096) : F_are_integers [.d (.tuple (s.map .int))] h = .ok (.d (.bool true)) h := by
  refine wpR_eq ?_
  unfold F_are_integers G_are_integers
  rw [wpR_mkF]
  refine ⟨rfl, ?_⟩
  have cm := compR_map (h := h) (g := []) (gt := gN 1) (fe := eCall F_is_integer (aCons (eVar 1) aNil)) (ρ := [some (.d (.tuple (s.map .int))), none])
    (fun p : Int => .int p) (fun _ => .bool true) (l := s) (Chk_nil _) (sz_le hs) (fun p hp => by simp [is_integer_ok])
  simp [startE, cm, boolsOf_true]
theorem shaped_q (q : Rat) : SeqAt.shaped (qD q) = true := by rfl
theorem eqv_q (a b : Rat) : PyData.eqv (qD a) (qD b) = decide (a = b) := by
  show ((a.num == b.num) && (((a.den : Int) == (b.den : Int)) && true)) = _
  by_cases e : a = b
  · subst e; simp
  · rw [decide_eq_false e]
    rw [Bool.and_eq_false_iff, Bool.and_eq_false_iff]
    by_cases e1 : a.num = b.num
    · right; left
      simp only [beq_eq_false_iff_ne]
      exact fun z => e (Rat.ext e1 (by omega))
    · left
      simpa using e1
theorem is_number_ok {n : Nat} {q : Rat} (hq : Bd n q) (hn : n ≤ 8000) : F_is_number [.d (qD q)] h = .ok (.d (.bool true)) h := by
  have l := lowest_ok (h := h) (t := q.num) (dn q) (Lt2.den hq) hn
  rw [Rat.num_divInt_den] at l
  have pos : 0 < q.den := q.den_pos
  have p2 := is_pair_ok (h := h) (.int q.num) (.int (q.den : Int))
  have ai := are_integers_ok (h := h) (s := [q.num, (q.den : Int)]) (by simp)
  refine wpR_eq ?_
  unfold F_is_number G_is_number
  rw [wpR_mkF]
  refine ⟨rfl, ?_⟩
  have e : dEq (qD q) (qD q) = some (.bool true) := by
    unfold dEq
    rw [if_pos ⟨shaped_q q, shaped_q q⟩, eqv_q]
    simp
  simp only [List.map_cons, List.map_nil] at ai
  rw [show PyData.tuple [.int q.num, .int (q.den : Int)] = qD q from rfl] at p2 ai
  simp [startE, p2, ai, qD0, qD1, pos, l, e]
theorem are_numbers_ok {n : Nat} {qs : List Rat} (hq : ∀ q ∈ qs, Bd n q) (hn : n ≤ 8000) (hl : qs.length ≤ 4096) : F_are_numbers [.d (spotD qs), .d (.int qs.length)] h = .ok (.d (.bool true)) h := by
  refine wpR_eq ?_
  unfold F_are_numbers G_are_numbers
  rw [wpR_mkF]
  refine ⟨rfl, ?_⟩
  have cm := compR_map (h := h) (g := []) (gt := gN 2) (fe := eCall F_is_number (aCons (eVar 2) aNil)) (ρ := [some (.d (spotD qs)), some (.d (.int qs.length)), none])
    qD (fun _ => .bool true) (l := qs) (Chk_nil _) (sz_le hl) (fun q hq' => by simp [is_number_ok (hq q hq') hn])
  unfold spotD at *
  simp [startE, dEq_int, cm, boolsOf_true]
theorem check_point_ok {n : Nat} {qs : List Rat} (hq : ∀ q ∈ qs, Bd n q) (hn : n ≤ 8000) (hl : qs.length ≤ 4096) : F_check_point [.d (.int qs.length), .d (spotD qs)] h = .ok (.d .none) h := by
  refine wpR_eq ?_
  unfold F_check_point G_check_point
  rw [wpR_mkF]
  refine ⟨rfl, ?_⟩
  simp [startE, are_numbers_ok hq hn hl]
end

end W_k03

set_option maxHeartbeats 400000
namespace W_k03
open PySem PySem.Spec PyProof.Rows L2 DL
/-! ### questions: what they stand for, put in lowest terms -/
def gcdL (row : List Int) : Nat := row.foldl (fun g x => Nat.gcd g x.natAbs) 0
def lead (row : List Int) : Int := ((row.filter fun x => decide (x ≠ 0)).head?).getD 0
def rowL (l : Ln) : List Int := l.1 ++ [l.2]
def ground (row : List Int) : List Int := if 0 < lead row then row.map (· / (gcdL row : Int)) else row.map fun x => -(x / (gcdL row : Int))
theorem gcdL_snoc (row : List Int) (x : Int) : gcdL (row ++ [x]) = Nat.gcd (gcdL row) x.natAbs := by simp [gcdL, List.foldl_append]
theorem gcdL_fold (row : List Int) : ∀ g : Nat, (row.foldl (fun g x => Nat.gcd g x.natAbs) g) ∣ g ∧ ∀ x ∈ row, (row.foldl (fun g x => Nat.gcd g x.natAbs) g) ∣ x.natAbs := by
  induction row with
  | nil => exact fun g => ⟨Nat.dvd_refl _, fun x m => by cases m⟩
  | cons y row ih =>
    intro g
    obtain ⟨h1, h2⟩ := ih (Nat.gcd g y.natAbs)
    refine ⟨Nat.dvd_trans h1 (Nat.gcd_dvd_left _ _), fun x m => ?_⟩
    rcases List.mem_cons.mp m with e | m
    · rw [e]; exact Nat.dvd_trans h1 (Nat.gcd_dvd_right _ _)
    · exact h2 x m
theorem gcdL_dvd {row : List Int} {x : Int} (m : x ∈ row) : (gcdL row : Int) ∣ x := Int.ofNat_dvd_left.mpr ((gcdL_fold row 0).2 x m)
theorem gcdL_pos {row : List Int} (h : ∃ x ∈ row, x ≠ 0) : 0 < gcdL row := by
  obtain ⟨x, m, hx⟩ := h
  have := (gcdL_fold row 0).2 x m
  exact Nat.pos_of_dvd_of_pos this (by omega)
theorem gcdL_log {n : Nat} {row : List Int} (h : ∃ x ∈ row, x ≠ 0) (hb : ∀ x ∈ row, Lt2 n x) : ((gcdL row : Nat) : Int).natAbs.log2 ≤ n := by
  obtain ⟨x, m, hx⟩ := h
  have d := (gcdL_fold row 0).2 x m
  have l : gcdL row ≤ x.natAbs := Nat.le_of_dvd (by omega) d
  have : Lt2 n ((gcdL row : Nat) : Int) := by
    unfold Lt2
    rw [Int.natAbs_natCast]
    exact Nat.lt_of_le_of_lt l (hb x m)
  exact this.log
theorem fdiv_gcd {row : List Int} (x : Int) : x.fdiv (gcdL row : Int) = x / (gcdL row : Int) := Int.fdiv_eq_ediv_of_nonneg _ (Int.natCast_nonneg _)
theorem div_ne {g : Nat} {x : Int} (d : (g : Int) ∣ x) (hg : 0 < g) : (x / (g : Int) ≠ 0) ↔ x ≠ 0 := by
  obtain ⟨k, rfl⟩ := d
  rw [Int.mul_ediv_cancel_left _ (by omega)]
  constructor
  · exact fun h z => (Int.mul_eq_zero.mp z).elim (by omega) h
  · exact fun h z => h (by rw [z, Int.mul_zero])
theorem div_pos' {g : Nat} {x : Int} (d : (g : Int) ∣ x) (hg : 0 < g) : (0 < x / (g : Int)) ↔ 0 < x := by
  obtain ⟨k, rfl⟩ := d
  rw [Int.mul_ediv_cancel_left _ (by omega)]
  have : (0 : Int) < g := by omega
  constructor
  · exact fun h => Int.mul_pos this h
  · intro h
    rcases Int.lt_trichotomy k 0 with z | z | z
    · have := Int.mul_neg_of_pos_of_neg this z
      omega
    · rw [z] at h; omega
    · exact z
theorem filter_div {g : Nat} (hg : 0 < g) : ∀ {row : List Int}, (∀ x ∈ row, (g : Int) ∣ x) → (row.map (· / (g : Int))).filter (fun x => decide (x ≠ 0)) = (row.filter fun x => decide (x ≠ 0)).map (· / (g : Int))
  | [], _ => rfl
  | x :: row, h => by
    have ih := filter_div hg fun y m => h y (List.mem_cons_of_mem _ m)
    have e := div_ne (h x List.mem_cons_self) hg
    rw [List.map_cons, List.filter_cons, List.filter_cons, ih]
    by_cases hx : x = 0
    · rw [if_neg (by simp [hx]), if_neg (by simp [hx])]
    · rw [if_pos (decide_eq_true (e.mpr hx)), if_pos (decide_eq_true hx), List.map_cons]
theorem lead_some {row : List Int} (h : ∃ x ∈ row, x ≠ 0) : ∃ y r, (row.filter fun x => decide (x ≠ 0)) = y :: r ∧ lead row = y ∧ y ∈ row ∧ y ≠ 0 := by
  unfold lead
  cases e : row.filter fun x => decide (x ≠ 0) with
  | nil =>
    obtain ⟨x, m, hx⟩ := h
    have : x ∈ row.filter fun x => decide (x ≠ 0) := List.mem_filter.mpr ⟨m, decide_eq_true hx⟩
    rw [e] at this
    cases this
  | cons y r =>
    have : y ∈ row.filter fun x => decide (x ≠ 0) := by rw [e]; exact List.mem_cons_self
    obtain ⟨h1, h2⟩ := List.mem_filter.mp this
    exact ⟨y, r, rfl, rfl, h1, of_decide_eq_true h2⟩
section
variable {h : Hs}
theorem divided_ok {n : Nat} {row : List Int} (hx : ∃ x ∈ row, x ≠ 0) (hb : ∀ x ∈ row, Lt2 n x) (hn : n ≤ 8000) (hl : row.length ≤ 4096) : F_divided [.d (.tuple (row.map .int))] h = .ok (.d (.tuple ((row.map (· / (gcdL row : Int))).map .int))) h := by
  have gp := gcdL_pos hx
  have gl := gcdL_log hx hb
  have g0 : ((gcdL row : Nat) : Int) ≠ 0 := by omega
  refine wpR_eq ?_
  unfold F_divided G_divided
  rw [wpR_mkF]
  refine ⟨rfl, ?_⟩
  simp [startE]
  refine wp_for (fun i ρ h' => ∃ x, h' = h ∧ ρ = [some (.d (.tuple (row.map .int))), some (.d (.int (gcdL (row.take i)))), x]) 0 (fun i ρ h hi => Chk_nil _) ⟨none, rfl, rfl⟩ ?_ ?_
  · rintro i d ρ h' hd ⟨x, rfl, rfl⟩
    obtain ⟨y, hy, rfl⟩ : ∃ y, row[i]? = some y ∧ PyData.int y = d := by simpa using hd
    have e : gcdL (row.take (i + 1)) = Nat.gcd (gcdL (row.take i)) y.natAbs := by
      rw [List.take_succ, hy]
      exact gcdL_snoc _ _
    simp [e]
  · rintro ρ h' ⟨x, rfl, rfl⟩
    simp only [Nat.zero_add, List.length_map, List.take_length]
    have cm := compR_map (h := h') (g := []) (gt := gN 2) (fe := eOp (dInt2 gFdivN) (eVar 2) (eVar 1)) (ρ := [some (.d (.tuple (row.map .int))), some (.d (.int (gcdL row))), none])
      (fun p : Int => .int p) (fun p => .int (p / (gcdL row : Int))) (l := row) (Chk_nil _) (sz_le hl) (fun p hp => by
        have lt : (gcdL row).log2 < 9000 := by rw [Int.natAbs_natCast] at gl; omega
        have g1 : ¬ gcdL row = 0 := by omega
        simp [gFdivN, g1, lt, fdiv_gcd])
    simp [cm]
theorem row_of_question_ok {l : Ln} (hl : l.1.length ≤ 4000) : F_row_of_question [.d (lineD l)] h = .ok (.d (.tuple ((rowL l).map .int))) h := by
  refine wpR_eq ?_
  unfold F_row_of_question G_row_of_question
  rw [wpR_mkF]
  refine ⟨rfl, ?_⟩
  have e : dAdd (.tuple (l.1.map .int)) (.tuple [.int l.2]) = some (.tuple ((rowL l).map .int)) := by
    show (if _ then _ else _) = _
    rw [if_pos (by rw [List.length_map]; exact sz_le (by simp; omega))]
    simp [rowL]
  have i0 : dIx (lineD l) (.int 0) = some (.tuple (l.1.map .int)) := rfl
  have i1 : dIx (lineD l) (.int 1) = some (.int l.2) := rfl
  simp [startE, i0, i1, sz_le, e]
theorem map_map_int {γ : Type} (f : γ → Int) (l : List γ) : (l.map f).map PyData.int = l.map fun x => .int (f x) := by rw [List.map_map]; rfl
theorem ground_of_ok {n : Nat} {l : Ln} (hx : ∃ x ∈ rowL l, x ≠ 0) (hb : ∀ x ∈ rowL l, Lt2 n x) (hn : n ≤ 8000) (hl : l.1.length ≤ 4000) : F_ground_of [.d (lineD l)] h = .ok (.d (.tuple ((ground (rowL l)).map .int))) h := by
  have gp := gcdL_pos hx
  have ll : (rowL l).length ≤ 4096 := by simp [rowL]; omega
  have dv := divided_ok (h := h) hx hb hn ll
  have rq := row_of_question_ok (h := h) hl
  generalize rowL l = row at *
  have dd : ∀ x ∈ row, (gcdL row : Int) ∣ x := fun x m => gcdL_dvd m
  obtain ⟨y, r, e1, e2, e3, e4⟩ := lead_some hx
  have fd := filter_div gp dd
  rw [e1, List.map_cons] at fd
  refine wpR_eq ?_
  unfold F_ground_of G_ground_of
  rw [wpR_mkF]
  refine ⟨rfl, ?_⟩
  have cm := compR_fm (h := h) (g := []) (gt := gN 3) (ft := tVal (eOp dNe (eVar 3) (eC (.int 0)))) (fe := eVar 3) (ρ := [some (.d (lineD l)), some (.d (.tuple ((row.map (· / (gcdL row : Int))).map .int))), none, none]) (acc := [])
    (fun p : Int => .int p) (fun p => .int p) (fun x => decide (x ≠ 0)) (l := row.map (· / (gcdL row : Int))) (Chk_nil _) (sz_le (by simpa using ll)) (fun p hp => by simp [dNe_int])
  rw [fd, List.nil_append, List.map_cons] at cm
  have pos := div_pos' (dd y e3) gp
  simp [startE, rq, dv]
  simp [List.map_map, Function.comp_def] at cm ⊢
  rw [cm]
  simp only [mkL_some, wpR_ok, vS_d, vD_d, dIx_l, atI_zero, Option.map_some, R.opt_some]
  unfold ground
  rw [e2]
  by_cases hp : 0 < y
  · simp [hp, pos.mpr hp, List.map_map, Function.comp_def]
  · have cm2 := compR_map (h := h) (g := []) (gt := gN 3) (fe := eUn dNeg (eVar 3)) (ρ := [some (.d (lineD l)), some (.d (.tuple (row.map fun x => .int (x / (gcdL row : Int))))), some (.d (.int (y / (gcdL row : Int)))), none])
      (fun p : Int => .int (p / (gcdL row : Int))) (fun p => .int (-(p / (gcdL row : Int)))) (l := row) (Chk_nil _) (sz_le ll) (fun p hp => by simp)
    simp [hp, mt pos.mp hp, cm2, List.map_map, Function.comp_def]
end

end W_k03

set_option maxHeartbeats 400000
namespace W_k03
open PySem PySem.Spec PyProof.Rows L2 DL
/-! ### books judged, answers, rows -/
structure LineOk (n m : Nat) (l : Ln) : Prop where
  len : l.1.length = n
  some_ : ∃ x ∈ l.1, x ≠ 0
  bits : ∀ x ∈ rowL l, Lt2 m x
structure PageOk (n m : Nat) (ls : List Ln) : Prop where
  pos : 1 ≤ n
  le : n ≤ 4000
  many : ls.length ≤ 1000
  line : ∀ l ∈ ls, LineOk n m l
  nodup : (ls.map fun l => ground (rowL l)).Nodup
  bitsLe : m ≤ 4000
theorem LineOk.row {n m : Nat} {l : Ln} (k : LineOk n m l) : ∃ x ∈ rowL l, x ≠ 0 := by
  obtain ⟨x, h1, h2⟩ := k.some_
  exact ⟨x, List.mem_append_left _ h1, h2⟩
theorem isCon_cases {s : List Int} (h : isCon (s.map PyData.int) = true) : s = [0, 1] ∨ s = [-1, 0, 1] := by
  match s, h with
  | [a, b], h =>
    left
    unfold isCon at h
    split at h
    · rename_i e; simp at e; obtain ⟨rfl, rfl⟩ := e; rfl
    · rename_i e; simp at e
    · cases h
  | [a, b, c], h =>
    right
    unfold isCon at h
    split at h
    · rename_i e; simp at e
    · rename_i e; simp at e; obtain ⟨rfl, rfl, rfl⟩ := e; rfl
    · cases h
  | [], h => cases h
  | [a], h => simp [isCon] at h
  | a :: b :: c :: d :: r, h => simp [isCon] at h
theorem ground_con {n m : Nat} {l : Ln} (k : LineOk n m l) : isCon ((ground (rowL l)).map PyData.int) = false := by
  cases e : isCon ((ground (rowL l)).map PyData.int) with
  | false => rfl
  | true =>
    exfalso
    have gp := gcdL_pos k.row
    have dd : ∀ x ∈ rowL l, (gcdL (rowL l) : Int) ∣ x := fun x mm => gcdL_dvd mm
    obtain ⟨s, w⟩ := l
    obtain ⟨x, hx1, hx2⟩ := k.some_
    simp only [rowL] at *
    unfold ground at e
    rcases isCon_cases e with c | c
    · -- one side and a wall
      have hs : ∃ a, s = [a] := by
        have := congrArg List.length c
        split at this <;> simp at this <;> (match s, this with | [a], _ => exact ⟨a, rfl⟩)
      obtain ⟨a, rfl⟩ := hs
      have ax : x = a := by simpa using hx1
      subst ax
      have ne := (div_ne (dd x (by simp)) gp).mpr hx2
      simp only [List.cons_append, List.nil_append] at *
      split at c
      · simp only [List.map_cons, List.map_nil, List.cons.injEq] at c
        exact ne c.1
      · simp only [List.map_cons, List.map_nil, List.cons.injEq] at c
        exact ne (Int.neg_eq_zero.mp c.1)
    · have hs : ∃ a b, s = [a, b] := by
        have := congrArg List.length c
        split at this <;> simp at this <;> (match s, this with | [a, b], _ => exact ⟨a, b, rfl⟩)
      obtain ⟨a, b, rfl⟩ := hs
      have ld : a ≠ 0 → lead ([a, b] ++ [w]) = a := fun ha => by simp [lead, ha]
      have dv := dd a (by simp)
      have na : a ≠ 0 := by
        intro z
        split at c <;> simp at c <;> (have := c.1; rw [z] at this; simp at this)
      rw [ld na] at c
      have pos := div_pos' dv gp
      simp only [List.cons_append, List.nil_append] at *
      split at c
      · rename_i ha
        have := pos.mpr ha
        simp only [List.map_cons, List.map_nil, List.cons.injEq] at c
        have := c.1
        omega
      · rename_i ha
        have n2 := mt pos.mp ha
        simp only [List.map_cons, List.map_nil, List.cons.injEq] at c
        have := c.1
        omega
def ansq (l : Ln) (qs : List Rat) : Int := (dotq l.1 qs - (l.2 : Rat)).num.sign
section
variable {h : Hs}
theorem is_question_ok {n m : Nat} {l : Ln} (k : LineOk n m l) (hn : n ≤ 4000) : F_is_question [.d (.int n), .d (lineD l)] h = .ok (.d (.bool true)) h := by
  have hl := k.len
  refine wpR_eq ?_
  unfold F_is_question G_is_question
  rw [wpR_mkF]
  refine ⟨rfl, ?_⟩
  have ip := is_pair_ok (h := h) (.tuple (l.1.map .int)) (.int l.2)
  have i0 : dIx (lineD l) (.int 0) = some (.tuple (l.1.map .int)) := rfl
  have i1 : dIx (lineD l) (.int 1) = some (.int l.2) := rfl
  have ai := are_integers_ok (h := h) (s := l.1) (by omega)
  have cm := compR_map (h := h) (g := []) (gt := gN 2) (fe := eOp dNe (eVar 2) (eC (.int 0))) (ρ := [some (.d (.int n)), some (.d (lineD l)), none])
    (fun p : Int => .int p) (fun p => .bool (decide (p ≠ 0))) (l := l.1) (Chk_nil _) (sz_le (by omega)) (fun p hp => by simp [dNe_int])
  have bo : boolsOf (l.1.map fun p => PyData.bool (decide (p ≠ 0))) = some (l.1.map fun p => decide (p ≠ 0)) := by
    have := boolsOf_map (l.1.map fun p => decide (p ≠ 0))
    rw [List.map_map] at this
    exact this
  have an : (l.1.map fun p => decide (p ≠ 0)).any id = true := by
    obtain ⟨x, h1, h2⟩ := k.some_
    exact List.any_eq_true.mpr ⟨true, List.mem_map.mpr ⟨x, h1, decide_eq_true h2⟩, rfl⟩
  rw [show PyData.tuple [.tuple (l.1.map .int), .int l.2] = lineD l from rfl] at ip
  simp [startE, ip, i0, i1, ai, is_integer_ok, dEq_int, hl]
  rw [cm]
  simp only [mkL_some, wpR_ok]
  simp only [vDs_cons, vDs_nil, Option.map_some, d1_at, dAny_l, bo, R.opt_some, wpR_ok, an, exitV_d]
  simp
theorem is_book_ok {n m : Nat} {ls : List Ln} (k : PageOk n m ls) : F_is_book [.d (pageD n ls)] h = .ok (.d (.bool true)) h := by
  have hm := k.many
  have hp := k.pos
  refine wpR_eq ?_
  unfold F_is_book G_is_book
  rw [wpR_mkF]
  refine ⟨rfl, ?_⟩
  have ip := is_pair_ok (h := h) (.int n) (.tuple (ls.map lineD))
  have i0 : dIx (pageD n ls) (.int 0) = some (.int n) := rfl
  have i1 : dIx (pageD n ls) (.int 1) = some (.tuple (ls.map lineD)) := rfl
  rw [show PyData.tuple [.int (n : Int), .tuple (ls.map lineD)] = pageD n ls from rfl] at ip
  have cm := compR_map (h := h) (g := []) (gt := gN 1) (fe := eCall F_is_question (aCons (eIx (eVar 0) (eC (.int 0))) (aCons (eVar 1) aNil))) (ρ := [some (.d (pageD n ls)), none])
    lineD (fun _ => .bool true) (l := ls) (Chk_nil _) (sz_le (by omega)) (fun l hl => by simp [i0, is_question_ok (k.line l hl) k.le])
  have cd := compDR_fold (h := h) (g := []) (gt := gN 1) (fk := eCall F_ground_of (aCons (eVar 1) aNil)) (fe := eC (.bool true)) (ρ := [some (.d (pageD n ls)), none])
    lineD (fun l => (ground (rowL l)).map .inl) (fun l => .tuple ((ground (rowL l)).map .int)) (fun _ => .bool true) (l := ls) (acc := []) (Chk_nil _) (by rw [List.length_nil, Nat.zero_add]; exact sz_le (by omega))
    (fun l hl => keysI_ints (ground_con (k.line l hl))) (fun l hl => by
      have b := k.bitsLe
      have le := k.le
      have kl := k.line l hl
      simp [ground_of_ok kl.row kl.bits (by omega) (by rw [kl.len]; exact le)])
  rw [fold_new _ _ _ (fun l hl => keysE_ints _) (fun p m => by cases m) (by
    rw [show (ls.map fun l => (ground (rowL l)).map (Sum.inl : Int → Key)) = (ls.map fun l => ground (rowL l)).map (List.map Sum.inl) by rw [List.map_map]; rfl]
    refine List.Pairwise.map _ ?_ k.nodup
    intro a b hab e
    exact hab ((List.map_inj_right (fun x y z => Sum.inl.inj z)).mp e))] at cd
  have hp' : ¬ (n : Int) < 1 := by omega
  simp [startE, ip, i0, i1, is_integer_ok, hp', cm, boolsOf_true]
  simp at cd
  rw [cd]
  simp [vS, vD, dEq_int, i1]
theorem check_book_ok {n m : Nat} {ls : List Ln} (k : PageOk n m ls) : F_check_book [.d (pageD n ls)] h = .ok (.d .none) h := by
  refine wpR_eq ?_
  unfold F_check_book G_check_book
  rw [wpR_mkF]
  refine ⟨rfl, ?_⟩
  simp [startE, is_book_ok k]
theorem check_index_ok {n : Nat} {ls : List Ln} {i : Nat} (hi : i < ls.length) : F_check_index [.d (pageD n ls), .d (.int i)] h = .ok (.d .none) h := by
  refine wpR_eq ?_
  unfold F_check_index G_check_index
  rw [wpR_mkF]
  refine ⟨rfl, ?_⟩
  have i1 : dIx (pageD n ls) (.int 1) = some (.tuple (ls.map lineD)) := rfl
  simp [startE, is_integer_ok, i1, hi]
theorem answer_of_ok {m b : Nat} {l : Ln} {qs : List Rat} (hs : ∀ x ∈ rowL l, Lt2 m x) (hq : ∀ q ∈ qs, Bd b q) (hn : m + 1 + b ≤ 4400 ∧ qs.length * (m + 1 + b + 1) + (m + 1 + b) ≤ 200000) (hz : qs.length ≤ 4096) : F_answer_of [.d (lineD l), .d (spotD qs)] h = .ok (.d (.int (ansq l qs))) h := by
  have d := dot_ok (h := h) (s := l.1) (qs := qs) (fun x hx => hs x (List.mem_append_left _ hx)) hq (by omega) hz
  have bd : Bd (1 + qs.length * (m + 1 + b + 1)) (dotq l.1 qs) := by
    have hl : (l.1.zip qs).length ≤ qs.length := by rw [List.length_zip]; exact Nat.min_le_right _ _
    have z := qsum_bd (n := m + 1 + b) (qs := (l.1.zip qs).map fun p => (p.1 : Rat) * p.2) (fun q hq' => by
      obtain ⟨p, hp, rfl⟩ := List.mem_map.mp hq'
      obtain ⟨h1, h2⟩ := List.of_mem_zip hp
      exact (Bd.int (hs _ (List.mem_append_left _ h1))).mul (hq _ h2))
    rw [List.length_map] at z
    have := Nat.mul_le_mul_right (m + 1 + b + 1) hl
    exact z.mono (by omega)
  have bw : Bd (m + 1) (l.2 : Rat) := Bd.int (hs _ (by simp [rowL]))
  have df := difference_ok (h := h) bd bw (by omega)
  refine wpR_eq ?_
  unfold F_answer_of G_answer_of
  rw [wpR_mkF]
  refine ⟨rfl, ?_⟩
  unfold lineD
  simp [startE, d, whole_ok, df, qD0, sign_of_ok]
  rfl
end

end W_k03

set_option maxHeartbeats 400000
namespace W_k03
open PySem PySem.Spec PyProof.Rows L2 DL
/-! ### rows of points, wishes -/
structure SpotOk (n m b : Nat) (qs : List Rat) : Prop where
  len : qs.length = n
  bd : ∀ q ∈ qs, Bd b q
  size : m + 1 + b ≤ 4400 ∧ n * (m + 1 + b + 1) + (m + 1 + b) ≤ 200000
def rowI (ls : List Ln) (qs : List Rat) : List Int := ls.map fun l => ansq l qs
def intsD (s : List Int) : D := .tuple (s.map .int)
def wD : Option Int → D
  | none => .none
  | some i => .int i
def wishD (ws : List (Option Int)) : D := .tuple (ws.map wD)
def WishOk (ws : List (Option Int)) : Prop := ∀ w ∈ ws, ∀ i, w = some i → i = -1 ∨ i = 0 ∨ i = 1
def fit1 (p : Int × Option Int) : Bool := match p.2 with
  | none => true
  | some w => decide (p.1 = w)
def fitB (as : List Int) (ws : List (Option Int)) : Bool := (as.zip ws).all fit1
def turnL (l : Ln) : Ln := (l.1.map fun x => -x, -l.2)
section
variable {h : Hs} {n m b : Nat} {ls : List Ln} {qs : List Rat}
theorem row_at_ok (k : PageOk n m ls) (q : SpotOk n m b qs) : F_row_at [.d (pageD n ls), .d (spotD qs)] h = .ok (.d (intsD (rowI ls qs))) h := by
  refine wpR_eq ?_
  unfold F_row_at G_row_at
  rw [wpR_mkF]
  refine ⟨rfl, ?_⟩
  have i1 : dIx (pageD n ls) (.int 1) = some (.tuple (ls.map lineD)) := rfl
  have le := k.le
  have ql := q.len
  have qz := q.size
  have cm := compR_map (h := h) (g := []) (gt := gN 2) (fe := eCall F_answer_of (aCons (eVar 2) (aCons (eVar 1) aNil))) (ρ := [some (.d (pageD n ls)), some (.d (spotD qs)), none])
    lineD (fun l => .int (ansq l qs)) (l := ls) (Chk_nil _) (sz_le (by have := k.many; omega)) (fun l hl => by simp [answer_of_ok (k.line l hl).bits q.bd (by rw [ql]; exact qz) (by omega)])
  simp [startE, i1, cm, intsD, rowI, Function.comp_def]
theorem check_point' (q : SpotOk n m b qs) (hn : n ≤ 4000) : F_check_point [.d (.int n), .d (spotD qs)] h = .ok (.d .none) h := by
  have ql := q.len
  have qz := q.size
  have z := check_point_ok (h := h) (n := b) (qs := qs) q.bd (by omega) (by omega)
  rw [ql] at z
  exact z
theorem row_of_ok (k : PageOk n m ls) (q : SpotOk n m b qs) : F_row_of [.d (pageD n ls), .d (spotD qs)] h = .ok (.d (intsD (rowI ls qs))) h := by
  refine wpR_eq ?_
  unfold F_row_of G_row_of
  rw [wpR_mkF]
  refine ⟨rfl, ?_⟩
  have i0 : dIx (pageD n ls) (.int 0) = some (.int n) := rfl
  simp [startE, i0, check_book_ok k, check_point' q k.le, row_at_ok k q]
theorem turned_question_ok {l : Ln} (hl : l.1.length ≤ 4000) : F_turned_question [.d (lineD l)] h = .ok (.d (lineD (turnL l))) h := by
  refine wpR_eq ?_
  unfold F_turned_question G_turned_question
  rw [wpR_mkF]
  refine ⟨rfl, ?_⟩
  have cm := compR_map (h := h) (g := []) (gt := gN 3) (fe := eUn dNeg (eVar 3)) (ρ := [some (.d (.tuple [.tuple (l.1.map .int), .int l.2])), some (.d (.tuple (l.1.map .int))), some (.d (.int l.2)), none])
    (fun p : Int => .int p) (fun p => .int (-p)) (l := l.1) (Chk_nil _) (sz_le (by omega)) (fun p hp => by simp)
  unfold lineD
  simp [startE, cm, sz_le, turnL, Function.comp_def]
theorem cut_lo (xs : List D) (i : Nat) : DL.cutD xs none (some (i : Int)) = xs.take i := by
  unfold DL.cutD
  rw [HT.sIx_nat, HT.sIx_none, List.drop_zero, Nat.sub_zero]
  by_cases e : i ≤ xs.length
  · rw [Nat.min_eq_left e]
  · rw [Nat.min_eq_right (by omega), List.take_length, List.take_of_length_le (by omega)]
theorem cut_hi (xs : List D) (i : Nat) : DL.cutD xs (some (i : Int)) none = xs.drop i := by
  unfold DL.cutD
  rw [HT.sIx_nat, HT.sIx_none]
  by_cases e : i ≤ xs.length
  · rw [Nat.min_eq_left e, List.take_of_length_le (by rw [List.length_drop]; omega)]
  · rw [Nat.min_eq_right (by omega), List.drop_length, List.drop_of_length_le (by omega)]; simp
theorem turned_ok {i : Nat} (k : PageOk n m ls) (hi : i < ls.length) : F_turned [.d (pageD n ls), .d (.int i)] h = .ok (.d (pageD n (ls.set i (turnL ls[i])))) h := by
  have hm := k.many
  refine wpR_eq ?_
  unfold F_turned G_turned
  rw [wpR_mkF]
  refine ⟨rfl, ?_⟩
  have ix : atI (ls.map lineD) (i : Int) = some (lineD ls[i]) := by
    rw [DL.atI_nat]
    simp [hi]
  have kl := k.line _ (List.getElem_mem hi)
  have tq := turned_question_ok (h := h) (l := ls[i]) (by rw [kl.len]; exact k.le)
  have sl1 : dSl (.tuple (ls.map lineD)) none (some (i : Int)) = some (.tuple ((ls.map lineD).take i)) := by
    show some (PyData.tuple (DL.cutD _ none (some (i : Int)))) = _
    rw [cut_lo]
  have sl2 : dSl (.tuple (ls.map lineD)) (some ((i : Int) + 1)) none = some (.tuple ((ls.map lineD).drop (i + 1))) := by
    have := cut_hi (ls.map lineD) (i + 1)
    show some (PyData.tuple (DL.cutD _ (some ((i : Int) + 1)) none)) = _
    rw [show ((i : Int) + 1) = ((i + 1 : Nat) : Int) by omega, this]
  have ad : ∀ xs ys : List D, xs.length + ys.length ≤ 2000 → dAdd (.tuple xs) (.tuple ys) = some (.tuple (xs ++ ys)) := fun xs ys hh => by
    show (if _ then _ else _) = _
    rw [if_pos (sz_le (by omega))]
  have a1 := ad ((ls.map lineD).take i) [lineD (turnL ls[i])] (by simp; omega)
  have a2 := ad ((ls.map lineD).take i ++ [lineD (turnL ls[i])]) ((ls.map lineD).drop (i + 1)) (by simp; omega)
  have fin : (ls.map lineD).take i ++ [lineD (turnL ls[i])] ++ (ls.map lineD).drop (i + 1) = (ls.set i (turnL ls[i])).map lineD := by
    rw [List.set_eq_take_append_cons_drop, if_pos hi]
    simp
  rw [fin, List.map_set] at a2
  simp only [pageD] at *
  simp [startE]
  have cb := check_book_ok (h := h) k
  have ci := check_index_ok (h := h) (n := n) (ls := ls) hi
  simp only [pageD] at cb ci
  simp [cb, ci]
  simp only [ix, tq, sl1, sl2, Option.map_some, R.opt_some, wpR_ok, wpR_bind, vD_d, pDs_cons, pDs_nil, sz_le (show [lineD (turnL ls[i])].length ≤ 4096 by simp), if_true, ite_true, a1, a2, eTup_at]
  simp [sz_le]
end

end W_k03

set_option maxHeartbeats 400000
namespace W_k03
open PySem PySem.Spec PyProof.Rows L2 DL
/-! ### wishes and what fits them -/
section
variable {h : Hs} {n m b : Nat} {ls : List Ln} {qs : List Rat}
theorem isNone_wD (w : Option Int) : isNone (.d (wD w)) = w.isNone := by cases w <;> rfl
theorem boolsOf_f {γ : Type} (f : γ → Bool) (l : List γ) : boolsOf (l.map fun p => PyData.bool (f p)) = some (l.map f) := by
  have := boolsOf_map (l.map f)
  rw [List.map_map] at this
  exact this
theorem all_map_id {γ : Type} (f : γ → Bool) (l : List γ) : (l.map f).all id = l.all f := by rw [List.all_map]; rfl
end
/-! ### a question turned -/
theorem gcdL_neg (row : List Int) : gcdL (row.map fun x => -x) = gcdL row := by
  unfold gcdL
  rw [List.foldl_map]
  congr 1
  funext g x
  rw [Int.natAbs_neg]
theorem lead_neg {row : List Int} (h : ∃ x ∈ row, x ≠ 0) : lead (row.map fun x => -x) = -lead row := by
  have e : (row.map fun x => -x).filter (fun x => decide (x ≠ 0)) = (row.filter fun x => decide (x ≠ 0)).map fun x => -x := by
    clear h
    induction row with
    | nil => rfl
    | cons x row ih =>
      rw [List.map_cons, List.filter_cons, List.filter_cons, ih]
      by_cases hx : x = 0
      · simp [hx]
      · simp [hx]
  obtain ⟨y, r, e1, e2, _, _⟩ := lead_some h
  rw [e2]
  unfold lead
  rw [e, e1]; rfl
theorem ground_neg {row : List Int} (h : ∃ x ∈ row, x ≠ 0) : ground (row.map fun x => -x) = ground row := by
  obtain ⟨y, r, e1, e2, e3, e4⟩ := lead_some h
  unfold ground
  rw [gcdL_neg, lead_neg h, e2, List.map_map, List.map_map]
  have dv : ∀ x ∈ row, (gcdL row : Int) ∣ x := fun x m => gcdL_dvd m
  by_cases hp : 0 < y
  · rw [if_neg (by omega), if_pos hp]
    refine List.map_congr_left fun x m => ?_
    show -(-x / (gcdL row : Int)) = _
    rw [Int.neg_ediv_of_dvd (dv x m), Int.neg_neg]
  · rw [if_pos (by omega), if_neg hp]
    refine List.map_congr_left fun x m => ?_
    show -x / (gcdL row : Int) = _
    rw [Int.neg_ediv_of_dvd (dv x m)]
theorem rowL_turn (l : Ln) : rowL (turnL l) = (rowL l).map fun x => -x := by simp [rowL, turnL]
theorem LineOk.turn {n m : Nat} {l : Ln} (k : LineOk n m l) : LineOk n m (turnL l) := by
  refine ⟨by simp [turnL, k.len], ?_, fun x hx => ?_⟩
  · obtain ⟨x, h1, h2⟩ := k.some_
    exact ⟨-x, List.mem_map_of_mem h1, by omega⟩
  · rw [rowL_turn] at hx
    obtain ⟨y, hy, rfl⟩ := List.mem_map.mp hx
    exact (k.bits y hy).neg
theorem PageOk.turn {n m : Nat} {ls : List Ln} (k : PageOk n m ls) {i : Nat} (hi : i < ls.length) : PageOk n m (ls.set i (turnL ls[i])) := by
  refine ⟨k.pos, k.le, by rw [List.length_set]; exact k.many, fun l hl => ?_, ?_, k.bitsLe⟩
  · rcases List.mem_or_eq_of_mem_set hl with h1 | h1
    · exact k.line l h1
    · rw [h1]; exact (k.line _ (List.getElem_mem hi)).turn
  · have e : (ls.set i (turnL ls[i])).map (fun l => ground (rowL l)) = ls.map fun l => ground (rowL l) := by
      rw [List.map_set, rowL_turn, ground_neg (k.line _ (List.getElem_mem hi)).row]
      apply List.ext_getElem?
      intro j
      rw [List.getElem?_set]
      by_cases e : i = j
      · subst e; simp [hi]
      · rw [if_neg e]
    rw [e]
    exact k.nodup
theorem qsum_eq : ∀ (qs : List Rat) (a : Rat), qs.foldl (· + ·) a = a + qsum qs
  | [], a => by simp [qsum, Rat.add_zero]
  | q :: qs, a => by
    unfold qsum
    rw [List.foldl_cons, List.foldl_cons, qsum_eq qs (a + q), qsum_eq qs (0 + q)]
    grind
theorem qsum_cons (q : Rat) (qs : List Rat) : qsum (q :: qs) = q + qsum qs := by
  show (q :: qs).foldl (· + ·) 0 = _
  rw [List.foldl_cons, qsum_eq]
  grind
theorem dotq_neg : ∀ (s : List Int) (qs : List Rat), dotq (s.map fun x => -x) qs = -dotq s qs
  | [], qs => by simp [dotq, qsum]
  | x :: s, [] => by simp [dotq, qsum]
  | x :: s, q :: qs => by
    have ih := dotq_neg s qs
    unfold dotq at *
    rw [List.map_cons, List.zip_cons_cons, List.zip_cons_cons, List.map_cons, List.map_cons, qsum_cons, qsum_cons, ih]
    simp only [Rat.intCast_neg]
    grind
theorem sign_num_neg (q : Rat) : (-q).num.sign = -q.num.sign := by rw [Rat.neg_num, Int.sign_neg]
theorem ansq_turn (l : Ln) (qs : List Rat) : ansq (turnL l) qs = -ansq l qs := by
  unfold ansq turnL
  rw [dotq_neg, ← sign_num_neg]
  congr 2
  simp only [Rat.intCast_neg]
  grind

end W_k03

set_option maxHeartbeats 400000
namespace W_k03
open PySem PySem.Spec PyProof.Rows L2 DL
/-! ### the law's own draws -/
def DeckAt (i : Nat) (h : Hs) : Prop := ∃ a b : Int, h[i]? = some (.lst [.int a, .int b]) ∧ 0 ≤ b ∧ b < 18446744073709551616
structure Dk (i : Nat) (h h' : Hs) : Prop where
  len : h'.length = h.length
  oth : ∀ j, j ≠ i → h'[j]? = h[j]?
  deck : DeckAt i h'
theorem Dk.trans {i : Nat} {h h1 h2 : Hs} (a : Dk i h h1) (b : Dk i h1 h2) : Dk i h h2 := ⟨b.len.trans a.len, fun j n => (b.oth j n).trans (a.oth j n), b.deck⟩
theorem Dk.refl {i : Nat} {h : Hs} (d : DeckAt i h) : Dk i h h := ⟨rfl, fun _ _ => rfl, d⟩
theorem DeckAt.lt {i : Nat} {h : Hs} (d : DeckAt i h) : i < h.length := by
  obtain ⟨a, b, e, _⟩ := d
  exact (List.getElem?_eq_some_iff.mp e).1
theorem DeckAt.app {i : Nat} {h : Hs} (d : DeckAt i h) (r : Hs) : DeckAt i (h ++ r) := by
  have lt := d.lt
  obtain ⟨a, b, e, z⟩ := d
  exact ⟨a, b, by rw [List.getElem?_append_left lt]; exact e, z⟩
theorem DeckAt.take {i n : Nat} {h : Hs} (d : DeckAt i h) (hn : i < n) : DeckAt i (h.take n) := by
  obtain ⟨a, b, e, z⟩ := d
  exact ⟨a, b, by rw [List.getElem?_take_of_lt hn]; exact e, z⟩
/-- a store that grew, cut again -/
theorem Dk.cut {i n : Nat} {h h' r : Hs} (d : Dk i (h ++ r) h') (hn : n = h.length) (hi : i < n) : Dk i h (h'.take n) := by
  subst hn
  refine ⟨by rw [List.length_take, d.len, List.length_append]; omega, fun j nj => ?_, d.deck.take hi⟩
  by_cases hj : j < h.length
  · rw [List.getElem?_take_of_lt hj, d.oth j nj, List.getElem?_append_left hj]
  · rw [List.getElem?_eq_none (by rw [List.length_take]; omega), List.getElem?_eq_none (by omega)]
theorem ixN0 {n : Nat} : ixN (n + 1) 0 = some 0 := by
  have : (0 : Int) < ((n + 1 : Nat) : Int) := by omega
  unfold ixN
  rw [if_pos (by omega), if_pos this]; rfl
theorem ixN1 {n : Nat} : ixN (n + 2) 1 = some 1 := by
  have : (1 : Int) < ((n + 2 : Nat) : Int) := by omega
  unfold ixN
  rw [if_pos (by omega), if_pos this]; rfl
theorem atI_one {α : Type} (a b : α) (as : List α) : atI (a :: b :: as) 1 = some b := DL.atI_nat (a :: b :: as) 1
theorem vS_r {i : Nat} {h : Hs} {ds : List D} (e : h[i]? = some (.lst ds)) : vS (.r i) h = some (.list ds) := by
  show vD (.r i) h = _
  simp only [vD, e]
theorem vD_r {i : Nat} {h : Hs} {ds : List D} (e : h[i]? = some (.lst ds)) : vD (.r i) h = some (.list ds) := by
  simp only [vD, e]
section
variable {h : Hs} {E : DL.EP} {Q : Val → Hs → Prop}
theorem take_wp {i : Nat} {m : Int} (d : DeckAt i h) (hm : 0 < m) (hb : m.natAbs.log2 < 9000) (q : ∀ t h', 0 ≤ t → t < m → Dk i h h' → Q (.d (.int t)) h') : wpR (F__law_take [.r i, .d (.int m)] h) Q E := by
  have lt := d.lt
  obtain ⟨a, b, e, b0, b1⟩ := d
  have m0 : m ≠ 0 := by omega
  have take_set : ∀ x : MO, (h.set i x).take h.length = h.set i x := fun x => List.take_of_length_le (by simp)
  have oth : ∀ (x : MO) (j : Nat), j ≠ i → (h.set i x)[j]? = h[j]? := fun x j n => List.getElem?_set_ne (Ne.symm n)
  have own : ∀ x : MO, (h.set i x)[i]? = some x := fun x => by rw [List.getElem?_set_self lt]
  unfold F__law_take G__law_take
  rw [wpR_mkF]
  refine ⟨rfl, ?_⟩
  by_cases ha : 0 < a
  · simp [startE, vS_r e, vD_r e, atI_zero, ha, gMod, gFdivN, m0, hb, ixN0, e, take_set]
    refine q _ _ (Int.fmod_nonneg_of_pos _ hm) (Int.fmod_lt_of_pos _ hm) ⟨by simp, oth _, _, _, own _, b0, b1⟩
  · have mo : mulOk b 6364136223846793005 = true := mulOk_of (n := 64) (m := 63) (show b.natAbs < 2 ^ 64 by omega) (show Int.natAbs _ < 2 ^ 63 by decide) (by omega)
    have dm : dMul (.int b) (.int 6364136223846793005) = some (.int (b * 6364136223846793005)) := by
      show (if mulOk b _ = true then _ else _) = _
      rw [if_pos mo]
    have p64 : gPow 2 64 = some (.int 18446744073709551616) := (DL.gPow_small (by decide) (by decide) (by decide)).trans rfl
    have p33 : gPow 2 33 = some (.int 8589934592) := (DL.gPow_small (by decide) (by decide) (by decide)).trans rfl
    have l33 : Nat.log2 8589934592 < 9000 := by decide
    have n64 := Int.fmod_nonneg_of_pos (b * 6364136223846793005 + 1442695040888963407) (show (0 : Int) < 18446744073709551616 by decide)
    have l64 := Int.fmod_lt_of_pos (b * 6364136223846793005 + 1442695040888963407) (show (0 : Int) < 18446744073709551616 by decide)
    simp [startE, vS_r e, vD_r e, atI_zero, atI_one, ha, gMod, gFdivN, m0, hb, ixN1, e, take_set, dm, p64, p33, vS_r (own _), l33]
    refine q _ _ (Int.fmod_nonneg_of_pos _ hm) (Int.fmod_lt_of_pos _ hm) ⟨by simp, oth _, _, _, own _, n64, l64⟩
end

end W_k03

set_option maxHeartbeats 400000
namespace W_k03
open PySem PySem.Spec PyProof.Rows L2 DL
/-! ### the law's own sums -/
section
variable {h : Hs}
theorem law_gcd_ok (u v : Nat) : F__law_gcd [.d (.int u), .d (.int v)] h = .ok (.d (.int (Nat.gcd u v : Nat))) h := by
  refine wpR_eq ?_
  unfold F__law_gcd G__law_gcd
  rw [wpR_mkF]
  refine ⟨rfl, ?_⟩
  rw [wpS_sSeq]
  refine wp_while (fun n ρ h' => ∃ x y : Nat, h' = h ∧ ρ = [some (.d (.int x)), some (.d (.int y))] ∧ n = y ∧ Nat.gcd x y = Nat.gcd u v) (n := v) ⟨u, v, rfl, rfl, rfl, rfl⟩ ?_
  rintro n ρ h' ⟨x, y, rfl, rfl, rfl, hg⟩
  by_cases hy : n = 0
  · subst hy
    rw [Nat.gcd_zero_right] at hg
    simp [dNe_int, ← hg]
  · have y0 : (n : Int) ≠ 0 := by omega
    have fm : (x : Int).fmod (n : Int) = ((x % n : Nat) : Int) := by rw [Int.fmod_eq_emod_of_nonneg _ (by omega)]; rfl
    simp [dNe_int, hy, gMod, fm]
    exact ⟨x % n, Nat.mod_lt _ (by omega), n, x % n, ⟨rfl, rfl⟩, rfl, by rw [← hg, Nat.gcd_comm n (x % n), ← Nat.gcd_rec, Nat.gcd_comm]⟩
theorem law_pair_ok0 {t b : Int} (hb : b ≠ 0) (e3 : (comm2 t b).natAbs.log2 < 9000) : F__law_pair [.d (.int t), .d (.int b)] h = .ok (.d (qD (Rat.divInt t b))) h := by
  have e1 := comm2_num (t := t) hb
  have e2 := comm2_den (t := t) hb
  have e4 := comm2_ne (t := t) hb
  refine wpR_eq ?_
  unfold F__law_pair G__law_pair
  rw [wpR_mkF]
  refine ⟨rfl, ?_⟩
  by_cases hn : b < 0
  · have ec : comm2 t b = -((Nat.gcd t.natAbs b.natAbs : Nat) : Int) := if_pos hn
    rw [ec] at e1 e2 e3
    rw [Int.natAbs_neg, Int.natAbs_natCast] at e3
    simp [startE, law_gcd_ok, hn, gFdivN, hb, e3, e1, e2, sz_le, qD]
  · have ec : comm2 t b = ((Nat.gcd t.natAbs b.natAbs : Nat) : Int) := if_neg hn
    simp [startE, law_gcd_ok, hn, ← ec, gFdivN, e4, e3, e1, e2, sz_le, qD]
theorem law_pair_ok {n : Nat} {t b : Int} (hb : b ≠ 0) (h2 : Lt2 n b) (hn : n ≤ 8000) : F__law_pair [.d (.int t), .d (.int b)] h = .ok (.d (qD (Rat.divInt t b))) h :=
  law_pair_ok0 hb (Nat.lt_of_le_of_lt (comm2_log (t := t) hb h2) (by omega))
theorem law_plus_ok {n m : Nat} {a b : Rat} (ha : Bd n a) (hb : Bd m b) (hn : min n m ≤ 4400 ∧ n + m ≤ 400000) : F__law_plus [.d (qD a), .d (qD b)] h = .ok (.d (qD (a + b))) h := by
  have l := law_pair_ok0 (h := h) (t := a.num * b.den + b.num * a.den) (Int.mul_ne_zero (dn a) (dn b)) (Nat.lt_of_le_of_lt (comm_add ha hb) (by omega))
  rw [qadd] at l
  refine wpR_eq ?_
  unfold F__law_plus G__law_plus
  rw [wpR_mkF]
  refine ⟨rfl, ?_⟩
  simp [startE, qD0, qD1, dMul_of ha.1 (Lt2.den hb) (by omega), dMul_of hb.1 (Lt2.den ha) (by omega), dMul_of (Lt2.den ha) (Lt2.den hb) (by omega), l]
theorem law_times_ok {n m : Nat} {a b : Rat} (ha : Bd n a) (hb : Bd m b) (hn : min n m ≤ 4400 ∧ n ≤ 8900 ∧ m ≤ 8900) : F__law_times [.d (qD a), .d (qD b)] h = .ok (.d (qD (a * b))) h := by
  have l := law_pair_ok0 (h := h) (t := a.num * b.num) (Int.mul_ne_zero (dn a) (dn b)) (comm_mul ha hb hn)
  rw [qmul] at l
  refine wpR_eq ?_
  unfold F__law_times G__law_times
  rw [wpR_mkF]
  refine ⟨rfl, ?_⟩
  simp [startE, qD0, qD1, dMul_of ha.1 hb.1 (by omega), dMul_of (Lt2.den ha) (Lt2.den hb) (by omega), l]
def worthq (l : Ln) (qs : List Rat) : Rat := ((l.1.zip qs).map fun p => (p.1 : Rat) * p.2).foldl (· + ·) (-(l.2 : Rat))
theorem worthq_eq (l : Ln) (qs : List Rat) : worthq l qs = dotq l.1 qs - (l.2 : Rat) := by
  unfold worthq dotq
  rw [qsum_eq]
  grind
theorem qD_neg_int (i : Int) : PyData.tuple [.int (-i), .int 1] = qD (-(i : Rat)) := by
  rw [← qD_int, Rat.intCast_neg]
theorem Bd.worth {m b : Nat} {l : Ln} {qs : List Rat} (hs : ∀ x ∈ rowL l, Lt2 m x) (hq : ∀ q ∈ qs, Bd b q) : Bd (1 + qs.length * (m + 1 + b + 1) + (m + 1) + 1) (worthq l qs) := by
  rw [worthq_eq, Rat.sub_eq_add_neg]
  have hl : (l.1.zip qs).length ≤ qs.length := by rw [List.length_zip]; exact Nat.min_le_right _ _
  have z := qsum_bd (n := m + 1 + b) (qs := (l.1.zip qs).map fun p => (p.1 : Rat) * p.2) (fun q hq' => by
    obtain ⟨p, hp, rfl⟩ := List.mem_map.mp hq'
    obtain ⟨h1, h2⟩ := List.of_mem_zip hp
    exact (Bd.int (hs _ (List.mem_append_left _ h1))).mul (hq _ h2))
  rw [List.length_map] at z
  have := Nat.mul_le_mul_right (m + 1 + b + 1) hl
  exact (z.add (Bd.int (hs _ (by simp [rowL]))).neg).mono (by omega)
theorem ten_bits (i : Nat) : Lt2 (4 * i + 1) ((10 : Int) ^ i) := by
  unfold Lt2
  rw [Int.natAbs_pow]
  have a : (Int.natAbs 10) ^ i ≤ 16 ^ i := Nat.pow_le_pow_left (by decide) i
  have b : 16 ^ i = 2 ^ (4 * i) := by rw [Nat.pow_mul]
  have c : 2 ^ (4 * i) < 2 ^ (4 * i + 1) := Nat.pow_lt_pow_right (by omega) (by omega)
  omega
theorem small_nat {k : Nat} (hk : k ≤ 100000) : smallI (k : Int) = true := smallI_of (by
  rw [Int.natAbs_natCast]
  exact Nat.lt_of_le_of_lt hk (by decide))
end

end W_k03

set_option maxHeartbeats 400000
namespace W_k03
open PySem PySem.Spec PyProof.Rows L2 DL
/-! ### the law's own answers -/
theorem rng0 (n : Nat) : rng 0 n = (List.range n).map fun i : Nat => PyData.int (i : Int) := by simp [rng]
theorem shaped_ints (s : List Int) : SeqAt.shaped (.list (s.map .int)) = true := by
  have c : ∀ s : List Int, PyData.canLayAll0 (s.map .int) = true := by
    intro s
    induction s with
    | nil => rfl
    | cons x s ih =>
      show (true && PyData.canLayAll0 (s.map .int)) = true
      rw [ih]; rfl
  have d : ∀ s : List Int, PyData.depthAll (s.map .int) ≤ 1 := by
    intro s
    induction s with
    | nil => decide
    | cons x s ih =>
      show max _ (PyData.depthAll (s.map .int)) ≤ 1
      exact Nat.max_le.mpr ⟨by simp [PyData.depth], ih⟩
  unfold SeqAt.shaped
  rw [Bool.and_eq_true]
  refine ⟨c s, decide_eq_true ?_⟩
  show PyData.depthAll (s.map .int) + 1 ≤ 64
  have := d s
  omega
theorem eqv_ints : ∀ s t : List Int, PyData.eqv (.list (s.map .int)) (.list (t.map .int)) = decide (s = t)
  | [], [] => by simp [PyData.eqv, PyData.eqvAll]
  | [], _ :: _ => by simp [PyData.eqv, PyData.eqvAll]
  | _ :: _, [] => by simp [PyData.eqv, PyData.eqvAll]
  | x :: s, y :: t => by
    have ih := eqv_ints s t
    simp only [PyData.eqv] at ih
    simp only [PyData.eqv, List.map_cons, PyData.eqvAll, ih]
    by_cases e : x = y <;> by_cases f : s = t <;> simp [e, f]
theorem dEq_ints (s t : List Int) : dEq (.list (s.map .int)) (.list (t.map .int)) = some (.bool (decide (s = t))) := by
  unfold dEq
  rw [if_pos ⟨shaped_ints s, shaped_ints t⟩, eqv_ints]
theorem dNe_ints (s t : List Int) : dNe (.list (s.map .int)) (.list (t.map .int)) = some (.bool (decide (s ≠ t))) := by
  unfold dNe
  rw [if_pos ⟨shaped_ints s, shaped_ints t⟩, eqv_ints]
  by_cases e : s = t <;> simp [e]
section
variable {h : Hs} {n m b : Nat} {ls : List Ln} {qs : List Rat}
theorem law_ground_ok {n : Nat} {l : Ln} (hx : ∃ x ∈ rowL l, x ≠ 0) (hb : ∀ x ∈ rowL l, Lt2 n x) (hn : n ≤ 8000) (hl : l.1.length ≤ 4000) : F__law_ground [.d (lineD l)] h = .ok (.d (.tuple ((ground (rowL l)).map .int))) h := by
  have gp := gcdL_pos hx
  have gl := gcdL_log hx hb
  have ll : (rowL l).length ≤ 4096 := by simp [rowL]; omega
  have i0 : dIx (lineD l) (.int 0) = some (.tuple (l.1.map .int)) := rfl
  have i1 : dIx (lineD l) (.int 1) = some (.int l.2) := rfl
  have ad : dAdd (.tuple (l.1.map .int)) (.tuple [.int l.2]) = some (.tuple ((rowL l).map .int)) := by
    show (if _ then _ else _) = _
    rw [if_pos (by rw [List.length_map]; exact sz_le (by simp; omega))]
    simp [rowL]
  refine wpR_eq ?_
  unfold F__law_ground G__law_ground
  rw [wpR_mkF]
  refine ⟨rfl, ?_⟩
  simp [startE, i0, i1, sz_le, ad]
  generalize rowL l = row at *
  have dd : ∀ x ∈ row, (gcdL row : Int) ∣ x := fun x m => gcdL_dvd m
  obtain ⟨y, r, e1, e2, e3, e4⟩ := lead_some hx
  refine wp_for (fun i ρ h' => ∃ x, h' = h ∧ ρ = [some (.d (lineD l)), some (.d (.tuple (row.map .int))), some (.d (.int (gcdL (row.take i)))), x, none]) 0 (fun i ρ h hi => Chk_nil _) ⟨none, rfl, rfl⟩ ?_ ?_
  · rintro i d ρ h' hd ⟨x, rfl, rfl⟩
    obtain ⟨z, hz, rfl⟩ : ∃ y, row[i]? = some y ∧ PyData.int y = d := by simpa using hd
    have e : gcdL (row.take (i + 1)) = Nat.gcd z.natAbs (gcdL (row.take i)) := by
      rw [List.take_succ, hz, Nat.gcd_comm]
      exact gcdL_snoc _ _
    simp [law_gcd_ok, e]
  · rintro ρ h' ⟨x, rfl, rfl⟩
    simp only [Nat.zero_add, List.length_map, List.take_length]
    have cm := compR_fm (h := h') (g := []) (gt := gN 3) (ft := tVal (eOp dNe (eVar 3) (eC (.int 0)))) (fe := eVar 3) (ρ := [some (.d (lineD l)), some (.d (.tuple (row.map .int))), some (.d (.int (gcdL row))), none, none]) (acc := [])
      (fun p : Int => .int p) (fun p => .int p) (fun x => decide (x ≠ 0)) (l := row) (Chk_nil _) (sz_le (by simpa using ll)) (fun p hp => by simp [dNe_int])
    rw [e1, List.nil_append, List.map_cons] at cm
    have lt : (gcdL row).log2 < 9000 := by rw [Int.natAbs_natCast] at gl; omega
    have g1 : ¬ gcdL row = 0 := by omega
    have fd2 : ∀ x : Int, x ∈ row → (-x).fdiv (gcdL row : Int) = -(x / (gcdL row : Int)) := fun x hx => by
      rw [fdiv_gcd, Int.neg_ediv_of_dvd (dd x hx)]
    have cm2 := compR_map (h := h') (g := []) (gt := gN 3) (fe := eIf (tVal (eOp (dInt2 (gCmp fun i j => decide (j < i))) (eVar 4) (eC (.int 0)))) (eOp (dInt2 gFdivN) (eVar 3) (eVar 2)) (eOp (dInt2 gFdivN) (eUn dNeg (eVar 3)) (eVar 2))) (ρ := [some (.d (lineD l)), some (.d (.tuple (row.map .int))), some (.d (.int (gcdL row))), none, some (.d (.int y))])
      (fun p : Int => .int p) (fun p => .int (if 0 < y then p / (gcdL row : Int) else -(p / (gcdL row : Int)))) (l := row) (Chk_nil _) (sz_le ll) (fun p hp => by
        by_cases hy : 0 < y
        · simp [hy, gFdivN, g1, lt, fdiv_gcd]
        · simp [hy, gFdivN, g1, lt, fd2 p hp])
    simp [cm, atI_zero, cm2]
    unfold ground
    rw [e2]
    by_cases hy : 0 < y <;> simp [hy]
theorem ansq_worth (l : Ln) (qs : List Rat) : (worthq l qs).num.sign = ansq l qs := by rw [worthq_eq]; rfl
theorem sign_form (i : Int) : (if 0 < i then (1 : Int) else 0) - (if i < 0 then (1 : Int) else 0) = i.sign := by
  rcases Int.lt_trichotomy i 0 with z | z | z
  · rw [if_neg (by omega), if_pos z, Int.sign_eq_neg_one_of_neg z]; rfl
  · subst z; rfl
  · rw [if_pos z, if_neg (by omega), Int.sign_eq_one_of_pos z]; rfl
def okD : Nat → D → Prop
  | 0, _ => False
  | k + 1, d => match d with
    | .none => True
    | .int _ => True
    | .bool _ => True
    | .tuple xs => xs.length ≤ 4096 ∧ ∀ x ∈ xs, okD k x
    | .list xs => xs.length ≤ 4096 ∧ ∀ x ∈ xs, okD k x
    | _ => False
theorem dEq_bool (i j : Bool) : dEq (.bool i) (.bool j) = some (.bool (i == j)) := rfl
theorem dNe_bool (i j : Bool) : dNe (.bool i) (.bool j) = some (.bool (!(i == j))) := rfl
theorem same_seq {k : Nat} (ih : ∀ d, okD k d → ∀ h, R__law_same k [.d d, .d d] h = .ok (.d (.bool true)) h) {xs : List D} (hl : xs.length ≤ 4096) (hx : ∀ x ∈ xs, okD k x) (d : D) (hd : ∀ i : Nat, dIx d (.int i) = xs[i]?) (h : Hs) :
    compR [] (gN 2) (tNotD (tVal (eCall (R__law_same k) (aCons (eIx (eVar 0) (eVar 2)) (aCons (eIx (eVar 1) (eVar 2)) aNil))))) (eVar 2) [some (.d d), some (.d d), none] ((List.range xs.length).map fun i : Nat => PyData.int (i : Int)) h [] = some ([], h) := by
  have z := compR_fm (h := h) (g := []) (gt := gN 2) (ft := tNotD (tVal (eCall (R__law_same k) (aCons (eIx (eVar 0) (eVar 2)) (aCons (eIx (eVar 1) (eVar 2)) aNil))))) (fe := eVar 2) (ρ := [some (.d d), some (.d d), none]) (acc := [])
    (fun i : Nat => PyData.int (i : Int)) (fun i => PyData.int (i : Int)) (fun _ => false) (l := List.range xs.length) (Chk_nil _) (sz_le (by simpa using hl)) (fun i hi => by
      have lt : i < xs.length := by simpa using hi
      have e := hd i
      rw [List.getElem?_eq_getElem lt] at e
      simp [e, ih _ (hx _ (List.getElem_mem lt))])
  rw [z]
  simp
theorem law_same_ok : ∀ (k : Nat) (d : D), okD k d → ∀ h, R__law_same k [.d d, .d d] h = .ok (.d (.bool true)) h
  | 0, _, e, _ => e.elim
  | k + 1, d, e, h => by
    have ih := law_same_ok k
    refine wpR_eq ?_
    unfold R__law_same G__law_same
    rw [wpR_mkF]
    refine ⟨rfl, ?_⟩
    have en : dEq (.list []) (.list []) = some (.bool true) := rfl
    match d, e with
    | .none, _ => simp [startE, isTL, isNone]
    | .int i, _ => simp [startE, isTL, isNone, isStr, dEq_int]
    | .bool c, _ => simp [startE, isTL, isNone, isStr, isBool, dEq_bool]
    | .tuple xs, ⟨hl, hx⟩ =>
      have sq := same_seq ih hl hx (.tuple xs) (fun i => DL.atI_nat xs i) h
      simp [startE, isTL, isTuple, isList, dNe_bool, dNe_int, rng0, small_nat (show xs.length ≤ 100000 by omega), sq, sz_le, en]
    | .list xs, ⟨hl, hx⟩ =>
      have sq := same_seq ih hl hx (.list xs) (fun i => DL.atI_nat xs i) h
      simp [startE, isTL, isTuple, isList, dNe_bool, dNe_int, rng0, small_nat (show xs.length ≤ 100000 by omega), sq, sz_le, en]
theorem same_ok (d : D) (e : okD 12 d) : F__law_same [.d d, .d d] h = .ok (.d (.bool true)) h := law_same_ok 12 d e h
end

end W_k03

set_option maxHeartbeats 400000
namespace W_k03
open PySem PySem.Spec PyProof.Rows L2 DL
/-! ### what is drawn -/
section
variable {h : Hs} {E : DL.EP} {Q : Val → Hs → Prop} {n m b : Nat} {ls : List Ln} {qs : List Rat}
theorem p18 : gPow 10 18 = some (.int 1000000000000000000) := (DL.gPow_small (by decide) (by decide) (by decide)).trans rfl
theorem p40 : gPow 10 40 = some (.int 10000000000000000000000000000000000000000) := (DL.gPow_small (by decide) (by decide) (by decide)).trans rfl
end

end W_k03

set_option maxHeartbeats 400000
namespace W_k03
open PySem PySem.Spec PyProof.Rows L2 DL
/-! ### points drawn -/
theorem okD_lay : ∀ (k : Nat) (d : D), okD k d → d.canLay0 = true ∧ d.depth ≤ k
  | 0, _, e => e.elim
  | k + 1, d, e => by
    have go : ∀ xs : List D, (∀ x ∈ xs, okD k x) → PyData.canLayAll0 xs = true ∧ PyData.depthAll xs ≤ k := by
      intro xs
      induction xs with
      | nil => exact fun _ => ⟨rfl, by simp [PyData.depthAll]⟩
      | cons x xs ih =>
        intro hx
        obtain ⟨a, b⟩ := okD_lay k x (hx x List.mem_cons_self)
        obtain ⟨c, d⟩ := ih fun y m => hx y (List.mem_cons_of_mem _ m)
        refine ⟨?_, ?_⟩
        · show (x.canLay0 && PyData.canLayAll0 xs) = true
          rw [a, c]; rfl
        · show max x.depth (PyData.depthAll xs) ≤ k
          exact Nat.max_le.mpr ⟨b, d⟩
    match d, e with
    | .none, _ => exact ⟨rfl, by simp [PyData.depth]⟩
    | .int i, _ => exact ⟨rfl, by simp [PyData.depth]⟩
    | .bool c, _ => exact ⟨rfl, by simp [PyData.depth]⟩
    | .tuple xs, ⟨_, hx⟩ =>
      obtain ⟨a, b⟩ := go xs hx
      exact ⟨a, by show PyData.depthAll xs + 1 ≤ k + 1; omega⟩
    | .list xs, ⟨_, hx⟩ =>
      obtain ⟨a, b⟩ := go xs hx
      exact ⟨a, by show PyData.depthAll xs + 1 ≤ k + 1; omega⟩
theorem shaped_ok {k : Nat} {d : D} (e : okD k d) (hk : k ≤ 64) : SeqAt.shaped d = true := by
  obtain ⟨a, b⟩ := okD_lay k d e
  unfold SeqAt.shaped
  rw [a, Bool.true_and]
  exact decide_eq_true (by omega)
theorem dNe_nilT {k : Nat} {xs : List D} (e : okD k (.tuple xs)) (hk : k ≤ 64) : dNe (.tuple xs) (.tuple []) = some (.bool (!xs.isEmpty)) := by
  unfold dNe
  rw [if_pos ⟨shaped_ok e hk, rfl⟩]
  cases xs <;> simp [PyData.eqv, PyData.eqvAll]
theorem dNe_nilL {k : Nat} {xs : List D} (e : okD k (.list xs)) (hk : k ≤ 64) : dNe (.list xs) (.list []) = some (.bool (!xs.isEmpty)) := by
  unfold dNe
  rw [if_pos ⟨shaped_ok e hk, rfl⟩]
  cases xs <;> simp [PyData.eqv, PyData.eqvAll]
theorem okD_line {l : Ln} (hl : l.1.length ≤ 4000) : okD 3 (lineD l) := by
  refine ⟨by simp, fun x hx => ?_⟩
  have : x = .tuple (l.1.map .int) ∨ x = .int l.2 := by simpa [lineD] using hx
  rcases this with rfl | rfl
  · refine ⟨by simp; omega, fun y hy => ?_⟩
    obtain ⟨i, _, rfl⟩ := List.mem_map.mp hy
    exact True.intro
  · exact True.intro
theorem okD_lines {n m : Nat} {ls : List Ln} (hn : n ≤ 4000) (hm : ls.length ≤ 1000) (k : ∀ l ∈ ls, LineOk n m l) : okD 4 (.tuple (ls.map lineD)) ∧ okD 4 (.list (ls.map lineD)) := by
  have z : ∀ x ∈ ls.map lineD, okD 3 x := fun x hx => by
    obtain ⟨l, hl, rfl⟩ := List.mem_map.mp hx
    exact okD_line (by rw [(k l hl).len]; exact hn)
  exact ⟨⟨by simp; omega, z⟩, ⟨by simp; omega, z⟩⟩
/-- the store h and more, the deck at i of it moved on -/
structure Dl (i : Nat) (h h2 : Hs) : Prop where
  len : h.length ≤ h2.length
  oth : ∀ j, j < h.length → j ≠ i → h2[j]? = h[j]?
  deck : DeckAt i h2
theorem Dl.of {i : Nat} {h h2 : Hs} (d : Dk i h h2) : Dl i h h2 := ⟨by rw [d.len]; exact Nat.le_refl _, fun j _ n => d.oth j n, d.deck⟩
theorem Dl.start {i : Nat} {h : Hs} (d : DeckAt i h) : Dl i h h := .of (.refl d)
theorem Dl.step {i : Nat} {h h2 h3 : Hs} (d : Dl i h h2) (e : Dk i h2 h3) : Dl i h h3 := ⟨by rw [e.len]; exact d.len, fun j hj n => (e.oth j n).trans (d.oth j hj n), e.deck⟩
theorem Dl.push {i : Nat} {h h2 : Hs} (d : Dl i h h2) (r : Hs) : Dl i h (h2 ++ r) := ⟨by rw [List.length_append]; have := d.len; omega, fun j hj n => by
  rw [List.getElem?_append_left (by have := d.len; omega)]
  exact d.oth j hj n, d.deck.app r⟩
theorem Dl.set {i k : Nat} {h h2 : Hs} (d : Dl i h h2) (hi : i < h.length) (hk : h.length ≤ k) (x : MO) : Dl i h (h2.set k x) := ⟨by rw [List.length_set]; exact d.len, fun j hj n => by
  rw [List.getElem?_set_ne (by omega)]
  exact d.oth j hj n, by
  obtain ⟨a, b, e, z⟩ := d.deck
  exact ⟨a, b, by rw [List.getElem?_set_ne (by omega)]; exact e, z⟩⟩
theorem Dl.cut {i : Nat} {h h2 : Hs} (d : Dl i h h2) (hi : i < h.length) : Dk i h (h2.take h.length) := ⟨by rw [List.length_take]; have := d.len; omega, fun j n => by
  by_cases hj : j < h.length
  · rw [List.getElem?_take_of_lt hj]
    exact d.oth j hj n
  · rw [List.getElem?_eq_none (by rw [List.length_take]; omega), List.getElem?_eq_none (by omega)], d.deck.take hi⟩
theorem log_small {n : Nat} (hn : n ≤ 100000) : ((n : Nat) : Int).natAbs.log2 < 9000 := by
  rw [Int.natAbs_natCast]
  by_cases e : n = 0
  · rw [e]; decide
  · have : n.log2 < 17 := (Nat.log2_lt e).mpr (by omega)
    omega
theorem unit_q {a b : Int} (ha : a.natAbs = 1) (hb : 0 < b) : PyData.tuple [.int a, .int b] = qD (Rat.divInt a b) := by
  have g : b.gcd a = 1 := by
    unfold Int.gcd
    rw [ha, Nat.gcd_one_right]
  unfold qD
  rw [Rat.num_divInt, Rat.den_divInt, if_neg (by omega), g, Nat.div_one, Int.sign_eq_one_of_pos hb, Int.one_mul, show ((1 : Nat) : Int) = 1 from rfl, Int.ediv_one, show ((b.natAbs : Nat) : Int) = b by omega]
section
variable {h : Hs} {E : DL.EP} {Q : Val → Hs → Prop} {n m b : Nat} {ls : List Ln} {qs : List Rat}
theorem places_ok {l : Ln} {ρ : DL.Env} (hρ : ρ[5]? = some (some (.d (lineD l)))) (hl : l.1.length ≤ 4000) (h9 : 9 < ρ.length) : compR [] (gN 9) (tVal (eOp dNe (eIx (eIx (eVar 5) (eC (.int 0))) (eVar 9)) (eC (.int 0)))) (eVar 9) ρ (rng 0 l.1.length) h [] = some (((List.range l.1.length).filter fun j => !decide (l.1[j]? = some 0)).map fun j : Nat => PyData.int (j : Int), h) := by
  rw [rng0]
  have i0 : dIx (lineD l) (.int 0) = some (.tuple (l.1.map .int)) := rfl
  have z := compR_fm (h := h) (g := []) (gt := gN 9) (ft := tVal (eOp dNe (eIx (eIx (eVar 5) (eC (.int 0))) (eVar 9)) (eC (.int 0)))) (fe := eVar 9) (ρ := ρ) (acc := []) (fun j : Nat => PyData.int (j : Int)) (fun j => PyData.int (j : Int)) (fun j => !decide (l.1[j]? = some 0)) (l := List.range l.1.length) (Chk_nil _) (sz_le (by simp; omega)) (fun j hj => by
    have lt : j < l.1.length := by simpa using hj
    have r5 : (ρ.set 9 (some (.d (.int (j : Int)))))[5]? = some (some (.d (lineD l))) := by rw [List.getElem?_set_ne (by omega)]; exact hρ
    have r9 : (ρ.set 9 (some (.d (.int (j : Int)))))[9]? = some (some (.d (.int (j : Int)))) := by rw [List.getElem?_set_self h9]
    have e2 : atI (l.1.map PyData.int) (j : Int) = some (.int l.1[j]) := by rw [DL.atI_nat]; simp [lt]
    simp [r5, r9, i0, e2, dNe_int, lt])
  rw [z, List.nil_append]
theorem fr_fold {K : Nat} {D : Int} (h0 : D ≠ 0) : ∀ (xs : List Rat) (a : Rat) (j : Nat), (∀ x ∈ xs, Fr K D x) → Fr (K + j) D a → Fr (K + j + xs.length) D (xs.foldl (· + ·) a)
  | [], a, j, _, ha => ha
  | x :: xs, a, j, hx, ha => by
    have z := fr_fold h0 xs (a + x) (j + 1) (fun y m => hx y (List.mem_cons_of_mem _ m)) ((ha.add (hx x List.mem_cons_self) h0).mono (by omega))
    exact z.mono (by rw [List.length_cons]; omega)
theorem worth_fr {m B : Nat} {D : Int} {l : Ln} {qs : List Rat} (hs : ∀ x ∈ rowL l, Lt2 m x) (h0 : D ≠ 0) (hD : Lt2 B D) (hq : ∀ q ∈ qs, Fr B D q) : Fr (m + B + qs.length) D (worthq l qs) := by
  have hl : (l.1.zip qs).length ≤ qs.length := by rw [List.length_zip]; exact Nat.min_le_right _ _
  refine (fr_fold (K := m + B) h0 _ _ 0 (fun x hx => ?_) ?_).mono (by rw [List.length_map]; omega)
  · obtain ⟨p, hp, rfl⟩ := List.mem_map.mp hx
    obtain ⟨h1, h2⟩ := List.of_mem_zip hp
    exact Fr.imul (hs _ (List.mem_append_left _ h1)) (hq _ h2) h0
  · exact (Fr.int (hs _ (by simp [rowL])) h0 hD).neg
theorem fr_divi {B : Nat} {D x : Int} {q : Rat} (f : Fr B D q) (h0 : D ≠ 0) (hx : x ≠ 0) : Fr B (D * x) (q / (x : Rat)) := by
  obtain ⟨k, rfl, hk⟩ := f
  refine ⟨k, ?_, hk⟩
  have a := ic0 h0
  have b := ic0 hx
  rw [Rat.intCast_mul]
  grind
theorem rest_div (r : Rat) (x : Int) (hx : x ≠ 0) : Rat.divInt (-r.num) (r.den * x) = -(r / (x : Rat)) := by
  have a : (r.den : Rat) ≠ 0 := by have := r.den_nz; exact_mod_cast this
  have b := ic0 hx
  have e : r = (r.num : Rat) / (r.den : Rat) := by
    have := Rat.num_divInt_den r
    rw [Rat.divInt_eq_div] at this
    exact_mod_cast this.symm
  rw [Rat.divInt_eq_div, Rat.intCast_mul, Rat.intCast_neg]
  have e2 : ((r.den : Int) : Rat) = (r.den : Rat) := rfl
  rw [e2]
  generalize (r.num : Rat) = u at e
  generalize (r.den : Rat) = v at e a
  rw [e]
  grind
theorem spot_one {n a : Nat} {D x : Int} {q0 : List Rat} {l : Ln} (hn : n ≤ 3) (l1 : q0.length = n) (hs : ∀ x ∈ rowL l, Lt2 4 x) (alt : a < q0.length) (hx : x ≠ 0) (bx : Lt2 4 x) (h0 : D ≠ 0) (h1 : Lt2 421 D) (h2 : ∀ q ∈ q0, Fr 421 D q) :
    D * x ≠ 0 ∧ Lt2 425 (D * x) ∧ ∀ q ∈ q0.set a (q0[a] + Rat.divInt (-(worthq l q0).num) ((worthq l q0).den * x)), Fr 430 (D * x) q := by
  refine ⟨Int.mul_ne_zero h0 hx, h1.mul bx, fun q hq => ?_⟩
  have w := worth_fr hs h0 h1 h2
  have all : ∀ q ∈ q0, Fr 425 (D * x) q := fun q hq => (h2 q hq).scale h0 hx bx
  rcases List.mem_or_eq_of_mem_set hq with hq | hq
  · exact (all q hq).mono (by omega)
  · rw [hq, rest_div _ _ hx]
    exact ((all _ (List.getElem_mem alt)).add (Fr.neg (fr_divi w h0 hx)) (Int.mul_ne_zero h0 hx)).mono (by omega)
end

end W_k03

set_option maxHeartbeats 400000
namespace W_k03
open PySem PySem.Spec PyProof.Rows L2 DL
/-! ### wishes drawn -/
theorem okD_wish (ws : List (Option Int)) (hl : ws.length ≤ 4000) : okD 2 (.list (ws.map wD)) := by
  refine ⟨by simp; omega, fun x hx => ?_⟩
  obtain ⟨w, _, rfl⟩ := List.mem_map.mp hx
  cases w <;> exact True.intro
theorem WishOk.snoc {ws : List (Option Int)} (k : WishOk ws) {w : Option Int} (hw : ∀ i, w = some i → i = -1 ∨ i = 0 ∨ i = 1) : WishOk (ws ++ [w]) := fun v hv => by
  rcases List.mem_append.mp hv with hv | hv
  · exact k v hv
  · have : v = w := by simpa using hv
    rw [this]; exact hw
theorem WishOk.set {ws : List (Option Int)} (k : WishOk ws) {w : Option Int} (j : Nat) (hw : ∀ i, w = some i → i = -1 ∨ i = 0 ∨ i = 1) : WishOk (ws.set j w) := fun v hv => by
  rcases List.mem_or_eq_of_mem_set hv with hv | hv
  · exact k v hv
  · rw [hv]; exact hw
section
variable {h : Hs} {E : DL.EP} {Q : Val → Hs → Prop} {n m b : Nat} {ls : List Ln} {qs : List Rat}
def Signs (cells : List Int) : Prop := ∀ c ∈ cells, c = -1 ∨ c = 0 ∨ c = 1
theorem wish_first {i : Nat} {cells : List Int} (hc : Signs cells) (hl : cells.length ≤ 1000) (d : DeckAt i h) (ρ : DL.Env) (hρ : ρ[0]? = some (some (.r i))) (h5 : 5 < ρ.length) :
    ∃ (ws : List (Option Int)) (h' : Hs), compR [] (gN 5) tYesD (eIf (tVal (eOp (dInt2 (gCmp fun i j => decide (j < i))) (eCall F__law_take (aCons (eVar 0) (aCons (eC (.int 3)) aNil))) (eC (.int 0)))) (eVar 5) (eC .none)) ρ (cells.map .int) h [] = some (ws.map wD, h') ∧ ws.length = cells.length ∧ WishOk ws ∧ Dk i h h' := by
  obtain ⟨es, h', e1, ws, rfl, e2, e3, e4⟩ := wp_comp (g := []) (gt := gN 5) (ft := tYesD) (fe := eIf (tVal (eOp (dInt2 (gCmp fun i j => decide (j < i))) (eCall F__law_take (aCons (eVar 0) (aCons (eC (.int 3)) aNil))) (eC (.int 0)))) (eVar 5) (eC .none)) (ρ := ρ)
    (fun j h' acc => ∃ ws : List (Option Int), acc = ws.map wD ∧ ws.length = j ∧ WishOk ws ∧ Dk i h h') (ds := cells.map .int) (h := h) (acc := []) 0 (fun _ _ _ _ => Chk_nil _) ⟨[], rfl, rfl, (fun _ m => by cases m), Dk.refl d⟩ (fun j x h1 acc hx ⟨ws, ea, el, eb, ed⟩ _ => by
    obtain ⟨c, hcj, rfl⟩ : ∃ c, cells[j]? = some c ∧ PyData.int c = x := by simpa using hx
    have hj : j < cells.length := (List.getElem?_eq_some_iff.mp hcj).1
    have r0 : (ρ.set 5 (some (.d (.int c))))[0]? = some (some (.r i)) := by rw [List.getElem?_set_ne (by omega)]; exact hρ
    have r5 : (ρ.set 5 (some (.d (.int c))))[5]? = some (some (.d (.int c))) := by rw [List.getElem?_set_self h5]
    have al : acc.length < sizeLine := by rw [ea, List.length_map, el, sizeLine_eq]; omega
    simp [r0]
    refine take_wp ed.deck (by decide) (by decide) fun t h2 t0 t1 d2 => ?_
    by_cases ht : 0 < t
    · simp [ht, r5]
      refine ⟨al, ws ++ [some c], by rw [ea]; simp [wD], by rw [List.length_append, el]; simp, eb.snoc fun i e => ?_, ed.trans d2⟩
      cases e
      exact hc c (List.mem_of_getElem? hcj)
    · simp [ht]
      exact ⟨al, ws ++ [none], by rw [ea]; simp [wD], by rw [List.length_append, el]; simp, eb.snoc (fun i e => by cases e), ed.trans d2⟩)
  exact ⟨ws, h', e1, by simpa using e2, e3, e4⟩
theorem wish_free {i : Nat} {cells : List Int} (hl : cells.length ≤ 1000) (d : DeckAt i h) (ρ : DL.Env) (hρ : ρ[0]? = some (some (.r i))) :
    ∃ (ws : List (Option Int)) (h' : Hs), compR [] (gN 5) tYesD (eIx (eLst (aCons (eUn dNeg (eC (.int 1))) (aCons (eC (.int 0)) (aCons (eC (.int 1)) (aCons (eC .none) aNil))))) (eCall F__law_take (aCons (eVar 0) (aCons (eC (.int 4)) aNil)))) ρ (cells.map .int) h [] = some (ws.map wD, h') ∧ ws.length = cells.length ∧ WishOk ws ∧ Dk i h h' := by
  obtain ⟨es, h', e1, ws, rfl, e2, e3, e4⟩ := wp_comp (g := []) (gt := gN 5) (ft := tYesD) (fe := eIx (eLst (aCons (eUn dNeg (eC (.int 1))) (aCons (eC (.int 0)) (aCons (eC (.int 1)) (aCons (eC .none) aNil))))) (eCall F__law_take (aCons (eVar 0) (aCons (eC (.int 4)) aNil)))) (ρ := ρ)
    (fun j h' acc => ∃ ws : List (Option Int), acc = ws.map wD ∧ ws.length = j ∧ WishOk ws ∧ Dk i h h') (ds := cells.map .int) (h := h) (acc := []) 0 (fun _ _ _ _ => Chk_nil _) ⟨[], rfl, rfl, (fun _ m => by cases m), Dk.refl d⟩ (fun j x h1 acc hx ⟨ws, ea, el, eb, ed⟩ _ => by
    have hj : j < cells.length := by
      have := (List.getElem?_eq_some_iff.mp hx).1
      simpa using this
    have r0 : (ρ.set 5 (some (.d x)))[0]? = some (some (.r i)) := by rw [List.getElem?_set_ne (by omega)]; exact hρ
    have al : acc.length < sizeLine := by rw [ea, List.length_map, el, sizeLine_eq]; omega
    simp [r0, sz_le]
    refine take_wp ed.deck (by decide) (by decide) fun t h2 t0 t1 d2 => ?_
    have at4 : ∀ (a b c d : D), atI [a, b, c, d] 0 = some a ∧ atI [a, b, c, d] 1 = some b ∧ atI [a, b, c, d] 2 = some c ∧ atI [a, b, c, d] 3 = some d := fun a b c d => ⟨rfl, rfl, rfl, rfl⟩
    have fin : ∀ w : Option Int, (∀ i, w = some i → i = -1 ∨ i = 0 ∨ i = 1) → ∃ x, Val.d (wD w) = .d x ∧ acc.length < sizeLine ∧ ∃ ws : List (Option Int), acc ++ [x] = ws.map wD ∧ ws.length = j + 1 ∧ WishOk ws ∧ Dk i h h2 := fun w hw => ⟨wD w, rfl, al, ws ++ [w], by rw [ea]; simp, by rw [List.length_append, el]; simp, eb.snoc hw, ed.trans d2⟩
    have c4 : t = 0 ∨ t = 1 ∨ t = 2 ∨ t = 3 := by omega
    rcases c4 with rfl | rfl | rfl | rfl
    · simpa [(at4 _ _ _ _).1, wD] using fin (some (-1)) (fun i e => by cases e; exact .inl rfl)
    · simpa [(at4 _ _ _ _).2.1, wD] using fin (some 0) (fun i e => by cases e; exact .inr (.inl rfl))
    · simpa [(at4 _ _ _ _).2.2.1, wD] using fin (some 1) (fun i e => by cases e; exact .inr (.inr rfl))
    · simpa [(at4 _ _ _ _).2.2.2, wD] using fin none (fun i e => by cases e))
  exact ⟨ws, h', e1, by simpa using e2, e3, e4⟩
theorem other_two {c t : Int} {cells : List Int} {a : Nat} (hc : c = -1 ∨ c = 0 ∨ c = 1) (t0 : 0 ≤ t) (t1 : t < 2) (ρ : DL.Env) (hc5 : 5 < ρ.length) (r1 : ρ[1]? = some (some (.d (.tuple (cells.map .int))))) (r4 : ρ[4]? = some (some (.d (.int (a : Int))))) (ix : atI (cells.map PyData.int) (a : Int) = some (.int c)) :
    ∃ w, compR [] (gN 5) (tVal (eOp dNe (eVar 5) (eIx (eVar 1) (eVar 4)))) (eVar 5) ρ [.int (-1), .int 0, .int 1] h [] = some (([-1, 0, 1].filter fun x : Int => !decide (x = c)).map .int, h) ∧ atI (([-1, 0, 1].filter fun x : Int => !decide (x = c)).map PyData.int) t = some (.int w) ∧ (w = -1 ∨ w = 0 ∨ w = 1) := by
  have cm := compR_fm (h := h) (g := []) (gt := gN 5) (ft := tVal (eOp dNe (eVar 5) (eIx (eVar 1) (eVar 4)))) (fe := eVar 5) (ρ := ρ) (acc := []) (fun p : Int => .int p) (fun p => .int p) (fun x => !decide (x = c)) (l := [-1, 0, 1]) (Chk_nil _) (sz_le (by simp)) (fun p hp => by
    have r5 : (ρ.set 5 (some (.d (.int p))))[5]? = some (some (.d (.int p))) := by rw [List.getElem?_set_self hc5]
    simp [r5, r1, r4, ix, dNe_int])
  rw [List.nil_append] at cm
  have tt : t = 0 ∨ t = 1 := by omega
  rcases hc with rfl | rfl | rfl <;> rcases tt with rfl | rfl
  · exact ⟨0, cm, rfl, .inr (.inl rfl)⟩
  · exact ⟨1, cm, rfl, .inr (.inr rfl)⟩
  · exact ⟨-1, cm, rfl, .inl rfl⟩
  · exact ⟨1, cm, rfl, .inr (.inr rfl)⟩
  · exact ⟨-1, cm, rfl, .inl rfl⟩
  · exact ⟨0, cm, rfl, .inr (.inl rfl)⟩
end

end W_k03

set_option maxHeartbeats 400000
namespace W_k03
open PySem PySem.Spec PyProof.Rows L2 DL
/-! ### questions drawn -/
theorem wpS_cut {P : Po} {g1 g2 : MS} {ρ : DL.Env} {h : Hs} (Mid : DL.Env → Hs → Prop) (w : DL.wpS (g1 ρ h) ⟨Mid, fun _ _ => False, fun _ _ _ _ => False, fun _ _ => False, fun _ _ => False⟩) (k : ∀ ρ' h', Mid ρ' h' → DL.wpS (g2 ρ' h') P) : DL.wpS (sSeq g1 g2 ρ h) P := by
  rw [wpS_sSeq]
  exact DL.wpS_mono w k (fun _ _ z => z.elim) (fun _ _ _ _ z => z.elim) (fun _ _ z => z.elim) (fun _ _ z => z.elim)
theorem intsOf_map (l : List Int) : intsOf (l.map .int) = some l := by
  induction l with
  | nil => rfl
  | cons x l ih => simp only [List.map_cons, intsOf, ih, Option.map_some]
theorem dMax_ints {l : List Int} (hl : l ≠ []) : dMax (.list (l.map .int)) = some (.int (maxL l)) := by
  unfold dMax
  simp only [intsOf_map]
  first
    | rfl
    | (cases l with
       | nil => exact absurd rfl hl
       | cons _ _ => rfl)
theorem maxL_ge {l : List Int} {x : Int} (m : x ∈ l) : x ≤ maxL l := (foldmax_spec l _).2.2 x m
theorem flatten_one (n : Nat) (x : D) : (List.replicate n [x]).flatten = List.replicate n x := by
  induction n with
  | zero => rfl
  | succ n ih => rw [List.replicate_succ, List.flatten_cons, ih]; rfl
theorem map_zeros (n : Nat) : List.replicate n (PyData.int 0) = (List.replicate n (0 : Int)).map .int := by simp
section
variable {h : Hs} {E : DL.EP} {Q : Val → Hs → Prop} {n : Nat} {ls : List Ln}
theorem draws_comp {i : Nat} {far : Int} (d : DeckAt i h) (f0 : 0 ≤ far) (f1 : far ≤ 9) (hn : n ≤ 3) (ρ : DL.Env) (r0 : ρ[0]? = some (some (.r i))) (r3 : ρ[3]? = some (some (.d (.int far)))) :
    ∃ (s : List Int) (h' : Hs), compR [] (gN 10) tYesD (eOp (dInt2 gSub) (eCall F__law_take (aCons (eVar 0) (aCons (eOp dAdd (eOp dMul (eC (.int 2)) (eVar 3)) (eC (.int 1))) aNil))) (eVar 3)) ρ (rng 0 n) h [] = some (s.map .int, h') ∧ s.length = n ∧ Dk i h h' := by
  have dm : dMul (.int 2) (.int far) = some (.int (2 * far)) := dMul_of (n := 2) (m := 4) (show Int.natAbs 2 < 2 ^ 2 by decide) (show far.natAbs < 2 ^ 4 by omega) (by omega)
  obtain ⟨es, h', e1, s, rfl, e2, e4⟩ := wp_comp (g := []) (gt := gN 10) (ft := tYesD) (fe := eOp (dInt2 gSub) (eCall F__law_take (aCons (eVar 0) (aCons (eOp dAdd (eOp dMul (eC (.int 2)) (eVar 3)) (eC (.int 1))) aNil))) (eVar 3)) (ρ := ρ)
    (fun j h' acc => ∃ s : List Int, acc = s.map .int ∧ s.length = j ∧ Dk i h h') (ds := rng 0 n) (h := h) (acc := []) 0 (fun _ _ _ _ => Chk_nil _) ⟨[], rfl, rfl, Dk.refl d⟩ (fun j x h1 acc hx ⟨s, ea, el, ed⟩ _ => by
    have hj : j < n := by
      have := (List.getElem?_eq_some_iff.mp hx).1
      simpa [rng] using this
    have q0 : (ρ.set 10 (some (.d x)))[0]? = some (some (.r i)) := by rw [List.getElem?_set_ne (by omega)]; exact r0
    have q3 : (ρ.set 10 (some (.d x)))[3]? = some (some (.d (.int far))) := by rw [List.getElem?_set_ne (by omega)]; exact r3
    have al : acc.length < sizeLine := by rw [ea, List.length_map, el, sizeLine_eq]; omega
    simp [q0, q3, dm]
    refine take_wp ed.deck (by omega) (by
      have : (2 * far + 1).natAbs.log2 < 10 := (Nat.log2_lt (by omega)).mpr (by omega)
      omega) fun t h2 t0 t1 d2 => ?_
    simp
    exact ⟨al, s ++ [t - far], by rw [ea]; simp, by rw [List.length_append, el]; simp, ed.trans d2⟩)
  exact ⟨s, h', e1, by simpa [rng] using e2, e4⟩
/-- the sides and the wall so far -/
def LMid (i n p : Nat) (h : Hs) (ls : List Ln) (way : Int) (ok : List Int → Int → Prop) (ρ : DL.Env) (h' : Hs) : Prop := ∃ (s : List Int) (w far : Int) (sp : Nat) (x7 x8 x9 : Option Val),
  ρ = [some (.r i), some (.d (.int n)), some (.r p), some (.d (.int far)), some (.d (.int way)), some (.r sp), some (.d (.int w)), x7, x8, x9, none, none, none] ∧ s.length = n ∧ h'[sp]? = some (.lst (s.map .int)) ∧ Dl i h h' ∧ h'[p]? = some (.lst (ls.map lineD)) ∧ ok s w
theorem line_wp {i p : Nat} (hn1 : 1 ≤ n) (hn : n ≤ 3) (d : DeckAt i h) (hp : h[p]? = some (.lst (ls.map lineD))) (pi : p ≠ i) (k : ∀ l ∈ ls, LineOk n 4 l) (hm : ls.length ≤ 1000) (q : ∀ l h', LineOk n 4 l → Dk i h h' → Q (.d (lineD l)) h') : wpR (F__law_line [.r i, .d (.int n), .r p] h) Q E := by
  have lt := d.lt
  have plt : p < h.length := (List.getElem?_eq_some_iff.mp hp).1
  unfold F__law_line G__law_line
  rw [wpR_mkF]
  refine ⟨rfl, ?_⟩
  simp only [startE, List.map_cons, List.map_nil, List.length_cons, List.length_nil, List.cons_append, List.nil_append, List.replicate]
  -- far, way
  refine wpS_cut (fun ρ h' => ∃ far way : Int, 1 ≤ far ∧ far ≤ 9 ∧ ρ = [some (.r i), some (.d (.int n)), some (.r p), some (.d (.int far)), some (.d (.int way)), none, none, none, none, none, none, none, none] ∧ Dk i h h') ?_ ?_
  · simp [sz_le]
    refine take_wp d (by decide) (by decide) fun t h1 t0 t1 d1 => ?_
    have at5 : ∀ (a b c d e : D), atI [a, b, c, d, e] 0 = some a ∧ atI [a, b, c, d, e] 1 = some b ∧ atI [a, b, c, d, e] 2 = some c ∧ atI [a, b, c, d, e] 3 = some d ∧ atI [a, b, c, d, e] 4 = some e := fun a b c d e => ⟨rfl, rfl, rfl, rfl, rfl⟩
    have c5 : t = 0 ∨ t = 1 ∨ t = 2 ∨ t = 3 ∨ t = 4 := by omega
    have : ∃ far : Int, 1 ≤ far ∧ far ≤ 9 ∧ atI [PyData.int 1, .int 1, .int 2, .int 3, .int 9] t = some (.int far) := by
      rcases c5 with rfl | rfl | rfl | rfl | rfl
      · exact ⟨1, by decide, by decide, rfl⟩
      · exact ⟨1, by decide, by decide, rfl⟩
      · exact ⟨2, by decide, by decide, rfl⟩
      · exact ⟨3, by decide, by decide, rfl⟩
      · exact ⟨9, by decide, by decide, rfl⟩
    obtain ⟨far, f1, f2, fe⟩ := this
    simp [fe]
    refine take_wp d1.deck (by decide) (by decide) fun way h2 w0 w1 d2 => ?_
    simp
    exact ⟨far, f1, f2, rfl, d1.trans d2⟩
  rintro ρ h1 ⟨far, way, f1, f2, rfl, d1⟩
  have dm : dMul (.int 2) (.int far) = some (.int (2 * far)) := dMul_of (n := 2) (m := 4) (show Int.natAbs 2 < 2 ^ 2 by decide) (show far.natAbs < 2 ^ 4 by omega) (by omega)
  -- the sides
  refine wpS_cut (fun ρ h' => ∃ s : List Int, ρ = [some (.r i), some (.d (.int n)), some (.r p), some (.d (.int far)), some (.d (.int way)), some (.r h.length), none, none, none, none, none, none, none] ∧ s.length = n ∧ h'[h.length]? = some (.lst (s.map .int)) ∧ Dl i h h') ?_ ?_
  · obtain ⟨s, h2, e2, l2, d2⟩ := draws_comp (n := n) (far := far) d1.deck (by omega) f2 hn [some (.r i), some (.d (.int n)), some (.r p), some (.d (.int far)), some (.d (.int way)), none, none, none, none, none, none, none, none] rfl rfl
    have lh : h2.length = h.length := (d1.trans d2).len
    simp [small_nat (show n ≤ 100000 by omega)]
    rw [e2]
    have at3 : (h2 ++ [MO.lst (s.map .int)])[h.length]? = some (.lst (s.map .int)) := by rw [← lh]; simp
    have dl3 := (Dl.of (d1.trans d2)).push [.lst (s.map .int)]
    simp [lh]
    exact ⟨s, l2, rfl, (Dl.of (d1.trans d2)).push [.lst (s.map .int)]⟩
  rintro ρ h2 ⟨s, rfl, ls2, at2, dl2⟩
  have ki : h.length ≠ i := by omega
  have hp2 : h2[p]? = some (.lst (ls.map lineD)) := (dl2.oth p plt pi).trans hp
  -- the wall
  refine wpS_cut (LMid i n p h ls way fun _ _ => True) ?_ ?_
  · simp [dm]
    refine take_wp dl2.deck (by omega) (by
      have : (2 * far + 1).natAbs.log2 < 10 := (Nat.log2_lt (by omega)).mpr (by omega)
      omega) fun t h3 t0 t1 d3 => ?_
    simp
    exact ⟨s, t - far, far, h.length, none, none, none, rfl, ls2, (d3.oth _ ki).trans at2, dl2.step d3, (d3.oth _ pi).trans hp2, trivial⟩
  clear at2 hp2 dl2 ls2 s d1 h1 dm f1 f2 far h2
  -- of two earlier ones
  rintro ρ h2 ⟨s, w, far, sp, x7, x8, x9, rfl, ls2, at2, dl2, hp2, _⟩
  refine wpS_cut (LMid i n p h ls way fun _ _ => True) ?_ ?_
  · have ok := (okD_lines (show n ≤ 4000 by omega) hm k).2
    have stay : LMid i n p h ls way (fun _ _ => True) [some (.r i), some (.d (.int n)), some (.r p), some (.d (.int far)), some (.d (.int way)), some (.r sp), some (.d (.int w)), x7, x8, x9, none, none, none] h2 := ⟨s, w, far, sp, x7, x8, x9, rfl, ls2, at2, dl2, hp2, trivial⟩
    simp [vD_r hp2, vS_r hp2, dNe_nilL ok, sz_le]
    by_cases hz : ls = []
    · subst hz
      simp
      exact stay
    · have lpos : 0 < ls.length := List.length_pos_iff.mpr hz
      simp [hz]
      by_cases hw : way < 2
      · simp [hw, vS_r hp2]
        have pick : ∀ (t : Int), 0 ≤ t → t < ls.length → ∃ l ∈ ls, atI (ls.map lineD) t = some (lineD l) := fun t t0 t1 => by
          obtain ⟨j, rfl⟩ : ∃ j : Nat, t = (j : Int) := ⟨t.toNat, by omega⟩
          have jlt : j < ls.length := by omega
          exact ⟨ls[j], List.getElem_mem jlt, by rw [DL.atI_nat]; simp [jlt]⟩
        refine take_wp dl2.deck (by omega) (log_small (by omega)) fun t h3 t0 t1 d3 => ?_
        have dl3 := dl2.step d3
        have hp3 : h3[p]? = some (.lst (ls.map lineD)) := (d3.oth _ pi).trans hp2
        obtain ⟨f, fm, fe⟩ := pick t t0 t1
        simp [vS_r hp3, fe]
        refine take_wp dl3.deck (by omega) (log_small (by omega)) fun t2 h4 t20 t21 d4 => ?_
        have dl4 := dl3.step d4
        have hp4 : h4[p]? = some (.lst (ls.map lineD)) := (d4.oth _ pi).trans hp3
        obtain ⟨g, gm, ge⟩ := pick t2 t20 t21
        simp [vS_r hp4, ge, sz_le]
        refine take_wp dl4.deck (by decide) (by decide) fun t3 h5 t30 t31 d5 => ?_
        have dl5 := dl4.step d5
        have hp5 : h5[p]? = some (.lst (ls.map lineD)) := (d5.oth _ pi).trans hp4
        have c6 : t3 = 0 ∨ t3 = 1 ∨ t3 = 2 ∨ t3 = 3 ∨ t3 = 4 ∨ t3 = 5 := by omega
        have : ∃ a b : Int, a.natAbs < 2 ^ 2 ∧ b.natAbs < 2 ^ 2 ∧ atI [PyData.tuple [.int 1, .int 0], .tuple [.int 2, .int 0], .tuple [.int (-1), .int 0], .tuple [.int 1, .int 1], .tuple [.int 1, .int (-1)], .tuple [.int 2, .int (-1)]] t3 = some (.tuple [.int a, .int b]) := by
          rcases c6 with rfl | rfl | rfl | rfl | rfl | rfl
          · exact ⟨1, 0, by decide, by decide, rfl⟩
          · exact ⟨2, 0, by decide, by decide, rfl⟩
          · exact ⟨-1, 0, by decide, by decide, rfl⟩
          · exact ⟨1, 1, by decide, by decide, rfl⟩
          · exact ⟨1, -1, by decide, by decide, rfl⟩
          · exact ⟨2, -1, by decide, by decide, rfl⟩
        obtain ⟨a, b, ha, hb, he⟩ := this
        have f0 : dIx (lineD f) (.int 0) = some (.tuple (f.1.map .int)) := rfl
        have f1 : dIx (lineD f) (.int 1) = some (.int f.2) := rfl
        have g0 : dIx (lineD g) (.int 0) = some (.tuple (g.1.map .int)) := rfl
        have g1 : dIx (lineD g) (.int 1) = some (.int g.2) := rfl
        have kf := k f fm
        have kg := k g gm
        have zl : (f.1.zip g.1).length = n := by rw [List.length_zip, kf.len, kg.len, Nat.min_self]
        have cm := compR_map (h := h5) (g := []) (gt := gT (gsCons (gN 11) (gsCons (gN 12) gsNil))) (fe := eOp dAdd (eOp dMul (eIx (eVar 9) (eC (.int 0))) (eVar 11)) (eOp dMul (eIx (eVar 9) (eC (.int 1))) (eVar 12)))
          (ρ := [some (.r i), some (.d (.int n)), some (.r p), some (.d (.int far)), some (.d (.int way)), some (.r sp), some (.d (.int w)), some (.d (lineD f)), some (.d (lineD g)), some (.d (.tuple [.int a, .int b])), none, none, none])
          (fun z : Int × Int => .tuple [.int z.1, .int z.2]) (fun z => .int (a * z.1 + b * z.2)) (l := f.1.zip g.1) (Chk_nil _) (sz_le (by omega)) (fun z hz => by
            obtain ⟨m1, m2⟩ := List.of_mem_zip hz
            have da := dMul_of (n := 2) (m := 4) ha (kf.bits _ (List.mem_append_left _ m1)) (by omega)
            have db := dMul_of (n := 2) (m := 4) hb (kg.bits _ (List.mem_append_left _ m2)) (by omega)
            simp [atI_zero, atI_one, da, db])
        have dfw := dMul_of (n := 2) (m := 4) ha (kf.bits f.2 (by simp [rowL])) (by omega)
        have dgw := dMul_of (n := 2) (m := 4) hb (kg.bits g.2 (by simp [rowL])) (by omega)
        simp [he, f0, g0]
        rw [zw, cm]
        simp [atI_zero, atI_one, f1, g1, dfw, dgw, sz_le]
        have dl6 := dl5.push [.lst ((f.1.zip g.1).map fun z => PyData.int (a * z.1 + b * z.2))]
        refine take_wp dl6.deck (by decide) (by decide) fun t7 h7 t70 t71 d7 => ?_
        have p5 : p < h5.length := (List.getElem?_eq_some_iff.mp hp5).1
        have i5 : i < h5.length := by have := dl5.len; omega
        have c3 : t7 = 0 ∨ t7 = 1 ∨ t7 = 2 := by omega
        have : ∃ w' : Int, atI [PyData.int w, .int (a * f.2 + b * g.2), .int 0] t7 = some (.int w') := by
          rcases c3 with rfl | rfl | rfl
          · exact ⟨_, rfl⟩
          · exact ⟨_, rfl⟩
          · exact ⟨_, rfl⟩
        obtain ⟨w', we⟩ := this
        have fin : LMid i n p h ls way (fun _ _ => True) [some (.r i), some (.d (.int n)), some (.r p), some (.d (.int far)), some (.d (.int way)), some (.r h5.length), some (.d (.int w')), some (.d (lineD f)), some (.d (lineD g)), some (.d (.tuple [.int a, .int b])), none, none, none] h7 :=
          ⟨(f.1.zip g.1).map fun z => a * z.1 + b * z.2, w', far, h5.length, _, _, _, rfl, by rw [List.length_map, zl], by rw [d7.oth _ (by omega)]; simp [List.map_map, Function.comp_def], dl6.step d7, by rw [d7.oth _ pi, List.getElem?_append_left p5]; exact hp5, trivial⟩
        simp [we]
        exact fin
      · simp [hw]
        exact stay
  clear at2 hp2 dl2 ls2 s h2
  rintro ρ h2 ⟨s, w, far, sp, x7, x8, x9, rfl, ls2, at2, dl2, hp2, _⟩
  -- through nought
  refine wpS_cut (LMid i n p h ls way fun _ _ => True) ?_ ?_
  · by_cases hw : way = 2
    · have fin : LMid i n p h ls way (fun _ _ => True) [some (.r i), some (.d (.int n)), some (.r p), some (.d (.int far)), some (.d (.int way)), some (.r sp), some (.d (.int 0)), x7, x8, x9, none, none, none] h2 := ⟨s, 0, far, sp, x7, x8, x9, rfl, ls2, at2, dl2, hp2, trivial⟩
      simp [dEq_int, hw]
      rw [hw] at fin
      exact fin
    · have fin : LMid i n p h ls way (fun _ _ => True) [some (.r i), some (.d (.int n)), some (.r p), some (.d (.int far)), some (.d (.int way)), some (.r sp), some (.d (.int w)), x7, x8, x9, none, none, none] h2 := ⟨s, w, far, sp, x7, x8, x9, rfl, ls2, at2, dl2, hp2, trivial⟩
      simp [dEq_int, hw]
      exact fin
  clear at2 hp2 dl2 ls2 s h2
  rintro ρ h2 ⟨s, w, far, sp, x7, x8, x9, rfl, ls2, at2, dl2, hp2, _⟩
  -- too great or none
  refine wpS_cut (LMid i n p h ls way fun s w => LineOk n 4 (s, w)) ?_ ?_
  · have sq : seqOf (.r sp) h2 = some (s.map .int, [(sp, s.map .int)]) := by simp [seqOf, at2]
    have hc : Chk [(sp, s.map PyData.int)] h2 := fun pr hpr => by
      have e : pr = (sp, s.map PyData.int) := by simpa using hpr
      rw [e]
      exact at2
    have cm := compR_map (h := h2) (g := [(sp, s.map PyData.int)]) (gt := gN 11) (fe := eCallB (DL.d1 dAbs) (aCons (eVar 11) aNil))
      (ρ := [some (.r i), some (.d (.int n)), some (.r p), some (.d (.int far)), some (.d (.int way)), some (.r sp), some (.d (.int w)), x7, x8, x9, none, none, none])
      (fun x : Int => .int x) (fun x => .int (x.natAbs : Int)) (l := s) hc (sz_le (by omega)) (fun x hx => by simp)
    have ad : dAdd (.list (s.map fun x => PyData.int (x.natAbs : Int))) (.list [.int (w.natAbs : Int)]) = some (.list ((s.map (fun x => (x.natAbs : Int)) ++ [(w.natAbs : Int)]).map .int)) := by
      show (if _ then _ else _) = _
      rw [if_pos (sz_le (by simp; omega))]
      simp
    have mx : dMax (.list (s.map (PyData.int ∘ fun x => (x.natAbs : Int)) ++ [.int (w.natAbs : Int)])) = some (.int (maxL (s.map (fun x => (x.natAbs : Int)) ++ [(w.natAbs : Int)]))) := by
      have z := dMax_ints (l := s.map (fun x => (x.natAbs : Int)) ++ [(w.natAbs : Int)]) (by simp)
      rw [List.map_append, List.map_map] at z
      exact z
    have n3 : n = 1 ∨ n = 2 ∨ n = 3 := by omega
    have dz : dMul (.list [.int 0]) (.int n) = some (.list (List.replicate n (PyData.int 0))) := by
      show (if _ then _ else _) = _
      rw [if_pos ⟨by rcases n3 with rfl | rfl | rfl <;> decide, sz_le (by simp; omega)⟩, flatten_one]; rfl
    have dzm : dMulM (.list [.int 0]) (.int n) = some (List.replicate n (PyData.int 0)) := by
      show (if _ then _ else _) = _
      rw [if_pos ⟨by rcases n3 with rfl | rfl | rfl <;> decide, sz_le (by simp; omega)⟩, flatten_one]; rfl
    have eqz := dEq_ints s (List.replicate n 0)
    rw [List.map_replicate] at eqz
    have spn : sp < h2.length := (List.getElem?_eq_some_iff.mp at2).1
    have i2 : i < h2.length := by have := dl2.len; omega
    have p2 : p < h2.length := (List.getElem?_eq_some_iff.mp hp2).1
    -- what a new one is
    have new : ∀ far way : Int, DL.wpS ((sSeq (sSet 5 (eOpM dMulM (eLst (aCons (eC (.int 0)) aNil)) (eVar 1)))
        (sSeq (sSub (eIx (eLst (aCons (eC (.int 1)) (aCons (eUn dNeg (eC (.int 1))) (aCons (eC (.int 2)) aNil)))) (eCall F__law_take (aCons (eVar 0) (aCons (eC (.int 3)) aNil)))) (eVar 5) (eCall F__law_take (aCons (eVar 0) (aCons (eVar 1) aNil))))
        (sSet 6 (eOp (dInt2 gSub) (eCall F__law_take (aCons (eVar 0) (aCons (eC (.int 7)) aNil))) (eC (.int 3)))))) [some (.r i), some (.d (.int n)), some (.r p), some (.d (.int far)), some (.d (.int way)), some (.r sp), some (.d (.int w)), x7, x8, x9, none, none, none] h2)
        ⟨LMid i n p h ls way fun s w => LineOk n 4 (s, w), fun _ _ => False, fun _ _ _ _ => False, fun _ _ => False, fun _ _ => False⟩ := by
      intro far way
      have dl3 := dl2.push [.lst (List.replicate n (PyData.int 0))]
      simp [sz_le, dzm]
      refine take_wp dl3.deck (by decide) (by decide) fun t h3 t0 t1 d3 => ?_
      have dl4 := dl3.step d3
      have c3 : t = 0 ∨ t = 1 ∨ t = 2 := by omega
      have : ∃ v : Int, (v = 1 ∨ v = -1 ∨ v = 2) ∧ atI [PyData.int 1, .int (-1), .int 2] t = some (.int v) := by
        rcases c3 with rfl | rfl | rfl
        · exact ⟨1, .inl rfl, rfl⟩
        · exact ⟨-1, .inr (.inl rfl), rfl⟩
        · exact ⟨2, .inr (.inr rfl), rfl⟩
      obtain ⟨v, hv, ve⟩ := this
      simp [ve]
      refine take_wp dl4.deck (by omega) (log_small (by omega)) fun t4 h4 t40 t41 d4 => ?_
      have dl5 := dl4.step d4
      obtain ⟨j, rfl⟩ : ∃ j : Nat, t4 = (j : Int) := ⟨t4.toNat, by omega⟩
      have jn : j < n := by omega
      have ki2 : h2.length ≠ i := by omega
      have at4 : h4[h2.length]? = some (.lst (List.replicate n (PyData.int 0))) := by rw [d4.oth _ ki2, d3.oth _ ki2]; simp
      have ixn : ixN n (j : Int) = some j := by
        unfold ixN
        rw [if_pos (by omega), if_pos (by omega)]; rfl
      have hp4 : h4[p]? = some (.lst (ls.map lineD)) := by rw [d4.oth _ pi, d3.oth _ pi, List.getElem?_append_left p2]; exact hp2
      simp [at4, ixn]
      have kl4 : h2.length < h4.length := (List.getElem?_eq_some_iff.mp at4).1
      have dl6 := dl5.set lt (by have := dl2.len; omega : h.length ≤ h2.length) (.lst ((List.replicate n (PyData.int 0)).set j (.int v)))
      have pk : p ≠ h2.length := by omega
      have hp5 : (h4.set h2.length (MO.lst ((List.replicate n (PyData.int 0)).set j (.int v))))[p]? = some (.lst (ls.map lineD)) := by rw [List.getElem?_set_ne (Ne.symm pk)]; exact hp4
      have at5 : (h4.set h2.length (MO.lst ((List.replicate n (PyData.int 0)).set j (.int v))))[h2.length]? = some (.lst (((List.replicate n (0 : Int)).set j v).map .int)) := by rw [List.getElem?_set_self kl4, List.map_set, List.map_replicate]
      refine take_wp dl6.deck (by decide) (by decide) fun t7 h7 t70 t71 d7 => ?_
      have ok : LineOk n 4 ((List.replicate n (0 : Int)).set j v, t7 - 3) := by
        refine ⟨by simp, ⟨v, ?_, by omega⟩, fun x hx => ?_⟩
        · exact List.mem_of_getElem? (i := j) (by rw [List.getElem?_set_self (by simpa using jn)])
        · have : x.natAbs ≤ 3 := by
            rcases List.mem_append.mp hx with hx | hx
            · rcases List.mem_or_eq_of_mem_set hx with hx | hx
              · have := List.eq_of_mem_replicate hx
                omega
              · omega
            · have : x = t7 - 3 := by simpa using hx
              omega
          show x.natAbs < 2 ^ 4
          omega
      have fin : LMid i n p h ls way (fun s w => LineOk n 4 (s, w)) [some (.r i), some (.d (.int n)), some (.r p), some (.d (.int far)), some (.d (.int way)), some (.r h2.length), some (.d (.int (t7 - 3))), x7, x8, x9, none, none, none] h7 :=
        ⟨_, t7 - 3, far, h2.length, _, _, _, rfl, by simp, (d7.oth _ ki2).trans at5, dl6.step d7, (d7.oth _ pi).trans hp5, ok⟩
      simp
      exact fin
    have newF := new far way
    by_cases hmax : 9 < maxL (s.map (fun x => (x.natAbs : Int)) ++ [(w.natAbs : Int)])
    · simp only [sIf_at, DL.wpS_bind, tOrD_at, tVal_at, wpR_bind]
      simp [sq, -wpS_sSeq]
      rw [cm]
      simp [sz_le, ad, mx, hmax, -wpS_sSeq]
      exact newF
    · by_cases hz : s = List.replicate n 0
      · simp [sq, -wpS_sSeq]
        rw [cm]
        simp [sz_le, ad, mx, hmax, vD_r at2, dz, eqz, -wpS_sSeq]
        simp only [hz, decide_true, if_true]
        exact newF
      · have ok : LineOk n 4 (s, w) := by
          refine ⟨ls2, ?_, fun x hx => ?_⟩
          · refine Classical.byContradiction fun no => hz ?_
            refine List.eq_replicate_iff.mpr ⟨ls2, fun x hx => ?_⟩
            exact Classical.byContradiction fun x0 => no ⟨x, hx, x0⟩
          · have ge : ((x.natAbs : Nat) : Int) ≤ maxL (s.map (fun x => (x.natAbs : Int)) ++ [(w.natAbs : Int)]) := by
              refine maxL_ge ?_
              rcases List.mem_append.mp hx with hx | hx
              · exact List.mem_append_left _ (List.mem_map_of_mem (f := fun x : Int => (x.natAbs : Int)) hx)
              · have : x = w := by simpa using hx
                rw [this]
                exact List.mem_append_right _ (by simp)
            show x.natAbs < 2 ^ 4
            omega
        have fin : LMid i n p h ls way (fun s w => LineOk n 4 (s, w)) [some (.r i), some (.d (.int n)), some (.r p), some (.d (.int far)), some (.d (.int way)), some (.r sp), some (.d (.int w)), x7, x8, x9, none, none, none] h2 := ⟨s, w, far, sp, x7, x8, x9, rfl, ls2, at2, dl2, hp2, ok⟩
        simp [sq, -wpS_sSeq]
        rw [cm]
        simp [sz_le, ad, mx, hmax, vD_r at2, dz, eqz, hz, -wpS_sSeq]
        exact fin
  rintro ρ h3 ⟨s, w, far, sp, x7, x8, x9, rfl, ls3, at3, dl3, hp3, ok⟩
  simp [vDs, vD, at3, sz_le]
  exact q (s, w) _ ok (dl3.cut lt)
end

end W_k03

set_option maxHeartbeats 400000
namespace W_k03
open PySem PySem.Spec PyProof.Rows L2 DL
/-! ### books drawn -/
def keyL (l : Ln) : List Key := (ground (rowL l)).map .inl
def pairL (l : Ln) : D × D := (.tuple ((ground (rowL l)).map .int), .bool true)
theorem keyL_inj {a b : Ln} : keyL a = keyL b ↔ ground (rowL a) = ground (rowL b) := List.map_inj_right (fun x y z => Sum.inl.inj z)
theorem look_none {l : Ln} : ∀ {ls : List Ln}, (∀ x ∈ ls, ground (rowL x) ≠ ground (rowL l)) → lookBy keysE (ls.map pairL) (keyL l) = none
  | [], _ => rfl
  | x :: ls, hx => by
    have ih := look_none (ls := ls) fun y m => hx y (List.mem_cons_of_mem _ m)
    have ne : ¬ keysE (pairL x).1 = some (keyL l) := fun e => by
      have e2 : some (keyL x) = some (keyL l) := (keysE_ints _).symm.trans e
      exact hx x List.mem_cons_self (keyL_inj.mp (Option.some.inj e2))
    unfold lookBy at *
    rw [List.map_cons, List.find?_cons, decide_eq_false ne]
    exact ih
theorem look_some {l : Ln} : ∀ {ls : List Ln}, (∃ x ∈ ls, ground (rowL x) = ground (rowL l)) → (lookBy keysE (ls.map pairL) (keyL l)).isSome = true
  | [], ⟨x, m, _⟩ => by cases m
  | y :: ls, ⟨x, m, e⟩ => by
    unfold lookBy
    rw [List.map_cons, List.find?_cons]
    by_cases ey : keysE (pairL y).1 = some (keyL l)
    · rw [decide_eq_true ey]; rfl
    · rw [decide_eq_false ey]
      refine look_some (ls := ls) ⟨x, ?_, e⟩
      rcases List.mem_cons.mp m with rfl | m
      · exact absurd ((keysE_ints _).trans (congrArg some (keyL_inj.mpr e))) ey
      · exact m
/-- the lines so far, at pl, and what they stand for, at pl + 1 -/
def PMid (i n pl : Nat) (h : Hs) (j : Nat) (ρ : DL.Env) (h' : Hs) : Prop := ∃ (ls : List Ln) (x5 x6 : Option Val), ρ = [some (.r i), some (.d (.int 6)), some (.d (.int (1 + (n : Int)))), some (.r pl), some (.r (pl + 1)), x5, x6] ∧ Dl i h h' ∧ h'[pl]? = some (.lst (ls.map lineD)) ∧ h'[pl + 1]? = some (.dic true (ls.map pairL)) ∧ (∀ l ∈ ls, LineOk (1 + n) 4 l) ∧ (ls.map fun l => ground (rowL l)).Nodup ∧ ls.length ≤ j
section
variable {h : Hs} {E : DL.EP} {Q : Val → Hs → Prop} {n : Nat} {ls : List Ln}
theorem page_wp {i : Nat} (d : DeckAt i h) (q : ∀ n ls h', n ≤ 3 → PageOk n 4 ls → ls.length ≤ 6 → Dk i h h' → Q (.d (pageD n ls)) h') : wpR (F__law_page [.r i, .d (.int 6)] h) Q E := by
  have lt := d.lt
  unfold F__law_page G__law_page
  rw [wpR_mkF]
  refine ⟨rfl, ?_⟩
  simp [startE]
  refine take_wp d (by decide) (by decide) fun t h1 t0 t1 d1 => ?_
  obtain ⟨n, rfl⟩ : ∃ n : Nat, t = (n : Int) := ⟨t.toNat, by omega⟩
  have lh : h1.length = h.length := d1.len
  simp [sz_le]
  have dl1 : Dl i h (h1 ++ [MO.lst [], MO.dic true []]) := (Dl.of d1).push _
  refine take_wp dl1.deck (by decide) (by decide) fun t2 h2 t20 t21 d2 => ?_
  obtain ⟨m, rfl⟩ : ∃ m : Nat, t2 = (m : Int) := ⟨t2.toNat, by omega⟩
  have dl2 := dl1.step d2
  have ki : h1.length ≠ i := by omega
  have ki2 : h1.length + 1 ≠ i := by omega
  have a2 : h2[h1.length]? = some (.lst []) := (d2.oth _ ki).trans (by simp)
  have b2 : h2[h1.length + 1]? = some (.dic true []) := (d2.oth _ ki2).trans (by simp)
  simp [small_nat (show m ≤ 100000 by omega)]
  refine wp_for (PMid i n h1.length h) 0 (fun _ _ _ _ => Chk_nil _)
    ⟨[], none, none, rfl, dl2, a2, b2, (fun _ m => by cases m), List.nodup_nil, Nat.le_refl _⟩ ?_ ?_
  · rintro j dd ρ h3 hd ⟨ls, x5, x6, rfl, dl3, a3, b3, kl, nd, le⟩
    have hj : j < m := by
      have := (List.getElem?_eq_some_iff.mp hd).1
      simpa [rng] using this
    rw [Nat.zero_add] at le ⊢
    simp
    refine line_wp (n := 1 + n) (by omega) (by omega) dl3.deck a3 ki kl (by omega) fun l h4 ol d4 => ?_
    have dl4 := dl3.step d4
    have a4 := (d4.oth _ ki).trans a3
    have b4 := (d4.oth _ ki2).trans b3
    have gr := fun h => law_ground_ok (h := h) (n := 4) (l := l) ol.row ol.bits (by omega) (by rw [ol.len]; omega)
    have dv : dicV (.r (h1.length + 1)) h4 = some (true, ls.map pairL) := by simp [dicV, b4]
    have ki4 := keysI_ints (ground_con ol)
    by_cases hx : ∃ x ∈ ls, ground (rowL x) = ground (rowL l)
    · have dg : dGetD true (ls.map pairL) (.tuple ((ground (rowL l)).map .int)) = some (lookBy keysE (ls.map pairL) (keyL l)) := by
        unfold dGetD
        rw [if_pos rfl, ki4]; rfl
      have sm := look_some hx
      have sm' : ¬ lookBy keysE (ls.map pairL) (keyL l) = none := fun e => by rw [e] at sm; cases sm
      have fin : PMid i n h1.length h (j + 1) [some (.r i), some (.d (.int 6)), some (.d (.int (1 + (n : Int)))), some (.r h1.length), some (.r (h1.length + 1)), some (.d dd), some (.d (lineD l))] h4 := ⟨ls, _, _, rfl, dl4, a4, b4, kl, nd, by omega⟩
      simp [gr, dv, dg, sm']
      exact fin
    · have hx' : ∀ x ∈ ls, ground (rowL x) ≠ ground (rowL l) := fun x mx e => hx ⟨x, mx, e⟩
      have dg : dGetD true (ls.map pairL) (.tuple ((ground (rowL l)).map .int)) = some none := by
        unfold dGetD
        rw [if_pos rfl, ki4]
        exact congrArg some (look_none hx')
      have pt : dPutD true (ls.map pairL) (.tuple ((ground (rowL l)).map .int)) (.bool true) = some ((ls ++ [l]).map pairL) := by
        unfold dPutD
        rw [if_pos (Nat.lt_of_le_of_lt (show (ls.map pairL).length ≤ 6 by rw [List.length_map]; omega) (by rw [sizeLine_eq]; omega)), if_pos rfl, ki4]
        refine congrArg some ?_
        show putBy keysE (ls.map pairL) (keyL l) _ _ = _
        rw [putBy_new]
        · simp [pairL]
        · intro p hp e
          obtain ⟨x, mx, rfl⟩ := List.mem_map.mp hp
          have e2 : some (keyL x) = some (keyL l) := (keysE_ints _).symm.trans e
          exact hx' x mx (keyL_inj.mp (Option.some.inj e2))
      have pS : putS (.r (h1.length + 1)) (.tuple ((ground (rowL l)).map .int)) (.bool true) h4 = some (h4.set (h1.length + 1) (.dic true ((ls ++ [l]).map pairL))) := by
        simp only [putS, b4, pt, Option.map_some]
      have a5 : (h4.set (h1.length + 1) (MO.dic true ((ls ++ [l]).map pairL)))[h1.length]? = some (.lst (ls.map lineD)) := by rw [List.getElem?_set_ne (by omega)]; exact a4
      have sz : ls.length < sizeLine := by rw [sizeLine_eq]; omega
      have p4 : h1.length + 1 < h4.length := (List.getElem?_eq_some_iff.mp b4).1
      have lp : h.length ≤ h1.length := by rw [lh]; exact Nat.le_refl _
      have dl5 := (dl4.set lt (by omega : h.length ≤ h1.length + 1) (.dic true ((ls ++ [l]).map pairL))).set lt lp (.lst ((ls ++ [l]).map lineD))
      have fin : PMid i n h1.length h (j + 1) [some (.r i), some (.d (.int 6)), some (.d (.int (1 + (n : Int)))), some (.r h1.length), some (.r (h1.length + 1)), some (.d dd), some (.d (lineD l))] ((h4.set (h1.length + 1) (.dic true ((ls ++ [l]).map pairL))).set h1.length (.lst ((ls ++ [l]).map lineD))) := by
        refine ⟨ls ++ [l], _, _, rfl, dl5, by rw [List.getElem?_set_self (by rw [List.length_set]; omega)], ?_, ?_, ?_, by rw [List.length_append]; simp; omega⟩
        · rw [List.getElem?_set_ne (by omega), List.getElem?_set_self p4]
        · intro x mx
          rcases List.mem_append.mp mx with mx | mx
          · exact kl x mx
          · have : x = l := by simpa using mx
            rw [this]; exact ol
        · rw [List.map_append, List.nodup_append]
          refine ⟨nd, by simp, fun a ha b hb => ?_⟩
          obtain ⟨x, mx, rfl⟩ := List.mem_map.mp ha
          have : b = ground (rowL l) := by simpa using hb
          rw [this]
          exact hx' x mx
      rw [List.map_append] at pS a5 fin
      simp [gr, dv, dg, pS]
      simp at a5 fin
      simp [a5, gAppend, sz]
      exact fin
  · rintro ρ h3 ⟨ls, x5, x6, rfl, dl3, a3, b3, kl, nd, le⟩
    have len : (rng 0 m).length = m := by simp [rng]
    simp [vDs, vD, a3, sz_le]
    have := q (1 + n) ls _ (by omega) ⟨by omega, by omega, by omega, kl, nd, by omega⟩ (by omega) (dl3.cut lt)
    exact this
end

end W_k03

set_option maxHeartbeats 400000
namespace W_k03
open PySem PySem.Spec PyProof.Rows L2 DL
/-! ### one page tried, all -/
section
variable {h : Hs} {E : DL.EP} {Q : Val → Hs → Prop} {n : Nat} {ls : List Ln} {qs : List Rat}
theorem deck_wp {ns : List Int} {at_ : Nat} (ha : at_ ≤ 100) (q : ∀ h', DeckAt h.length h' → h'.length = h.length + 1 → (∀ j, j < h.length → h'[j]? = h[j]?) → Q (.r h.length) h') : wpR (F__law_deck [.s ns, .d (.int at_)] h) Q E := by
  have q' : ∀ a b : Int, 0 ≤ b → b < 18446744073709551616 → Q (.r h.length) (h ++ [.lst [.int a, .int b]]) := fun a b b0 b1 =>
    q _ ⟨a, b, by simp, b0, b1⟩ (by simp) (fun j hj => List.getElem?_append_left hj)
  have ex : ∀ m : MO, exitV true h.length (.r h.length) (h ++ [m]) = .ok (.r h.length) (h ++ [m]) := fun m => by simp [exitV]
  have d1 : dMul (.int 7919) (.int at_) = some (.int (7919 * at_)) := dMul_of (n := 13) (m := 7) (show Int.natAbs 7919 < 2 ^ 13 by decide) (show ((at_ : Nat) : Int).natAbs < 2 ^ 7 by rw [Int.natAbs_natCast]; omega) (by omega)
  have d2 : dMul (.int 31) (.int at_) = some (.int (31 * at_)) := dMul_of (n := 5) (m := 7) (show Int.natAbs 31 < 2 ^ 5 by decide) (show ((at_ : Nat) : Int).natAbs < 2 ^ 7 by rw [Int.natAbs_natCast]; omega) (by omega)
  have mod0 : ∀ x : Int, 0 ≤ x.fmod 2305843009213693951 ∧ x.fmod 2305843009213693951 < 2305843009213693951 := fun x => ⟨Int.fmod_nonneg_of_pos _ (by decide), Int.fmod_lt_of_pos _ (by decide)⟩
  have go : ∀ cell : Int, DL.wpS (sSeq (sSet 3 (eOp (dInt2 gMod) (eCallB (DL.d1 dInt) (aCons (eOp dAdd (eOp dAdd (eVar 2) (eOp dMul (eC (.int 7919)) (eVar 1))) (eC (.int 104729))) aNil)) (eC (.int 2305843009213693951))))
    (sSeq (sSet 3 (eOp (dInt2 gMod) (eCallB (DL.d1 dInt) (aCons (eOp dAdd (eOp dAdd (eOp dMul (eOp dMul (eVar 3) (eVar 3)) (eVar 3)) (eOp dMul (eC (.int 31)) (eVar 1))) (eC (.int 7))) aNil)) (eC (.int 2305843009213693951))))
    (sSeq (sIf (tVal (eOp (dInt2 (gCmp fun i j => decide (i < j))) (eVar 2) (eOp (dInt2 gPow) (eC (.int 10)) (eC (.int 18))))) (sRet (eLstM (aCons (eC (.int 0)) (aCons (eVar 3) aNil)))) sNext)
    (sRet (eLstM (aCons (eOp (dInt2 DL.gSub) (eVar 2) (eOp (dInt2 gPow) (eC (.int 10)) (eC (.int 18)))) (aCons (eVar 3) aNil)))))) [some (.s ns), some (.d (.int at_)), some (.d (.int cell)), none] h)
      ⟨fun _ h' => Q (.d .none) (h'.take h.length), fun v h' => wpR (exitV true h.length v h') Q E, fun c v _ h' => E c v (h'.take h.length), fun _ _ => False, fun _ _ => False⟩ := by
    intro cell
    obtain ⟨s0, s1⟩ := mod0 (cell + 7919 * at_ + 104729)
    simp [d1, gMod]
    generalize (cell + 7919 * at_ + 104729).fmod 2305843009213693951 = st at s0 s1
    have l1 : Lt2 61 st := by unfold Lt2; omega
    have m1 := dMul_of l1 l1 (by omega)
    have m2 := dMul_of (l1.mul l1) l1 (by omega)
    obtain ⟨r0, r1⟩ := mod0 (st * st * st + 31 * at_ + 7)
    simp [m1, m2, d2, p18, gMod]
    generalize (st * st * st + 31 * at_ + 7).fmod 2305843009213693951 = sr at r0 r1
    by_cases hc : cell < 1000000000000000000
    · simp [hc, sz_le, ex]
      exact q' _ _ r0 (by omega)
    · simp [hc, sz_le, ex, p18]
      exact q' _ _ r0 (by omega)
  unfold F__law_deck G__law_deck
  rw [wpR_mkF]
  refine ⟨rfl, ?_⟩
  have vl : vS (.s ns) h = some (.list (ns.map .int)) := rfl
  simp only [startE, List.map_cons, List.map_nil, List.length_cons, List.length_nil, List.cons_append, List.nil_append, List.replicate]
  refine wpS_cut (fun ρ h' => ρ = [some (.s ns), some (.d (.int at_)), some (.d (.int 0)), none] ∧ h' = h) (by simp) ?_
  rintro ρ h' ⟨rfl, rfl⟩
  refine wpS_cut (fun ρ h2 => ∃ cell : Int, ρ = [some (.s ns), some (.d (.int at_)), some (.d (.int cell)), none] ∧ h2 = h') ?_ ?_
  · by_cases hl : at_ < ns.length
    · have ix : atI (ns.map PyData.int) (at_ : Int) = some (.int ns[at_]) := by rw [DL.atI_nat]; simp [hl]
      simp [vl, hl, ix]
    · simp [vl, hl]
  · rintro ρ h2 ⟨cell, rfl, rfl⟩
    exact go cell
end

end W_k03

set_option maxHeartbeats 400000
namespace W_k03
open PySem PySem.Spec PyProof.Rows L2 DL
/-! ### one page tried, all -/
theorem okD_ints (s : List Int) (k : Nat) (hl : s.length ≤ 4096) : okD (k + 2) (intsD s) := by
  refine ⟨by simpa using hl, fun x hx => ?_⟩
  obtain ⟨i, _, rfl⟩ := List.mem_map.mp hx
  exact True.intro
theorem okD_two {k : Nat} {a b : D} (ha : okD k a) (hb : okD k b) : okD (k + 1) (.list [a, b]) := ⟨by simp, fun x hx => by
  have : x = a ∨ x = b := by simpa using hx
  rcases this with rfl | rfl
  · exact ha
  · exact hb⟩
theorem rowI_len (ls : List Ln) (qs : List Rat) : (rowI ls qs).length = ls.length := by simp [rowI]
theorem rowI_get {ls : List Ln} {qs : List Rat} {i : Nat} (hi : i < ls.length) : atI ((rowI ls qs).map PyData.int) (i : Int) = some (.int (ansq ls[i] qs)) := by
  rw [DL.atI_nat]
  simp [rowI, hi]
theorem sign_cases (q : Rat) : q.num.sign = -1 ∨ q.num.sign = 0 ∨ q.num.sign = 1 := by
  rcases Int.lt_trichotomy q.num 0 with z | z | z
  · exact .inl (Int.sign_eq_neg_one_of_neg z)
  · exact .inr (.inl (by rw [z]; rfl))
  · exact .inr (.inr (Int.sign_eq_one_of_pos z))
theorem rowI_signs (ls : List Ln) (qs : List Rat) : Signs (rowI ls qs) := fun c hc => by
  obtain ⟨l, _, rfl⟩ := List.mem_map.mp hc
  exact sign_cases _
theorem rowI_turn {ls : List Ln} {qs : List Rat} {i : Nat} (hi : i < ls.length) : rowI (ls.set i (turnL ls[i])) qs = (rowI ls qs).set i (-ansq ls[i] qs) := by
  unfold rowI
  rw [List.map_set, ansq_turn]
theorem fitB_none (as : List Int) : ∀ k : Nat, fitB as (List.replicate k none) = true := fun k => by
  unfold fitB
  rw [List.all_eq_true]
  intro p hp
  have m := (List.of_mem_zip hp).2
  have := List.eq_of_mem_replicate m
  simp [fit1, this]
theorem flatten_none (k : Nat) : (List.replicate k [PyData.none]).flatten = (List.replicate k (none : Option Int)).map wD := by
  induction k with
  | zero => rfl
  | succ k ih =>
    rw [List.replicate_succ, List.flatten_cons, ih, List.replicate_succ]; rfl

end W_k03

set_option maxHeartbeats 400000
namespace W_k03
open PySem PySem.Spec PyProof.Rows L2 DL
-- at 05
/-! ### points between two points -/
def btwq (qs ts : List Rat) (p : Rat) : List Rat := (qs.zip ts).map fun x => x.1 + p * (x.2 - x.1)
theorem btw_len {qs ts : List Rat} {p : Rat} (h : ts.length = qs.length) : (btwq qs ts p).length = qs.length := by simp [btwq, h]
section
variable {h : Hs} {n m b : Nat} {ls : List Ln} {qs ts : List Rat} {p : Rat}
theorem zip_bd {b c : Nat} (hq : ∀ q ∈ qs, Bd b q) (ht : ∀ q ∈ ts, Bd c q) {x : Rat × Rat} (hx : x ∈ qs.zip ts) : Bd b x.1 ∧ Bd c x.2 := by
  obtain ⟨h1, h2⟩ := List.of_mem_zip hx
  exact ⟨hq _ h1, ht _ h2⟩
/-- a row put ahead of another -/
def aheadI (s t : List Int) : List Int := (s.zip t).map fun x => if x.1 ≠ 0 then x.1 else x.2
end
/-! ### the law's own points between -/
section
variable {h : Hs} {E : DL.EP} {Q : Val → Hs → Prop} {n m b : Nat} {ls : List Ln} {qs ts : List Rat} {p : Rat}
theorem zip_take {α β : Type} (xs : List α) (ys : List β) (i : Nat) : (xs.zip ys).take i = (xs.take i).zip (ys.take i) := List.take_zipWith
theorem neg_q (q : Rat) : PyData.tuple [.int (-q.num), .int q.den] = qD (-q) := by simp [qD, Rat.neg_num, Rat.neg_den]
end

end W_k03

set_option maxHeartbeats 400000
namespace W_k03
open PySem PySem.Spec PyProof.Rows L2 DL
-- at 05
/-! ### dicts of what questions stand for -/
theorem dict_has {n m : Nat} {l : Ln} {ls : List Ln} (ol : LineOk n m l) (hx : ∃ x ∈ ls, ground (rowL x) = ground (rowL l)) : ∃ o, dGetD true (ls.map pairL) (.tuple ((ground (rowL l)).map .int)) = some (some o) := by
  have ki := keysI_ints (ground_con ol)
  have sm := look_some hx
  obtain ⟨o, ho⟩ := Option.isSome_iff_exists.mp sm
  refine ⟨o, ?_⟩
  unfold dGetD
  rw [if_pos rfl, ki]
  exact congrArg some ho
theorem dict_not {n m : Nat} {l : Ln} {ls : List Ln} (ol : LineOk n m l) (hx : ∀ x ∈ ls, ground (rowL x) ≠ ground (rowL l)) : dGetD true (ls.map pairL) (.tuple ((ground (rowL l)).map .int)) = some none := by
  have ki := keysI_ints (ground_con ol)
  unfold dGetD
  rw [if_pos rfl, ki]
  exact congrArg some (look_none hx)
theorem dict_put {n m : Nat} {l : Ln} {ls : List Ln} (ol : LineOk n m l) (hx : ∀ x ∈ ls, ground (rowL x) ≠ ground (rowL l)) (hl : ls.length ≤ 4000) : dPutD true (ls.map pairL) (.tuple ((ground (rowL l)).map .int)) (.bool true) = some ((ls ++ [l]).map pairL) := by
  have ki := keysI_ints (ground_con ol)
  unfold dPutD
  rw [if_pos (Nat.lt_of_le_of_lt (show (ls.map pairL).length ≤ 4000 by rw [List.length_map]; exact hl) (by rw [sizeLine_eq]; omega)), if_pos rfl, ki]
  refine congrArg some ?_
  show putBy keysE (ls.map pairL) (keyL l) _ _ = _
  rw [putBy_new]
  · simp [pairL]
  · intro p hp e
    obtain ⟨x, mx, rfl⟩ := List.mem_map.mp hp
    have e2 : some (keyL x) = some (keyL l) := (keysE_ints _).symm.trans e
    exact hx x mx (keyL_inj.mp (Option.some.inj e2))
theorem nodup_snoc {ls : List Ln} {l : Ln} (nd : (ls.map fun l => ground (rowL l)).Nodup) (hx : ∀ x ∈ ls, ground (rowL x) ≠ ground (rowL l)) : ((ls ++ [l]).map fun l => ground (rowL l)).Nodup := by
  rw [List.map_append, List.nodup_append]
  refine ⟨nd, by simp, fun a ha b hb => ?_⟩
  obtain ⟨x, mx, rfl⟩ := List.mem_map.mp ha
  have : b = ground (rowL l) := by simpa using hb
  rw [this]
  exact hx x mx
/-! ### shares -/
section
variable {h : Hs} {E : DL.EP} {Q : Val → Hs → Prop} {n m b : Nat} {ls : List Ln} {qs ts : List Rat} {p : Rat}
theorem law_less_ok {a c : Rat} {n m : Nat} (ha : Bd n a) (hb : Bd m c) (hn : n + m ≤ 400000) : F__law_less [.d (qD a), .d (qD c)] h = .ok (.d (.bool (decide (a < c)))) h := by
  refine wpR_eq ?_
  unfold F__law_less G__law_less
  rw [wpR_mkF]
  refine ⟨rfl, ?_⟩
  simp [startE, qD0, qD1, dMul_of ha.1 (Lt2.den hb) (by omega), dMul_of hb.1 (Lt2.den ha) (by omega)]
  exact lt_num a c
end

end W_k03

set_option maxHeartbeats 400000
namespace W_k03
open PySem PySem.Spec PyProof.Rows L2 DL
-- at 05
/-! ### shares and books drawn -/
section
variable {h : Hs} {E : DL.EP} {Q : Val → Hs → Prop} {n m b : Nat} {ls : List Ln} {qs ts : List Rat} {p : Rat}
/-- the lines so far, at pl, and what they stand for, at pl + 1 -/
def TMid (i n pl : Nat) (pg sp : D) (h : Hs) (j : Nat) (ρ : DL.Env) (h' : Hs) : Prop := ∃ (ls : List Ln) (x5 x6 : Option Val), ρ = [some (.r i), some (.d pg), some (.d sp), some (.r pl), some (.r (pl + 1)), x5, x6, none, none, none] ∧ Dl i h h' ∧ h'[pl]? = some (.lst (ls.map lineD)) ∧ h'[pl + 1]? = some (.dic true (ls.map pairL)) ∧ (∀ l ∈ ls, LineOk n 4 l) ∧ (ls.map fun l => ground (rowL l)).Nodup ∧ ls.length ≤ j
theorem through_wp {i : Nat} (k : PageOk n 4 ls) (hn : n ≤ 3) (h6 : ls.length ≤ 6) (d : DeckAt i h) (q : ∀ ls h', PageOk n 4 ls → ls.length ≤ 6 → Dk i h h' → Q (.d (pageD n ls)) h') : wpR (F__law_through [.r i, .d (pageD n ls)] h) Q E := by
  have lt := d.lt
  have i0 : dIx (pageD n ls) (.int 0) = some (.int n) := rfl
  have i1 : dIx (pageD n ls) (.int 1) = some (.tuple (ls.map lineD)) := rfl
  unfold F__law_through G__law_through
  rw [wpR_mkF]
  refine ⟨rfl, ?_⟩
  simp [startE, i0, small_nat (show n ≤ 100000 by omega)]
  refine wp_lc_inv (fun j h' acc => ∃ vs : List Int, acc = vs.map .int ∧ vs.length = j ∧ (∀ v ∈ vs, v.natAbs < 2 ^ 2) ∧ Dk i h h') (fun _ _ _ _ => Chk_nil _) ⟨[], rfl, rfl, (fun _ m => by cases m), Dk.refl d⟩ ?_ ?_
  · rintro j x h1 acc hx ⟨vs, rfl, el, bv, dk⟩ _
    obtain ⟨hj, rfl⟩ := rng_get hx
    have al : vs.length < sizeLine := by rw [sizeLine_eq]; omega
    simp
    refine take_wp dk.deck (by decide) (by decide) fun t h2 t0 t1 d2 => ?_
    simp
    refine ⟨al, vs ++ [t - 1], by simp, by simp [el], fun v hv => ?_, dk.trans d2⟩
    rcases List.mem_append.mp hv with hv | hv
    · exact bv v hv
    · have : v = t - 1 := by simpa using hv
      rw [this]; omega
  rintro es h1 ⟨vs, rfl, el, bv, d1⟩
  rw [rng_len] at el
  have lh : h1.length = h.length := d1.len
  simp [sz_le]
  have dl1 : Dl i h (h1 ++ [MO.lst [], MO.dic true []]) := (Dl.of d1).push _
  have ki : h1.length ≠ i := by omega
  have ki2 : h1.length + 1 ≠ i := by omega
  simp [i1]
  refine wp_for0 (TMid i n h1.length (pageD n ls) (.list (vs.map .int)) h) (fun _ _ _ _ => Chk_nil _)
    ⟨[], none, none, rfl, dl1, by simp, by simp, (fun _ m => by cases m), List.nodup_nil, Nat.le_refl _⟩ ?_ ?_
  · rintro j dd ρ h3 hd ⟨fs, x5, x6, rfl, dl3, a3, b3, kl, nd, le⟩
    obtain ⟨l, hl, rfl⟩ : ∃ l, ls[j]? = some l ∧ lineD l = dd := by simpa using hd
    have hj : j < ls.length := (List.getElem?_eq_some_iff.mp hl).1
    have lk := k.line l (List.mem_of_getElem? hl)
    have l0 : dIx (lineD l) (.int 0) = some (.tuple (l.1.map .int)) := rfl
    simp [l0, zipOf_at]
    rw [zw]
    refine wp_lc_map (fun x : Int × Int => .tuple [.int x.1, .int x.2]) (fun x => .int (x.1 * x.2)) rfl (Chk_nil _) (sz_le (by simp; rw [lk.len]; omega)) (fun x hx => ?_) ?_
    · obtain ⟨m1, m2⟩ := List.of_mem_zip hx
      have dm := dMul_of (lk.bits _ (List.mem_append_left _ m1)) (show Lt2 2 x.2 from bv _ m2) (by omega)
      simp [dm]
    have io := intsOf_map ((l.1.zip vs).map fun x => x.1 * x.2)
    rw [List.map_map] at io
    have sm : dSum (.list ((l.1.zip vs).map fun x => .int (x.1 * x.2))) = some (.int ((l.1.zip vs).map fun x => x.1 * x.2).sum) := by
      show (intsOf _).map _ = _
      rw [show ((l.1.zip vs).map fun x => PyData.int (x.1 * x.2)) = (l.1.zip vs).map (PyData.int ∘ fun x => x.1 * x.2) from rfl, io]; rfl
    generalize ((l.1.zip vs).map fun x => x.1 * x.2).sum = w at sm
    simp [sm]
    have stay : ∀ x6, TMid i n h1.length (pageD n ls) (.list (vs.map .int)) h (j + 1) [some (.r i), some (.d (pageD n ls)), some (.d (.list (vs.map .int))), some (.r h1.length), some (.r (h1.length + 1)), some (.d (lineD l)), x6, none, none, none] h3 := fun x6 => ⟨fs, _, _, rfl, dl3, a3, b3, kl, nd, by omega⟩
    by_cases hw : w.natAbs < 10
    · have ol : LineOk n 4 (l.1, w) := ⟨lk.len, lk.some_, fun x hx => by
        rcases List.mem_append.mp hx with hx | hx
        · exact lk.bits x (List.mem_append_left _ hx)
        · have : x = w := by simpa using hx
          rw [this]
          show w.natAbs < 16
          omega⟩
      have gr := fun h => law_ground_ok (h := h) (n := 4) (l := (l.1, w)) ol.row ol.bits (by omega) (by rw [ol.len]; omega)
      have ld : PyData.tuple [.tuple (l.1.map .int), .int w] = lineD (l.1, w) := rfl
      have dv : dicV (.r (h1.length + 1)) h3 = some (true, fs.map pairL) := by simp [dicV, b3]
      have hw' : (w.natAbs : Int) < 10 := by omega
      simp [l0, hw', sz_le, ld, gr, dv]
      by_cases hx : ∃ x ∈ fs, ground (rowL x) = ground (rowL (l.1, w))
      · obtain ⟨o, dg⟩ := dict_has ol hx
        simp [dg]
        exact stay _
      · have hx' : ∀ x ∈ fs, ground (rowL x) ≠ ground (rowL (l.1, w)) := fun x mx e => hx ⟨x, mx, e⟩
        have dg := dict_not ol hx'
        have pt := dict_put ol hx' (by omega)
        have pS : putS (.r (h1.length + 1)) (.tuple ((ground (rowL (l.1, w))).map .int)) (.bool true) h3 = some (h3.set (h1.length + 1) (.dic true ((fs ++ [(l.1, w)]).map pairL))) := by
          simp only [putS, b3, pt, Option.map_some]
        have p3 : h1.length + 1 < h3.length := (List.getElem?_eq_some_iff.mp b3).1
        generalize hS : h3.set (h1.length + 1) (MO.dic true ((fs ++ [(l.1, w)]).map pairL)) = h4 at pS
        have a5 : h4[h1.length]? = some (.lst (fs.map lineD)) := by rw [← hS, List.getElem?_set_ne (by omega)]; exact a3
        have b5 : h4[h1.length + 1]? = some (.dic true ((fs ++ [(l.1, w)]).map pairL)) := by rw [← hS, List.getElem?_set_self p3]
        have dl4 : Dl i h h4 := by rw [← hS]; exact dl3.set lt (by omega) _
        have sz : fs.length < sizeLine := by rw [sizeLine_eq]; omega
        have p4 : h1.length < h4.length := (List.getElem?_eq_some_iff.mp a5).1
        simp [dg, l0, gr, pS, a5, gAppend, sz, sz_le, ld]
        refine ⟨fs ++ [(l.1, w)], _, _, rfl, dl4.set lt (by omega) _, by rw [List.getElem?_set_self p4]; simp, by rw [List.getElem?_set_ne (by omega)]; exact b5, fun x mx => ?_, nodup_snoc nd hx', by simp; omega⟩
        rcases List.mem_append.mp mx with mx | mx
        · exact kl x mx
        · have : x = (l.1, w) := by simpa using mx
          rw [this]; exact ol
    · have hw' : ¬ (w.natAbs : Int) < 10 := by omega
      simp [hw']
      exact stay _
  · rintro ρ h3 ⟨fs, x5, x6, rfl, dl3, a3, b3, kl, nd, le⟩
    simp at le
    simp [i0, vDs, vD, a3, sz_le]
    exact q fs _ ⟨k.pos, k.le, by omega, kl, nd, by omega⟩ (by omega) (dl3.cut lt)
end

end W_k03

set_option maxHeartbeats 400000
namespace W_k03
open PySem PySem.Spec PyProof.Rows L2 DL
-- at 06
/-! ### what questions stand for, times an integer -/
theorem gcdL_mul (a : Int) (row : List Int) : gcdL (row.map (a * ·)) = a.natAbs * gcdL row := by
  have go : ∀ (row : List Int) (g : Nat), (row.map (a * ·)).foldl (fun g x => Nat.gcd g x.natAbs) (a.natAbs * g) = a.natAbs * row.foldl (fun g x => Nat.gcd g x.natAbs) g := by
    intro row
    induction row with
    | nil => exact fun g => rfl
    | cons x row ih =>
      intro g
      rw [List.map_cons, List.foldl_cons, List.foldl_cons, Int.natAbs_mul, Nat.gcd_mul_left, ih]
  exact go row 0
theorem lead_mul {a : Int} (ha : a ≠ 0) (row : List Int) : lead (row.map (a * ·)) = a * lead row := by
  have e : (row.map (a * ·)).filter (fun x => decide (x ≠ 0)) = (row.filter fun x => decide (x ≠ 0)).map (a * ·) := by
    induction row with
    | nil => rfl
    | cons x row ih =>
      rw [List.map_cons, List.filter_cons, List.filter_cons, ih]
      by_cases hx : x = 0
      · simp [hx]
      · simp [hx, ha]
  unfold lead
  rw [e]
  cases row.filter fun x => decide (x ≠ 0) with
  | nil => simp
  | cons y r => rfl
theorem ground_mul {a : Int} (ha : a ≠ 0) {row : List Int} (h : ∃ x ∈ row, x ≠ 0) : ground (row.map (a * ·)) = ground row := by
  have pos : ∀ (a : Int), 0 < a → ground (row.map (a * ·)) = ground row := by
    intro a ha
    unfold ground
    rw [gcdL_mul, lead_mul (by omega)]
    have e : ∀ x : Int, (a * x) / ((a.natAbs * gcdL row : Nat) : Int) = x / (gcdL row : Int) := fun x => by
      rw [Int.natCast_mul, show ((a.natAbs : Nat) : Int) = a by omega, Int.mul_ediv_mul_of_pos _ _ ha]
    have c : 0 < a * lead row ↔ 0 < lead row := by
      constructor
      · intro h
        rcases Int.lt_trichotomy (lead row) 0 with z | z | z
        · have := Int.mul_neg_of_pos_of_neg ha z; omega
        · rw [z] at h; omega
        · exact z
      · exact Int.mul_pos ha
    simp only [List.map_map, Function.comp_def, e, c]
  rcases Int.lt_trichotomy a 0 with z | z | z
  · have p := pos (-a) (by omega)
    have n := ground_neg (row := row.map (-a * ·)) (by
      obtain ⟨x, hx, x0⟩ := h
      exact ⟨-a * x, List.mem_map_of_mem hx, Int.mul_ne_zero (by omega) x0⟩)
    rw [List.map_map] at n
    rw [← p, ← n]
    exact congrArg ground (List.map_congr_left fun x _ => by show a * x = -(-a * x); rw [Int.neg_mul, Int.neg_neg])
  · exact absurd z ha
  · exact pos a z
theorem ground_fac {row : List Int} (h : ∃ x ∈ row, x ≠ 0) : ∃ c : Int, c ≠ 0 ∧ row = (ground row).map (c * ·) := by
  have gp := gcdL_pos h
  have dd : ∀ x ∈ row, (gcdL row : Int) ∣ x := fun x m => gcdL_dvd m
  unfold ground
  by_cases hl : 0 < lead row
  · refine ⟨(gcdL row : Int), by omega, ?_⟩
    rw [if_pos hl, List.map_map]
    conv => lhs; rw [← List.map_id row]
    exact List.map_congr_left fun x m => (Int.mul_ediv_cancel' (dd x m)).symm
  · refine ⟨-(gcdL row : Int), by omega, ?_⟩
    rw [if_neg hl, List.map_map]
    conv => lhs; rw [← List.map_id row]
    refine List.map_congr_left fun x m => ?_
    have := Int.mul_ediv_cancel' (dd x m)
    show x = -(gcdL row : Int) * -(x / (gcdL row : Int))
    rw [Int.neg_mul_neg, this]
theorem ground_iff {r s : List Int} (hr : ∃ x ∈ r, x ≠ 0) (hs : ∃ x ∈ s, x ≠ 0) : ground r = ground s ↔ ∃ a b : Int, a ≠ 0 ∧ b ≠ 0 ∧ r.map (a * ·) = s.map (b * ·) := by
  constructor
  · intro e
    obtain ⟨c, c0, ec⟩ := ground_fac hr
    obtain ⟨d, d0, ed⟩ := ground_fac hs
    refine ⟨d, c, d0, c0, ?_⟩
    rw [← e] at ed
    generalize ground r = G at ec ed
    rw [ec, ed, List.map_map, List.map_map]
    refine List.map_congr_left fun x m => ?_
    show d * (c * x) = c * (d * x)
    rw [← Int.mul_assoc, Int.mul_comm d c, Int.mul_assoc]
  · rintro ⟨a, b, a0, b0, e⟩
    rw [← ground_mul a0 hr, e, ground_mul b0 hs]
/-! ### questions moved -/
def vq (l : Ln) (qs : List Rat) : Rat := (l.2 : Rat) + dotq l.1 qs
def mrow (qs : List Rat) (l : Ln) : List Int := l.1.map (· * ((vq l qs).den : Int)) ++ [(vq l qs).num]
def movedL (qs : List Rat) (l : Ln) : Ln := (l.1.map fun x => x * ((vq l qs).den : Int) / (gcdL (mrow qs l) : Int), (vq l qs).num / (gcdL (mrow qs l) : Int))
theorem mrow_ne {n m : Nat} {l : Ln} (qs : List Rat) (k : LineOk n m l) : ∃ x ∈ mrow qs l, x ≠ 0 := by
  obtain ⟨x, hx, x0⟩ := k.some_
  exact ⟨x * ((vq l qs).den : Int), List.mem_append_left _ (List.mem_map_of_mem hx), Int.mul_ne_zero x0 (dn _)⟩
theorem rowL_moved (qs : List Rat) (l : Ln) : rowL (movedL qs l) = (mrow qs l).map (· / (gcdL (mrow qs l) : Int)) := by
  simp [rowL, movedL, mrow, List.map_map, Function.comp_def]
theorem ground_div {r : List Int} (h : ∃ x ∈ r, x ≠ 0) : ground (r.map (· / (gcdL r : Int))) = ground r := by
  have gp := gcdL_pos h
  have g0 : (gcdL r : Int) ≠ 0 := by omega
  have dd : ∀ x ∈ r, (gcdL r : Int) ∣ x := fun x m => gcdL_dvd m
  have e : (r.map (· / (gcdL r : Int))).map ((gcdL r : Int) * ·) = r := by
    rw [List.map_map]
    conv => rhs; rw [← List.map_id r]
    exact List.map_congr_left fun x m => Int.mul_ediv_cancel' (dd x m)
  have ne : ∃ x ∈ r.map (· / (gcdL r : Int)), x ≠ 0 := by
    obtain ⟨x, hx, x0⟩ := h
    exact ⟨_, List.mem_map_of_mem hx, (div_ne (dd x hx) gp).mpr x0⟩
  have := ground_mul g0 ne
  rw [e] at this
  exact this.symm
theorem dot_scale (f : Int → Int) (c : Rat) : ∀ (s : List Int) (qs : List Rat), (∀ x ∈ s, ((f x : Int) : Rat) = c * (x : Rat)) → dotq (s.map f) qs = c * dotq s qs
  | [], qs, _ => by simp [dotq, qsum]
  | x :: s, [], _ => by simp [dotq, qsum]
  | x :: s, q :: qs, h => by
    have ih := dot_scale f c s qs fun y m => h y (List.mem_cons_of_mem _ m)
    have hx := h x List.mem_cons_self
    unfold dotq at *
    rw [List.map_cons, List.zip_cons_cons, List.zip_cons_cons, List.map_cons, List.map_cons, qsum_cons, qsum_cons, ih, hx]
    generalize qsum ((s.zip qs).map fun p => (p.1 : Rat) * p.2) = a
    grind
theorem num_of (v : Rat) : (v.num : Rat) = ((v.den : Int) : Rat) * v := by
  have a := Rat.num_divInt_den v
  have b := ic0 (dn v)
  rw [Rat.divInt_eq_div] at a
  generalize (v.num : Rat) = x at *
  generalize ((v.den : Int) : Rat) = y at *
  rw [← a]
  grind
theorem moved_inj {n m k : Nat} {l l' : Ln} (qs : List Rat) (h : LineOk n m l) (h' : LineOk n k l') (e : ground (rowL (movedL qs l)) = ground (rowL (movedL qs l'))) : ground (rowL l) = ground (rowL l') := by
  rw [rowL_moved, rowL_moved, ground_div (mrow_ne qs h), ground_div (mrow_ne qs h')] at e
  obtain ⟨a, b, a0, b0, eq⟩ := (ground_iff (mrow_ne qs h) (mrow_ne qs h')).mp e
  unfold mrow at eq
  rw [List.map_append, List.map_append] at eq
  obtain ⟨e1, e2⟩ := List.append_inj' eq rfl
  rw [List.map_map, List.map_map] at e1
  simp at e2
  have d1 := dn (vq l qs)
  have d2 := dn (vq l' qs)
  have dA := Int.mul_ne_zero a0 d1
  have dB := Int.mul_ne_zero b0 d2
  refine (ground_iff h.row h'.row).mpr ⟨a * ((vq l qs).den : Int), b * ((vq l' qs).den : Int), dA, dB, ?_⟩
  have es : l.1.map ((a * ((vq l qs).den : Int)) * ·) = l'.1.map ((b * ((vq l' qs).den : Int)) * ·) := by
    have q1 : l.1.map ((a * ·) ∘ (· * ((vq l qs).den : Int))) = l.1.map ((a * ((vq l qs).den : Int)) * ·) := List.map_congr_left fun x _ => by
      show a * (x * _) = a * _ * x
      rw [Int.mul_comm x, Int.mul_assoc]
    have q2 : l'.1.map ((b * ·) ∘ (· * ((vq l' qs).den : Int))) = l'.1.map ((b * ((vq l' qs).den : Int)) * ·) := List.map_congr_left fun x _ => by
      show b * (x * _) = b * _ * x
      rw [Int.mul_comm x, Int.mul_assoc]
    rw [← q1, ← q2]
    exact e1
  have t1 := dot_scale ((a * ((vq l qs).den : Int)) * ·) ((a * ((vq l qs).den : Int) : Int) : Rat) l.1 qs (fun x _ => Rat.intCast_mul _ _)
  have t2 := dot_scale ((b * ((vq l' qs).den : Int)) * ·) ((b * ((vq l' qs).den : Int) : Int) : Rat) l'.1 qs (fun x _ => Rat.intCast_mul _ _)
  rw [es] at t1
  have t3 := t1.symm.trans t2
  have v1 := num_of (vq l qs)
  have v2 := num_of (vq l' qs)
  have e2' : (a : Rat) * ((vq l qs).num : Rat) = (b : Rat) * ((vq l' qs).num : Rat) := by rw [← Rat.intCast_mul, ← Rat.intCast_mul, e2]
  have w1 : vq l qs = (l.2 : Rat) + dotq l.1 qs := rfl
  have w2 : vq l' qs = (l'.2 : Rat) + dotq l'.1 qs := rfl
  have ew : a * ((vq l qs).den : Int) * l.2 = b * ((vq l' qs).den : Int) * l'.2 := by
    apply Rat.intCast_inj.mp
    simp only [Rat.intCast_mul] at t3 ⊢
    rw [v1, v2] at e2'
    generalize ((vq l qs).den : Int) = x at *
    generalize ((vq l' qs).den : Int) = y at *
    rw [w1, w2] at e2'
    generalize dotq l.1 qs = da at *
    generalize dotq l'.1 qs = db at *
    grind
  unfold rowL
  rw [List.map_append, List.map_append, es]
  simp [ew]
theorem sub_of_div {g x : Int} (hg : 0 < g) (hd : g ∣ x) : ((x / g : Int) : Rat) = (x : Rat) / (g : Rat) := by
  obtain ⟨k, rfl⟩ := hd
  have a := ic0 (show g ≠ 0 by omega)
  rw [Int.mul_ediv_cancel_left _ (by omega), Rat.intCast_mul]
  grind
theorem div_le_abs {g : Nat} {x : Int} {n : Nat} (h : Lt2 n x) : Lt2 n (x / (g : Int)) := by
  unfold Lt2 at *
  have := Int.natAbs_ediv_le_natAbs x (g : Int)
  omega
theorem moved_line {n m c : Nat} {l : Ln} {qs : List Rat} (k : LineOk n m l) (hv : Bd c (vq l qs)) : LineOk n (m + c) (movedL qs l) := by
  have gp := gcdL_pos (mrow_ne qs k)
  have dd : ∀ x ∈ mrow qs l, (gcdL (mrow qs l) : Int) ∣ x := fun x mm => gcdL_dvd mm
  refine ⟨by simp [movedL, k.len], ?_, ?_⟩
  · obtain ⟨x, hx, x0⟩ := k.some_
    have m1 : x * ((vq l qs).den : Int) ∈ mrow qs l := List.mem_append_left _ (List.mem_map_of_mem hx)
    exact ⟨_, List.mem_map_of_mem hx, (div_ne (dd _ m1) gp).mpr (Int.mul_ne_zero x0 (dn _))⟩
  · rw [rowL_moved]
    intro y hy
    obtain ⟨x, hx, rfl⟩ := List.mem_map.mp hy
    refine div_le_abs ?_
    rcases List.mem_append.mp hx with hx | hx
    · obtain ⟨z, hz, rfl⟩ := List.mem_map.mp hx
      exact (k.bits z (List.mem_append_left _ hz)).mul (Lt2.den hv)
    · have : x = (vq l qs).num := by simpa using hx
      rw [this]
      exact hv.1.mono (by omega)
theorem moved_page {n m c : Nat} {ls : List Ln} {qs : List Rat} (k : PageOk n m ls) (hv : ∀ l ∈ ls, Bd c (vq l qs)) (hc : m + c ≤ 4000) : PageOk n (m + c) (ls.map (movedL qs)) := by
  refine ⟨k.pos, k.le, by simpa using k.many, fun l hl => ?_, ?_, hc⟩
  · obtain ⟨x, hx, rfl⟩ := List.mem_map.mp hl
    exact moved_line (k.line x hx) (hv x hx)
  · have nd := k.nodup
    unfold List.Nodup at *
    rw [List.pairwise_map] at nd
    rw [List.pairwise_map, List.pairwise_map]
    exact nd.imp_of_mem fun ha hb hne e => hne (moved_inj qs (k.line _ ha) (k.line _ hb) e)
/-- the points moved along -/
def addq (xs qs : List Rat) : List Rat := (xs.zip qs).map fun x => x.1 + x.2
theorem dot_add : ∀ (s : List Int) (xs qs : List Rat), xs.length = qs.length → dotq s (addq xs qs) = dotq s xs + dotq s qs
  | [], xs, qs, _ => by simp [dotq, qsum]; grind
  | _ :: _, [], [], _ => by simp [dotq, addq, qsum]; grind
  | x :: s, q :: qs, t :: ts, h => by
    have ih := dot_add s qs ts (by simpa using h)
    unfold dotq addq at *
    simp only [List.zip_cons_cons, List.map_cons, qsum_cons] at *
    rw [ih]
    generalize qsum ((s.zip qs).map fun p => (p.1 : Rat) * p.2) = a
    generalize qsum ((s.zip ts).map fun p => (p.1 : Rat) * p.2) = b
    grind
  | _ :: _, [], _ :: _, h => by simp at h
  | _ :: _, _ :: _, [], h => by simp at h
theorem sign_mul_pos {c q : Rat} (hc : 0 < c) : (c * q).num.sign = q.num.sign := by
  rcases (show 0 < q ∨ q < 0 ∨ q = 0 by grind) with h | h | h
  · rw [sign_pos h, sign_pos (Rat.mul_pos hc h)]
  · have := Rat.mul_pos hc (show 0 < -q by grind)
    rw [sign_neg' h, sign_neg' (show c * q < 0 by grind)]
  · rw [h, Rat.mul_zero]
theorem moved_ans {n m : Nat} {l : Ln} {xs qs : List Rat} (k : LineOk n m l) (hl : xs.length = qs.length) : ansq (movedL qs l) (addq xs qs) = ansq l xs := by
  have gp := gcdL_pos (mrow_ne qs k)
  have dd : ∀ x ∈ mrow qs l, (gcdL (mrow qs l) : Int) ∣ x := fun x mm => gcdL_dvd mm
  have g0 := ic0 (show (gcdL (mrow qs l) : Int) ≠ 0 by omega)
  have b0 := ic0 (dn (vq l qs))
  have hb : (0 : Rat) < ((vq l qs).den : Int) := by
    have := (vq l qs).den_pos
    exact Rat.intCast_pos.mpr (by omega)
  have hg : (0 : Rat) < ((gcdL (mrow qs l) : Int) : Rat) := Rat.intCast_pos.mpr (by omega)
  have sc := dot_scale (fun x => x * ((vq l qs).den : Int) / (gcdL (mrow qs l) : Int)) (((vq l qs).den : Int) / ((gcdL (mrow qs l) : Int) : Rat)) l.1 (addq xs qs) (fun x hx => by
    rw [sub_of_div (by omega) (dd _ (List.mem_append_left _ (List.mem_map_of_mem hx))), Rat.intCast_mul]
    grind)
  have nv := num_of (vq l qs)
  have wv : vq l qs = (l.2 : Rat) + dotq l.1 qs := rfl
  have e2 : (((vq l qs).num / (gcdL (mrow qs l) : Int) : Int) : Rat) = (((vq l qs).den : Int) / ((gcdL (mrow qs l) : Int) : Rat)) * ((l.2 : Rat) + dotq l.1 qs) := by
    rw [sub_of_div (by omega) (dd _ (List.mem_append_right _ (by simp))), nv, ← wv]
    generalize (((vq l qs).den : Int) : Rat) = x at *
    grind
  have hc : (0 : Rat) < ((vq l qs).den : Int) / ((gcdL (mrow qs l) : Int) : Rat) := by
    rw [Rat.div_def]
    exact Rat.mul_pos hb (Rat.inv_pos.mpr hg)
  unfold ansq
  show (dotq (l.1.map fun x => x * ((vq l qs).den : Int) / (gcdL (mrow qs l) : Int)) (addq xs qs) - (((vq l qs).num / (gcdL (mrow qs l) : Int) : Int) : Rat)).num.sign = _
  rw [sc, e2, dot_add _ _ _ hl, ← sign_mul_pos (c := ((vq l qs).den : Int) / ((gcdL (mrow qs l) : Int) : Rat)) (q := dotq l.1 xs - (l.2 : Rat)) hc]
  congr 2
  generalize (((vq l qs).den : Int) : Rat) / ((gcdL (mrow qs l) : Int) : Rat) = c
  grind
theorem moved_row {n m : Nat} {ls : List Ln} {xs qs : List Rat} (k : ∀ l ∈ ls, LineOk n m l) (hl : xs.length = qs.length) : rowI (ls.map (movedL qs)) (addq xs qs) = rowI ls xs := by
  unfold rowI
  rw [List.map_map]
  exact List.map_congr_left fun l hm => moved_ans (k l hm) hl

end W_k03

set_option maxHeartbeats 400000
namespace W_k03
open PySem PySem.Spec PyProof.Rows L2 DL
-- at 06
/-! ### books without a question, moved -/
theorem atI_last {α : Type} (xs : List α) (x : α) : atI (xs ++ [x]) (-1) = some x := by
  unfold atI ixN
  rw [if_neg (by decide), List.length_append, List.length_singleton, if_pos (by omega)]
  rw [show ((-1 : Int) + ((xs.length + 1 : Nat) : Int)).toNat = xs.length by omega]
  simp
theorem cut_last (xs : List D) (x : D) : DL.cutD (xs ++ [x]) none (some (-1)) = xs := by
  unfold DL.cutD
  have e : HT.sIx (xs ++ [x]).length (xs ++ [x]).length (some (-1)) = xs.length := by
    show (if (-1 : Int) < 0 then ((-1 : Int) + (((xs ++ [x]).length : Nat) : Int)).toNat else min (-1 : Int).toNat (xs ++ [x]).length) = _
    rw [if_pos (by decide), List.length_append, List.length_singleton]
    omega
  rw [e, HT.sIx_none, List.drop_zero, Nat.sub_zero, List.take_left]
def cutL {α : Type} (ls : List α) (i : Nat) : List α := ls.take i ++ ls.drop (i + 1)
theorem cutL_sub {α : Type} (ls : List α) (i : Nat) : (cutL ls i).Sublist ls := by
  unfold cutL
  rw [← List.eraseIdx_eq_take_drop_succ]
  exact List.eraseIdx_sublist _ _
theorem PageOk.cut {n m : Nat} {ls : List Ln} (k : PageOk n m ls) (i : Nat) : PageOk n m (cutL ls i) := by
  have s := cutL_sub ls i
  exact ⟨k.pos, k.le, Nat.le_trans s.length_le k.many, fun l hl => k.line l (s.subset hl), (s.map _).nodup k.nodup, k.bitsLe⟩
theorem dSl_lo (xs : List D) (i : Nat) : dSl (.tuple xs) none (some (i : Int)) = some (.tuple (xs.take i)) := by
  show some (PyData.tuple (DL.cutD _ none (some (i : Int)))) = _
  rw [cut_lo]
theorem dSl_hi (xs : List D) (i : Nat) : dSl (.tuple xs) (some ((i : Int) + 1)) none = some (.tuple (xs.drop (i + 1))) := by
  have := cut_hi xs (i + 1)
  show some (PyData.tuple (DL.cutD _ (some ((i : Int) + 1)) none)) = _
  rw [show ((i : Int) + 1) = ((i + 1 : Nat) : Int) by omega, this]
theorem dAdd_t {xs ys : List D} (hh : xs.length + ys.length ≤ 4000) : dAdd (.tuple xs) (.tuple ys) = some (.tuple (xs ++ ys)) := by
  show (if _ then _ else _) = _
  rw [if_pos (sz_le (by omega))]
theorem rowI_cut (ls : List Ln) (qs : List Rat) (i : Nat) : rowI (cutL ls i) qs = cutL (rowI ls qs) i := by simp [rowI, cutL, List.map_take, List.map_drop]
section
variable {h : Hs} {n m b c : Nat} {ls : List Ln} {qs ts : List Rat}
theorem without_of_ok {i : Nat} (hm : ls.length ≤ 1000) : F_without_of [.d (pageD n ls), .d (.int i)] h = .ok (.d (pageD n (cutL ls i))) h := by
  refine wpR_eq ?_
  unfold F_without_of G_without_of
  rw [wpR_mkF]
  refine ⟨rfl, ?_⟩
  have ad := dAdd_t (xs := (ls.map lineD).take i) (ys := (ls.map lineD).drop (i + 1)) (by simp; omega)
  unfold pageD
  simp [startE, sz_le, dSl_lo, dSl_hi, ad, cutL, List.map_take, List.map_drop]
theorem without_ok {i : Nat} (k : PageOk n m ls) (hi : i < ls.length) : F_without [.d (pageD n ls), .d (.int i)] h = .ok (.d (pageD n (cutL ls i))) h := by
  refine wpR_eq ?_
  unfold F_without G_without
  rw [wpR_mkF]
  refine ⟨rfl, ?_⟩
  simp [startE, check_book_ok k, check_index_ok hi, without_of_ok k.many]
theorem vq_bd {B : Nat} {l : Ln} (kb : ∀ x ∈ rowL l, Lt2 m x) (sd : SpotD B qs) : Bd (m + B + qs.length) (vq l qs) := by
  obtain ⟨D, h0, l0, aD⟩ := sd.ex
  have hs : ∀ x ∈ rowL (l.1, -l.2), Lt2 m x := fun x hx => by
    rcases List.mem_append.mp hx with hx | hx
    · exact kb x (List.mem_append_left _ hx)
    · have : x = -l.2 := by simpa using hx
      rw [this]
      exact (kb _ (by simp [rowL])).neg
  have w := worth_fr (l := (l.1, -l.2)) hs h0 l0 aD
  rw [worthq_eq] at w
  have e : dotq l.1 qs - ((-l.2 : Int) : Rat) = vq l qs := by
    unfold vq
    rw [Rat.intCast_neg]
    grind
  rw [e] at w
  exact (w.bd h0 l0).mono (by omega)
theorem add_bd {b c : Nat} (hq : ∀ q ∈ qs, Bd b q) (ht : ∀ q ∈ ts, Bd c q) : ∀ q ∈ addq qs ts, Bd (b + c + 1) q := by
  intro q hq'
  obtain ⟨x, hx, rfl⟩ := List.mem_map.mp hq'
  obtain ⟨h1, h2⟩ := List.of_mem_zip hx
  exact (hq _ h1).add (ht _ h2)
end

end W_k03

set_option maxHeartbeats 400000
namespace W_k03
open PySem PySem.Spec PyProof.Rows L2 DL
-- at 02
/-! ### one page tried, all -/
theorem okD_page {n m : Nat} {ls : List Ln} (k : PageOk n m ls) (j : Nat) : okD (j + 5) (pageD n ls) := by
  have z := (okD_lines k.le k.many k.line).1
  refine ⟨by simp, fun x hx => ?_⟩
  have : x = .int n ∨ x = .tuple (ls.map lineD) := by simpa using hx
  rcases this with rfl | rfl
  · exact True.intro
  · have up : ∀ {i : Nat} {d : D}, okD i d → okD (i + 1) d := by
      intro i
      induction i with
      | zero => intro d e; exact e.elim
      | succ i ih =>
        intro d e
        match d, e with
        | .none, _ => exact True.intro
        | .int _, _ => exact True.intro
        | .bool _, _ => exact True.intro
        | .tuple xs, e => exact ⟨e.1, fun x hx => ih (e.2 x hx)⟩
        | .list xs, e => exact ⟨e.1, fun x hx => ih (e.2 x hx)⟩
    have go : ∀ j, okD (j + 4) (.tuple (ls.map lineD)) := fun j => by
      induction j with
      | zero => exact z
      | succ j ih => exact up ih
    exact go j
theorem okD_list {k : Nat} {xs : List D} (hl : xs.length ≤ 4096) (h : ∀ x ∈ xs, okD k x) : okD (k + 1) (.list xs) := ⟨hl, h⟩
theorem cut_m1 (xs : List D) : DL.cutD xs none (some (-1)) = xs.take (xs.length - 1) := by
  unfold DL.cutD
  have e : HT.sIx xs.length xs.length (some (-1)) = xs.length - 1 := by
    show (if (-1 : Int) < 0 then ((-1 : Int) + ((xs.length : Nat) : Int)).toNat else min (-1 : Int).toNat xs.length) = _
    rw [if_pos (by decide)]
    omega
  rw [e, HT.sIx_none, List.drop_zero, Nat.sub_zero]
theorem atI_m1 {α : Type} (xs : List α) (h : 0 < xs.length) : atI xs (-1) = some (xs[xs.length - 1]'(by omega)) := by
  unfold atI ixN
  rw [if_neg (by decide), if_pos (by omega)]
  have : ((-1 : Int) + (xs.length : Int)).toNat = xs.length - 1 := by omega
  rw [this]
  simp
section
variable {h : Hs} {E : DL.EP} {Q : Val → Hs → Prop} {n m b c : Nat} {ls : List Ln} {qs ts : List Rat}
theorem is_book_any (k : PageOk n m ls) : F_is_book [.d (pageD n ls)] h = .ok (.d (.bool true)) h := is_book_ok k
theorem turn_d (l : Ln) : PyData.tuple [.tuple (l.1.map fun x => .int (-x)), .int (-l.2)] = lineD (turnL l) := by simp [lineD, turnL, Function.comp_def]
end

end W_k03

set_option maxHeartbeats 400000
namespace W_k03
open PySem PySem.Spec PyProof.Rows L2 DL
-- at 03
/-! ### putting out unknowns, and the rank -/
theorem gD_lt {α : Type} (l : List α) (i : Nat) (d : α) (h : i < l.length) : l.getD i d = l[i] := by simp [List.getD, h]
theorem gD_ge {α : Type} (l : List α) (i : Nat) (d : α) (h : l.length ≤ i) : l.getD i d = d := by simp [List.getD, h]
def fnR (r : List Rat) : Rw := fun k => r.getD k 0
/-- the row at which a column is not nought first -/
def leads (L : List (List Rat)) (c : Nat) : List Nat := (List.range L.length).filter (fun p => decide ((L.getD p []).getD c 0 ≠ 0))
def leadQ (own : List Rat) (c : Nat) : List Rat := own.map (· * (own.getD c 0)⁻¹)
def lessQ (lead : List Rat) (c : Nat) (r : List Rat) : List Rat := (r.zip (lead.map (· * r.getD c 0))).map fun x => x.1 - x.2
def stepQ (s : List (List Rat) × List (List Rat)) (c : Nat) : List (List Rat) × List (List Rat) :=
  match leads s.1 c with
  | [] => s
  | p :: _ => ((cutL s.1 p).map (lessQ (leadQ (s.1.getD p []) c) c), s.2 ++ [leadQ (s.1.getD p []) c])
def elimQ (L : List (List Rat)) (cs : List Nat) : List (List Rat) × List (List Rat) := cs.foldl stepQ (L, [])
theorem cutL_perm {α : Type} (l : List α) (p : Nat) (h : p < l.length) : l.Perm (l[p] :: cutL l p) := by
  have e : l = l.take p ++ l[p] :: l.drop (p + 1) := by
    rw [← List.drop_eq_getElem_cons h, List.take_append_drop]
  unfold cutL
  conv => lhs; rw [e]
  exact perm_mid _ _ _
theorem leads_spec {L : List (List Rat)} {c p : Nat} {ps : List Nat} (h : leads L c = p :: ps) : p < L.length ∧ (L.getD p []).getD c 0 ≠ 0 := by
  have m : p ∈ leads L c := by rw [h]; exact List.mem_cons_self
  unfold leads at m
  obtain ⟨a, b⟩ := List.mem_filter.mp m
  exact ⟨by simpa using a, by simpa using b⟩
theorem leads_none {L : List (List Rat)} {c : Nat} (h : leads L c = []) : ∀ r ∈ L, fnR r c = 0 := fun r hr => by
  obtain ⟨p, hp, e⟩ := List.mem_iff_getElem.mp hr
  unfold leads at h
  have := List.filter_eq_nil_iff.mp h p (by simpa using hp)
  rw [gD_lt _ _ _ hp, e] at this
  show r.getD c 0 = 0
  simpa using this
theorem less_len {lead r : List Rat} {c w : Nat} (hl : lead.length = w) (hr : r.length = w) : (lessQ lead c r).length = w := by simp [lessQ, hl, hr]
theorem lead_len (own : List Rat) (c : Nat) : (leadQ own c).length = own.length := by simp [leadQ]
theorem fn_less {own r : List Rat} {c w : Nat} (ho : own.length = w) (hr : r.length = w) (hc : own.getD c 0 ≠ 0) : fnR (lessQ (leadQ own c) c r) = opR (fnR own) c (fnR r) := by
  funext k
  unfold fnR opR
  by_cases hk : k < w
  · show (lessQ (leadQ own c) c r).getD k 0 = r.getD k 0 + -(r.getD c 0 / own.getD c 0) * own.getD k 0
    rw [gD_lt _ _ _ (by rw [less_len (by rw [lead_len, ho]) hr]; exact hk), gD_lt r k 0 (by omega), gD_lt own k 0 (by omega)]
    unfold lessQ leadQ
    simp only [List.getElem_map, List.getElem_zip]
    have go : ∀ (a b x y : Rat), a ≠ 0 → x - y * a⁻¹ * b = x + -(b / a) * y := fun a b x y h => by grind
    exact go _ _ _ _ hc
  · have e1 : r.getD k 0 = 0 := gD_ge r k 0 (by omega)
    have e2 : own.getD k 0 = 0 := gD_ge own k 0 (by omega)
    show (lessQ (leadQ own c) c r).getD k 0 = r.getD k 0 + -(r.getD c 0 / own.getD c 0) * own.getD k 0
    rw [gD_ge _ _ _ (by rw [less_len (by rw [lead_len, ho]) hr]; omega), e1, e2]
    grind
theorem step_none {s : List (List Rat) × List (List Rat)} {c : Nat} (h : leads s.1 c = []) : stepQ s c = s := by
  unfold stepQ
  rw [h]
theorem step_some {s : List (List Rat) × List (List Rat)} {c p : Nat} {ps : List Nat} (h : leads s.1 c = p :: ps) : stepQ s c = ((cutL s.1 p).map (lessQ (leadQ (s.1.getD p []) c) c), s.2 ++ [leadQ (s.1.getD p []) c]) := by
  unfold stepQ
  rw [h]
theorem step_len {w c : Nat} {s : List (List Rat) × List (List Rat)} (h : ∀ r ∈ s.1, r.length = w) : (∀ r ∈ (stepQ s c).1, r.length = w) := by
  unfold stepQ
  split
  · exact h
  · rename_i p ps hp
    obtain ⟨lt, _⟩ := leads_spec hp
    intro r hr
    obtain ⟨q, hq, rfl⟩ := List.mem_map.mp hr
    have ho := h _ (List.getElem_mem lt)
    rw [← gD_lt s.1 p [] lt] at ho
    exact less_len (by rw [lead_len, ho]) (h q ((cutL_sub s.1 p).subset hq))
theorem step_le (s : List (List Rat) × List (List Rat)) (c : Nat) : s.2.length ≤ (stepQ s c).2.length := by
  unfold stepQ
  split <;> simp
theorem fold_le : ∀ (cs : List Nat) (s : List (List Rat) × List (List Rat)), s.2.length ≤ (cs.foldl stepQ s).2.length
  | [], s => Nat.le_refl _
  | c :: cs, s => Nat.le_trans (step_le s c) (fold_le cs (stepQ s c))
/-- as many rows are found as the greatest determinant has that is not 0 -/
theorem minor_elim {w : Nat} : ∀ (cs : List Nat) (L F : List (List Rat)), (∀ r ∈ L, r.length = w) → ∀ k, Minor k (L.map fnR) cs ↔ F.length + k ≤ (cs.foldl stepQ (L, F)).2.length
  | [], L, F, _, k => by
    constructor
    · rintro ⟨S, R, T, a, b, c, d, e⟩
      have : T = [] := List.sublist_nil.mp b
      rw [this] at d
      have : k = 0 := by simpa using d.symm
      rw [this]
      exact Nat.le_refl _
    · intro h
      have h : F.length + k ≤ F.length := h
      have : k = 0 := by omega
      rw [this]
      exact minor_zero _ _
  | c :: cs, L, F, hL, k => by
    rw [List.foldl_cons]
    have sl := step_len (c := c) (s := (L, F)) hL
    have fl := fold_le cs (stepQ (L, F) c)
    cases hp : leads L c with
    | nil =>
      rw [step_none (s := (L, F)) hp]
      rw [minor_none (fun r hr => by
        obtain ⟨q, hq, rfl⟩ := List.mem_map.mp hr
        exact leads_none hp q hq)]
      exact minor_elim cs L F hL k
    | cons p ps =>
      obtain ⟨lt, nz⟩ := leads_spec hp
      have es := step_some (s := (L, F)) hp
      rw [es] at sl fl ⊢
      have ho := hL _ (List.getElem_mem lt)
      rw [← gD_lt L p [] lt] at ho
      have pm := (cutL_perm L p lt).map fnR
      rw [← gD_lt L p [] lt, List.map_cons] at pm
      have eL : (((cutL L p).map (lessQ (leadQ (L.getD p []) c) c)).map fnR) = ((cutL L p).map fnR).map (opR (fnR (L.getD p [])) c) := by
        rw [List.map_map, List.map_map]
        exact List.map_congr_left fun r hr => fn_less ho (hL r ((cutL_sub L p).subset hr)) nz
      rw [minor_perm pm]
      generalize L.getD p [] = own at *
      cases k with
      | zero =>
        refine iff_of_true (minor_zero _ _) (Nat.le_trans ?_ fl)
        simp
      | succ k =>
        rw [minor_pivot (show fnR own c ≠ 0 from nz), ← eL]
        have ih := minor_elim cs ((cutL L p).map (lessQ (leadQ own c) c)) (F ++ [leadQ own c]) sl k
        rw [ih]
        simp
        omega

end W_k03

set_option maxHeartbeats 400000
namespace W_k03
open PySem PySem.Spec PyProof.Rows L2 DL
-- at 03
/-! ### the program's putting out -/
section
variable {h : Hs} {E : DL.EP} {Q : Val → Hs → Prop} {B w : Nat}
theorem quotient_one {a : Rat} {n : Nat} (ha : Bd n a) (h0 : a ≠ 0) (hn : n ≤ 8000) : F_quotient [.c [1, 1], .d (qD a)] h = .ok (.d (qD a⁻¹)) h := by
  have nn : a.num ≠ 0 := fun z => h0 (Rat.num_eq_zero.mp z)
  have lo := fun h => lowest_ok (h := h) (t := (a.den : Int)) (b := a.num) nn ha.1 hn
  rw [← Rat.inv_def] at lo
  have d1 := dMul_of (i := 1) (n := 2) (show Int.natAbs 1 < 2 ^ 2 by decide) (Lt2.den ha) (by omega)
  have d2 := dMul_of (i := 1) (n := 2) (show Int.natAbs 1 < 2 ^ 2 by decide) ha.1 (by omega)
  refine wpR_eq ?_
  unfold F_quotient G_quotient
  rw [wpR_mkF]
  refine ⟨rfl, ?_⟩
  simp [startE, qD0, qD1, atI_zero, atI_one, d1, d2, lo]
theorem bd_inv {a : Rat} {n : Nat} (ha : Bd n a) (h0 : a ≠ 0) : Bd n a⁻¹ := by
  have nn : a.num ≠ 0 := fun z => h0 (Rat.num_eq_zero.mp z)
  rw [Rat.inv_def]
  exact Bd.divInt nn (Lt2.den ha) ha.1
def rowT (r : List Rat) : D := .tuple (r.map qD)
theorem times_row_ok {r : List Rat} {b : Rat} {n m : Nat} (hr : ∀ q ∈ r, Bd n q) (hb : Bd m b) (hn : min n m ≤ 4400 ∧ n ≤ 8900 ∧ m ≤ 8900) (hl : r.length ≤ 4096) : F_times_row [.d (rowT r), .d (qD b)] h = .ok (.d (rowT (r.map (· * b)))) h := by
  refine wpR_eq ?_
  unfold F_times_row G_times_row
  rw [wpR_mkF]
  refine ⟨rfl, ?_⟩
  simp [startE, rowT]
  refine wp_lc_map qD (fun q => qD (q * b)) rfl (Chk_nil _) (sz_le hl) (fun q hq => ?_) ?_
  · have p := fun h => product_ok (h := h) (hr q hq) hb hn
    simp [p]
  simp [Function.comp_def]
theorem less_row_ok {r s : List Rat} {n m : Nat} (hr : ∀ q ∈ r, Bd n q) (hs : ∀ q ∈ s, Bd m q) (hn : min n m ≤ 4400 ∧ n + m ≤ 400000) (hl : r.length ≤ 4096) : F_less_row [.d (rowT r), .d (rowT s)] h = .ok (.d (rowT ((r.zip s).map fun x => x.1 - x.2))) h := by
  refine wpR_eq ?_
  unfold F_less_row G_less_row
  rw [wpR_mkF]
  refine ⟨rfl, ?_⟩
  have zi : ∀ h, zipOf (.d (rowT r)) (.d (rowT s)) h = some ((r.zip s).map (fun x : Rat × Rat => .tuple [qD x.1, qD x.2]), []) := fun h => by
    unfold rowT
    rw [zipOf_tup, zip_maps]
  have hz : (r.zip s).length ≤ 4096 := by rw [List.length_zip]; omega
  simp [startE, zi]
  refine wp_lc_map (fun x : Rat × Rat => .tuple [qD x.1, qD x.2]) (fun x => qD (x.1 - x.2)) rfl (Chk_nil _) (sz_le hz) (fun x hx => ?_) ?_
  · obtain ⟨h1, h2⟩ := List.of_mem_zip hx
    have p := fun h => difference_ok (h := h) (hr _ h1) (hs _ h2) hn
    simp [p]
  simp [rowT, Function.comp_def]
theorem dNe_q0 (q : Rat) : dNe (qD q) (.tuple [.int 0, .int 1]) = some (.bool (decide (q ≠ 0))) := by
  have e : qD 0 = .tuple [.int 0, .int 1] := rfl
  rw [← e]
  unfold dNe
  rw [if_pos ⟨shaped_q q, rfl⟩, eqv_q]
  simp
/-- bits behind so many columns -/
def bitsQ (B : Nat) : Nat → Nat
  | 0 => B
  | w + 1 => 4 * bitsQ B w + 1
def RowsQ (w B : Nat) (L : List (List Rat)) : Prop := ∀ r ∈ L, r.length = w ∧ ∀ q ∈ r, Bd B q
theorem bd_sub {n m : Nat} {a b : Rat} (ha : Bd n a) (hb : Bd m b) : Bd (n + m + 1) (a - b) := by
  rw [Rat.sub_eq_add_neg]
  exact ha.add hb.neg
theorem getD_bd {r : List Rat} {w B k : Nat} (h : r.length = w ∧ ∀ q ∈ r, Bd B q) (hk : k < w) : Bd B (r.getD k 0) := by
  rw [gD_lt _ _ _ (by rw [h.1]; exact hk)]
  exact h.2 _ (List.getElem_mem _)
theorem leadQ_bd {own : List Rat} {c : Nat} (h : own.length = w ∧ ∀ q ∈ own, Bd B q) (hc : c < w) (nz : own.getD c 0 ≠ 0) : (leadQ own c).length = w ∧ ∀ q ∈ leadQ own c, Bd (2 * B) q := by
  refine ⟨by rw [lead_len]; exact h.1, fun q hq => ?_⟩
  obtain ⟨x, hx, rfl⟩ := List.mem_map.mp hq
  exact ((h.2 x hx).mul (bd_inv (getD_bd h hc) nz)).mono (by omega)
theorem lessQ_bd {lead r : List Rat} {c : Nat} (hl : lead.length = w ∧ ∀ q ∈ lead, Bd (2 * B) q) (h : r.length = w ∧ ∀ q ∈ r, Bd B q) (hc : c < w) : (lessQ lead c r).length = w ∧ ∀ q ∈ lessQ lead c r, Bd (4 * B + 1) q := by
  refine ⟨less_len hl.1 h.1, fun q hq => ?_⟩
  obtain ⟨x, hx, rfl⟩ := List.mem_map.mp hq
  obtain ⟨h1, h2⟩ := List.of_mem_zip hx
  obtain ⟨y, hy, e⟩ := List.mem_map.mp h2
  rw [← e]
  exact (bd_sub (h.2 _ h1) ((hl.2 y hy).mul (getD_bd h hc))).mono (by omega)
theorem stepQ_ok {s : List (List Rat) × List (List Rat)} {c : Nat} (h : RowsQ w B s.1) (hc : c < w) : RowsQ w (4 * B + 1) (stepQ s c).1 ∧ (stepQ s c).1.length ≤ s.1.length ∧ (stepQ s c).2.length ≤ s.2.length + 1 := by
  cases hp : leads s.1 c with
  | nil =>
    rw [step_none hp]
    exact ⟨fun r hr => ⟨(h r hr).1, fun q hq => ((h r hr).2 q hq).mono (by omega)⟩, Nat.le_refl _, by omega⟩
  | cons p ps =>
    obtain ⟨lt, nz⟩ := leads_spec hp
    rw [step_some hp]
    have ho := h _ (List.getElem_mem lt)
    rw [← gD_lt s.1 p [] lt] at ho
    refine ⟨fun r hr => ?_, ?_, by simp⟩
    · obtain ⟨q, hq, rfl⟩ := List.mem_map.mp hr
      exact lessQ_bd (leadQ_bd ho hc nz) (h q ((cutL_sub s.1 p).subset hq)) hc
    · rw [List.length_map]; exact (cutL_sub s.1 p).length_le
theorem elim_snoc (L : List (List Rat)) (j : Nat) : elimQ L (List.range (j + 1)) = stepQ (elimQ L (List.range j)) j := by
  unfold elimQ
  rw [List.range_succ, List.foldl_append]; rfl
theorem elim_ok {L : List (List Rat)} (h : RowsQ w B L) : ∀ j, j ≤ w → RowsQ w (bitsQ B j) (elimQ L (List.range j)).1 ∧ (elimQ L (List.range j)).1.length ≤ L.length ∧ (elimQ L (List.range j)).2.length ≤ j
  | 0, _ => ⟨h, Nat.le_refl _, Nat.le_refl _⟩
  | j + 1, hj => by
    obtain ⟨a, b, c⟩ := elim_ok h j (by omega)
    rw [elim_snoc]
    obtain ⟨d, e, f⟩ := stepQ_ok a (show j < w by omega)
    exact ⟨d, by omega, by omega⟩
end

end W_k03

set_option maxHeartbeats 400000
namespace W_k03
open PySem PySem.Spec PyProof.Rows L2 DL
-- at 03
/-! ### the program's putting out: all -/
theorem seqIx_nat {j n : Nat} (h : j < n) : seqIndex? (j : Int) n = some j := by
  unfold seqIndex?
  simp
  omega
theorem Chk_one {h : Hs} {p : Nat} {ds : List D} (e : h[p]? = some (.lst ds)) : Chk [(p, ds)] h := fun q hq => by
  have : q = (p, ds) := by simpa using hq
  rw [this]; exact e
theorem gPop_nat {α : Type} (A : α → D) (l : List α) (j : Nat) (d : α) (h : j < l.length) (hl : l.length ≤ 1000) : gPopAt (l.map A) [.int (j : Int)] = some ((cutL l j).map A, A (l.getD j d)) := by
  unfold gPopAt
  have l63 : (j : Int).natAbs.log2 < 63 := by
    rw [Int.natAbs_natCast]
    have := Nat.log2_le_self j
    by_cases z : j = 0
    · rw [z]; decide
    · exact (Nat.log2_lt z).mpr (Nat.lt_of_lt_of_le (show j < 2 ^ 10 by omega) (Nat.pow_le_pow_right (by decide) (by decide)))
  simp only [if_pos l63, List.length_map, seqIx_nat h]
  rw [gD_lt _ _ _ h]
  simp [h, List.eraseIdx_eq_take_drop_succ, cutL]
def rowLi (r : List Rat) : D := .list (r.map qD)
theorem okD_rowT {r : List Rat} {k : Nat} (h : r.length ≤ 4096) : okD (k + 3) (rowT r) := by
  refine ⟨by simpa using h, fun x hx => ?_⟩
  obtain ⟨q, _, rfl⟩ := List.mem_map.mp hx
  refine ⟨by simp, fun y hy => ?_⟩
  have : y = .int q.num ∨ y = .int (q.den : Int) := by simpa using hy
  rcases this with rfl | rfl <;> exact True.intro
theorem elim_nil (cs : List Nat) (F : List (List Rat)) : cs.foldl stepQ (([] : List (List Rat)), F) = ([], F) := by
  induction cs with
  | nil => rfl
  | cons c cs ih => rw [List.foldl_cons, step_none (s := ([], F)) rfl, ih]
section
variable {h : Hs} {E : DL.EP} {Q : Val → Hs → Prop} {B w : Nat}
def RMid (v : Val) (w : Nat) (h : Hs) (s : List (List Rat) × List (List Rat)) (ρ : DL.Env) (h' : Hs) : Prop := ∃ (p : Nat) (x4 x5 x6 : Option Val), ρ = [some v, some (.r p), some (.r (h.length + 1)), some (.d (.int w)), x4, x5, x6, none] ∧
  h.length ≤ p ∧ p ≠ h.length + 1 ∧ h.length ≤ h'.length ∧ h'.take h.length = h ∧ h'[p]? = some (.lst (s.1.map rowT)) ∧ h'[h.length + 1]? = some (.lst (s.2.map rowT))
theorem reduced_ok {L : List (List Rat)} (ok : RowsQ w B L) (hw : w ≤ 100) (hn : L.length ≤ 900) (hB : ∀ j, j < w → bitsQ B j ≤ 2000) :
    F_reduced [.d (.list (L.map rowLi))] h = .ok (.d (.list ((elimQ L (List.range w)).2.map rowT))) h := by
  refine wpR_eq ?_
  unfold F_reduced G_reduced
  rw [wpR_mkF]
  refine ⟨rfl, ?_⟩
  simp [startE, -wpS_sSeq]
  rw [wpS_sSeq]
  simp [-wpS_sSeq]
  refine wp_lcM_map rowLi rowT rfl (Chk_nil _) (sz_le (by omega)) (fun r hr => by
    have e : dTuple (rowLi r) = some (rowT r) := rfl
    simp [e]) ?_
  simp [sz_le, -wpS_sSeq]
  refine wpS_cut (fun ρ h' => ∃ w' : Nat, elimQ L (List.range w') = elimQ L (List.range w) ∧ w' ≤ w ∧ RMid (.d (.list (L.map rowLi))) w' h (elimQ L (List.range 0)) ρ h') ?_ ?_
  · have okl : okD 4 (.list (L.map rowT)) := ⟨by rw [List.length_map]; omega, fun x hx => by
      obtain ⟨r, hr, rfl⟩ := List.mem_map.mp hx
      exact okD_rowT (by rw [(ok r hr).1]; omega)⟩
    have ne := dNe_nilL okl (by omega)
    have g1 : (h ++ [MO.lst (L.map rowT), MO.lst []])[h.length]? = some (.lst (L.map rowT)) := by simp
    simp [vD_r g1, ne]
    cases L with
    | nil =>
      simp
      exact ⟨0, by unfold elimQ; rw [elim_nil, elim_nil], by omega, h.length, none, none, none, rfl, Nat.le_refl _, by omega, by simp, by simp, by simp [elimQ], by simp [elimQ]⟩
    | cons r L =>
      have rl := (ok r List.mem_cons_self).1
      have lr : ∀ h, vS (.d (rowT r)) h = some (.tuple (r.map qD)) := fun _ => rfl
      have g2 : (h ++ [MO.lst (rowT r :: L.map rowT), MO.lst []])[h.length]? = some (.lst (rowT r :: L.map rowT)) := by simp
      simp [vS_r g2, atI_zero, lr, rl]
      exact ⟨w, rfl, Nat.le_refl _, h.length, none, none, none, rfl, Nat.le_refl _, by omega, by simp, by simp, by simp [elimQ], by simp [elimQ]⟩
  rintro ρ h1 ⟨w', ew, ww, hm⟩
  rw [← ew]
  have hm' := hm
  obtain ⟨p, x4, x5, x6, rfl, pl, pn, hl, tk, at1, at2⟩ := hm
  simp [small_nat (show w' ≤ 100000 by omega)]
  refine wp_for0 (fun j ρ h' => RMid (.d (.list (L.map rowLi))) w' h (elimQ L (List.range j)) ρ h') (fun _ _ _ _ => Chk_nil _) hm' ?_ ?_
  · clear hm' at1 at2 tk hl pn pl x4 x5 x6 p h1
    rintro j dd ρ h1 hd ⟨p, x4, x5, x6, rfl, pl, pn, hl, tk, at1, at2⟩
    obtain ⟨hj, rfl⟩ := rng_get hd
    have jw : j < w := by omega
    obtain ⟨ok1, ln1, fl1⟩ := elim_ok ok j (by omega)
    have bj := hB j jw
    rw [elim_snoc]
    generalize elimQ L (List.range j) = s at *
    generalize bitsQ B j = b at *
    simp [vS_r at1, small_nat (show s.1.length ≤ 100000 by omega), -wpS_sSeq]
    rw [wpS_sSeq]
    simp [vS_r at1, small_nat (show s.1.length ≤ 100000 by omega), -wpS_sSeq]
    rw [rng0]
    refine wp_lc_fm (fun k : Nat => .int (k : Int)) (fun k => .int (k : Int)) (fun k => decide ((s.1.getD k []).getD j 0 ≠ 0)) rfl (Chk_nil _) (sz_le (by simp; omega)) (fun k hk => ?_) ?_
    · have hk : k < s.1.length := by simpa using hk
      have i1 : atI (s.1.map rowT) (k : Int) = some (rowT (s.1.getD k [])) := by rw [DL.atI_nat, gD_lt _ _ _ hk]; simp [hk]
      have rk := ok1 _ (List.getElem_mem hk)
      rw [← gD_lt s.1 k [] hk] at rk
      generalize s.1.getD k [] = r at *
      have i2 : dIx (rowT r) (.int (j : Int)) = some (qD (r.getD j 0)) := by
        show atI (r.map qD) (j : Int) = _
        rw [DL.atI_nat, gD_lt _ _ _ (by rw [rk.1]; exact jw)]
        simp [rk.1, jw]
      generalize r.getD j 0 = q at *
      simp [vS_r at1, i1, i2, dNe_q0]
    have el : ((List.range s.1.length).filter fun k => decide ((s.1.getD k []).getD j 0 ≠ 0)) = leads s.1 j := rfl
    rw [el]
    cases hp : leads s.1 j with
    | nil =>
      rw [step_none hp]
      have ne : dNe (.list []) (.list []) = some (.bool false) := rfl
      simp [ne]
      exact ⟨p, _, _, _, rfl, pl, pn, hl, tk, at1, at2⟩
    | cons a rest =>
      obtain ⟨lt, nz⟩ := leads_spec hp
      rw [step_some hp]
      have ne : dNe (.list ((a :: rest).map fun k : Nat => PyData.int (k : Int))) (.list []) = some (.bool true) := by
        have hlen : (leads s.1 j).length ≤ 900 := Nat.le_trans (List.length_filter_le _ _) (by simp; omega)
        rw [hp] at hlen
        exact dNe_nilL (k := 3) ⟨by rw [List.length_map]; omega, fun x hx => by
          obtain ⟨y, _, rfl⟩ := List.mem_map.mp hx
          exact True.intro⟩ (by omega)
      have gp := gPop_nat rowT s.1 a [] lt (by omega)
      have own := ok1 _ (List.getElem_mem lt)
      rw [← gD_lt s.1 a [] lt] at own
      have sub := cutL_sub s.1 a
      have cl := sub.length_le
      have okc : ∀ r ∈ cutL s.1 a, r.length = w ∧ ∀ q ∈ r, Bd b q := fun r hr => ok1 r (sub.subset hr)
      generalize cutL s.1 a = cs at *
      generalize s.1.getD a [] = o at *
      have ix : ∀ r : List Rat, r.length = w → dIx (rowT r) (.int (j : Int)) = some (qD (r.getD j 0)) := fun r hr => by
        show atI (r.map qD) (j : Int) = _
        rw [DL.atI_nat, gD_lt _ _ _ (by rw [hr]; exact jw)]
        simp [hr, jw]
      have io := ix o own.1
      have q1 := fun h => quotient_one (h := h) (getD_bd own jw) nz (by omega)
      have t1 := fun h => times_row_ok (h := h) (r := o) (b := (o.getD j 0)⁻¹) own.2 (bd_inv (getD_bd own jw) nz) (by omega) (by rw [own.1]; omega)
      have le := leadQ_bd own jw nz
      have eq : o.map (· * (o.getD j 0)⁻¹) = leadQ o j := rfl
      rw [eq] at t1
      generalize leadQ o j = ld at *
      generalize o.getD j 0 = oc at *
      have plt : p < h1.length := (List.getElem?_eq_some_iff.mp at1).1
      have qlt : h.length + 1 < h1.length := (List.getElem?_eq_some_iff.mp at2).1
      have at3 : (h1.set p (.lst (cs.map rowT)))[p]? = some (.lst (cs.map rowT)) := List.getElem?_set_self plt
      simp at ne
      simp [ne, atI_zero, at1, gp, io, q1, t1, seqOf, at3]
      refine wp_lcM_map rowT (fun r => rowT (lessQ ld j r)) rfl (Chk_one at3) (sz_le (by omega)) (fun r hr => ?_) ?_
      · have okr := okc r hr
        have ir := ix r okr.1
        have t2 := fun h => times_row_ok (h := h) (r := ld) (b := r.getD j 0) le.2 (getD_bd okr jw) (by omega) (by rw [le.1]; omega)
        have t3 := fun h => less_row_ok (h := h) (r := r) (s := ld.map (· * r.getD j 0)) (n := b) (m := 2 * b + b) okr.2 (fun q hq => by
          obtain ⟨x, hx, rfl⟩ := List.mem_map.mp hq
          exact (le.2 x hx).mul (getD_bd okr jw)) (by omega) (by rw [okr.1]; omega)
        have eq : (r.zip (ld.map (· * r.getD j 0))).map (fun x => x.1 - x.2) = lessQ ld j r := rfl
        rw [eq] at t3
        generalize r.getD j 0 = rc at *
        simp [ir, t2, t3]
      have at4 : (h1.set p (.lst (cs.map rowT)) ++ [MO.lst (cs.map fun r => rowT (lessQ ld j r))])[h.length + 1]? = some (.lst (s.2.map rowT)) := by
        rw [List.getElem?_append_left (by rw [List.length_set]; exact qlt), List.getElem?_set_ne pn]
        exact at2
      have gl : s.2.length < sizeLine := Nat.lt_of_le_of_lt (show _ ≤ 1000 by omega) (by rw [sizeLine_eq]; omega)
      simp [at4, gAppend, gl]
      have lq : h.length + 1 < (h1.set p (.lst (cs.map rowT)) ++ [MO.lst (cs.map fun r => rowT (lessQ ld j r))]).length := by simp; omega
      refine ⟨h1.length, _, _, _, rfl, by omega, by omega, by simp; omega, ?_, ?_, ?_⟩
      · rw [List.take_set_of_le (by omega), List.take_append_of_le_length (by rw [List.length_set]; omega), List.take_set_of_le (by omega)]
        exact tk
      · rw [List.getElem?_set_ne (by omega)]
        simp [Function.comp_def]
      · rw [List.getElem?_set_self lq]
        simp
  · rintro ρ h2 ⟨p, x4, x5, x6, rfl, pl, pn, hl, tk, at1, at2⟩
    rw [rng_len] at at1 at2
    have nl : ¬ h.length + 1 < h.length := by omega
    simp [exitV, at2, tk, nl]
end

end W_k03

set_option maxHeartbeats 400000
namespace W_k03
open PySem PySem.Spec PyProof.Rows L2 DL
-- at 03
/-! ### the law's determinants -/
def sgI (f : Nat → Int) : List Nat → (List Nat → Int) → Int
  | [], _ => 0
  | c :: cs, F => f c * F cs - sgI f cs fun x => F (c :: x)
def detI : List (Nat → Int) → List Nat → Int
  | [], [] => 1
  | [], _ :: _ => 0
  | r :: rs, cs => sgI r cs (detI rs)
theorem sg_cast (f : Nat → Int) : ∀ (cs : List Nat) (F : List Nat → Int), ((sgI f cs F : Int) : Rat) = sgS (fun k => (f k : Rat)) cs fun x => (F x : Rat)
  | [], _ => rfl
  | c :: cs, F => by
    have ih := sg_cast f cs fun x => F (c :: x)
    unfold sgI sgS
    rw [Rat.intCast_sub, Rat.intCast_mul, ih]
theorem det_cast : ∀ (fs : List (Nat → Int)) (cs : List Nat), ((detI fs cs : Int) : Rat) = det (fs.map fun f k => (f k : Rat)) cs
  | [], [] => rfl
  | [], _ :: _ => rfl
  | f :: fs, cs => by
    have e : detI (f :: fs) cs = sgI f cs (detI fs) := by cases cs <;> rfl
    rw [e, sg_cast, List.map_cons, det_cons]
    exact sgS_congr fun x _ _ => det_cast fs x
theorem detI_cons (f : Nat → Int) (fs : List (Nat → Int)) (cs : List Nat) : detI (f :: fs) cs = sgI f cs (detI fs) := by cases cs <;> rfl
def sgn : Nat → Int
  | 0 => 1
  | j + 1 => -sgn j
theorem sgn_abs : ∀ j, (sgn j).natAbs = 1
  | 0 => rfl
  | j + 1 => by show (-sgn j).natAbs = 1; rw [Int.natAbs_neg]; exact sgn_abs j
/-- the sum of the first so many -/
def parS (f : Nat → Int) (cs : List Nat) (F : List Nat → Int) : Nat → Int
  | 0 => 0
  | j + 1 => parS f cs F j + sgn j * f (cs.getD j 0) * F (cutL cs j)
theorem par_cons (f : Nat → Int) (c : Nat) (cs : List Nat) (F : List Nat → Int) : ∀ j, parS f (c :: cs) F (j + 1) = f c * F cs - parS f cs (fun x => F (c :: x)) j
  | 0 => by simp [parS, sgn, cutL]
  | j + 1 => by
    have ih := par_cons f c cs F j
    show parS f (c :: cs) F (j + 1) + sgn (j + 1) * f ((c :: cs).getD (j + 1) 0) * F (cutL (c :: cs) (j + 1)) = _ - (parS f cs (fun x => F (c :: x)) j + sgn j * f (cs.getD j 0) * F (c :: cutL cs j))
    have e1 : (c :: cs).getD (j + 1) 0 = cs.getD j 0 := rfl
    have e2 : cutL (c :: cs) (j + 1) = c :: cutL cs j := by simp [cutL]
    have e3 : sgn (j + 1) = -sgn j := rfl
    rw [ih, e1, e2, e3, Int.neg_mul, Int.neg_mul]
    omega
theorem par_all (f : Nat → Int) : ∀ (cs : List Nat) (F : List Nat → Int), parS f cs F cs.length = sgI f cs F
  | [], _ => rfl
  | c :: cs, F => by
    rw [List.length_cons, par_cons, par_all f cs]; rfl
/-- bits of a determinant -/
def dB (b : Nat) : Nat → Nat
  | 0 => 1
  | n + 1 => b + dB b n + (n + 1)
theorem lt_one {i : Int} (h : i.natAbs = 1) : Lt2 1 i := by unfold Lt2; omega
theorem par_bd {f : Nat → Int} {cs : List Nat} {F : List Nat → Int} {b D : Nat} (hf : ∀ c ∈ cs, Lt2 b (f c)) (hF : ∀ j, j < cs.length → Lt2 D (F (cutL cs j))) : ∀ j, j ≤ cs.length → Lt2 (b + D + j) (parS f cs F j)
  | 0, _ => Nat.pow_pos (by decide)
  | j + 1, hj => by
    have ih := par_bd hf hF j (by omega)
    have m : cs.getD j 0 ∈ cs := by rw [gD_lt _ _ _ (by omega)]; exact List.getElem_mem _
    have t : Lt2 (b + D) (sgn j * f (cs.getD j 0) * F (cutL cs j)) := by
      have h1 := hf _ m
      have h2 := hF j (by omega)
      have h3 := h1.mul h2
      unfold Lt2 at *
      rw [Int.natAbs_mul, Int.natAbs_mul, sgn_abs, Nat.one_mul, ← Int.natAbs_mul]
      exact h3
    have := ih.add2 (t.mono (show b + D ≤ b + D + j by omega))
    exact this
theorem cutL_len {α : Type} {l : List α} {j : Nat} (h : j < l.length) : (cutL l j).length = l.length - 1 := by simp [cutL]; omega
theorem det_bd {b : Nat} : ∀ (fs : List (Nat → Int)) (cs : List Nat), cs.length = fs.length → (∀ f ∈ fs, ∀ c ∈ cs, Lt2 b (f c)) → Lt2 (dB b fs.length) (detI fs cs)
  | [], [], _, _ => by show (1 : Int).natAbs < 2 ^ 1; decide
  | f :: fs, cs, hl, hb => by
    rw [detI_cons, ← par_all]
    have ln : cs.length = fs.length + 1 := hl
    have := par_bd (F := detI fs) (D := dB b fs.length) (hb f List.mem_cons_self) (fun j hj => det_bd fs (cutL cs j) (by rw [cutL_len hj]; omega) fun g hg c hc => hb g (List.mem_cons_of_mem _ hg) c ((cutL_sub cs j).subset hc)) cs.length (Nat.le_refl _)
    refine this.mono ?_
    show _ ≤ b + dB b fs.length + (fs.length + 1)
    omega
theorem dB_le {b n m : Nat} (h : n ≤ m) : dB b n ≤ dB b m := by
  induction m with
  | zero => rw [show n = 0 by omega]; exact Nat.le_refl _
  | succ m ih =>
    by_cases e : n = m + 1
    · rw [e]; exact Nat.le_refl _
    · have := ih (by omega)
      show _ ≤ b + dB b m + (m + 1)
      omega
def matD (fs : List (Nat → Int)) (cs : List Nat) : D := .list (fs.map fun f => .list (cs.map fun c => .int (f c)))
section
variable {h : Hs} {E : DL.EP} {Q : Val → Hs → Prop} {b : Nat}
theorem least_ok : ∀ (k : Nat) (fs : List (Nat → Int)) (cs : List Nat) (h : Hs), fs.length < k → fs.length ≤ 10 → cs.length = fs.length → b ≤ 1000 → (∀ f ∈ fs, ∀ c ∈ cs, Lt2 b (f c)) → R__law_least k [.d (matD fs cs)] h = .ok (.d (.int (detI fs cs))) h
  | 0, _, _, _, h, _, _, _, _ => absurd h (by omega)
  | k + 1, [], [], h, _, _, _, _, _ => by
    refine wpR_eq ?_
    unfold R__law_least G__law_least
    rw [wpR_mkF]
    refine ⟨rfl, ?_⟩
    have e : dEq (.list []) (.list []) = some (.bool true) := rfl
    simp [startE, matD, e, detI]
  | k + 1, f :: fs, cs, h, hk, h10, hl, hb, hbits => by
    have ln : cs.length = fs.length + 1 := hl
    have l10 : fs.length ≤ 9 := by simpa using h10
    refine wpR_eq ?_
    unfold R__law_least G__law_least
    rw [wpR_mkF]
    refine ⟨rfl, ?_⟩
    have e : dEq (matD (f :: fs) cs) (.list []) = some (.bool false) := by
      unfold dEq
      rw [if_pos ⟨shaped_ok (k := 4) (e := (by
        refine ⟨by rw [List.length_map]; simp; omega, fun x hx => ?_⟩
        obtain ⟨g, _, rfl⟩ := List.mem_map.mp hx
        refine ⟨by rw [List.length_map]; omega, fun y hy => ?_⟩
        obtain ⟨c, _, rfl⟩ := List.mem_map.mp hy
        exact True.intro : okD 4 (matD (f :: fs) cs))) (by omega), rfl⟩]
      rfl
    have ih := fun j (hj : j < cs.length) h => least_ok k fs (cutL cs j) h (by simp at hk; omega) (by omega) (by rw [cutL_len hj]; omega) hb fun g hg c hc => hbits g (List.mem_cons_of_mem _ hg) c ((cutL_sub cs j).subset hc)
    have db : ∀ j, j < cs.length → Lt2 (dB b fs.length) (detI fs (cutL cs j)) := fun j hj => det_bd fs (cutL cs j) (by rw [cutL_len hj]; omega) fun g hg c hc => hbits g (List.mem_cons_of_mem _ hg) c ((cutL_sub cs j).subset hc)
    have hf : ∀ c ∈ cs, Lt2 b (f c) := hbits f List.mem_cons_self
    have dB20 : dB b fs.length ≤ 20000 := by
      refine Nat.le_trans (dB_le l10) ?_
      show b + (b + (b + (b + (b + (b + (b + (b + (b + 1 + 1) + 2) + 3) + 4) + 5) + 6) + 7) + 8) + 9 ≤ _
      omega
    rw [detI_cons, ← par_all]
    have vl : ∀ h, vS (.d (matD (f :: fs) cs)) h = some (.list ((f :: fs).map fun f => .list (cs.map fun c => .int (f c)))) := fun _ => rfl
    have sl0 : dSl (matD (f :: fs) cs) (some 1) none = some (matD fs cs) := by
      have := cut_hi ((f :: fs).map fun f => PyData.list (cs.map fun c => .int (f c))) 1
      show some (PyData.list (DL.cutD _ (some 1) none)) = _
      rw [show (1 : Int) = ((1 : Nat) : Int) from rfl, this]; rfl
    have i0 : dIx (matD (f :: fs) cs) (.int 0) = some (.list (cs.map fun c => .int (f c))) := by
      show atI ((f :: fs).map fun f => PyData.list (cs.map fun c => .int (f c))) 0 = _
      rw [List.map_cons, atI_zero]
    generalize hmd : matD (f :: fs) cs = md at *
    have sm : smallI ((fs.length : Int) + 1) = true := small_nat (k := fs.length + 1) (by omega)
    simp [startE, e, vl, sm]
    refine wp_for0 (fun j ρ h' => ∃ x3 x4, h' = h ∧ ρ = [some (.d md), some (.d (.int (parS f cs (detI fs) j))), some (.d (.int (sgn j))), x3, x4, none]) (fun _ _ _ _ => Chk_nil _) ⟨none, none, rfl, rfl⟩ ?_ ?_
    · rintro j dd ρ h' hd ⟨x3, x4, rfl, rfl⟩
      obtain ⟨hj, rfl⟩ := rng_get hd
      have jc : j < cs.length := by omega
      have sq : seqOf (.d (matD fs cs)) h' = some (fs.map fun f => .list (cs.map fun c => .int (f c)), []) := rfl
      simp [sl0, sq]
      refine wp_lc_map (fun g : Nat → Int => .list (cs.map fun c => .int (g c))) (fun g => .list ((cutL cs j).map fun c => .int (g c))) rfl (Chk_nil _) (sz_le (by omega)) (fun g hg => ?_) ?_
      · have s1 : dSl (.list (cs.map fun c => PyData.int (g c))) none (some (j : Int)) = some (.list ((cs.map fun c => PyData.int (g c)).take j)) := by
          show some (PyData.list (DL.cutD _ none (some (j : Int)))) = _
          rw [cut_lo]
        have s2 : dSl (.list (cs.map fun c => PyData.int (g c))) (some ((j : Int) + 1)) none = some (.list ((cs.map fun c => PyData.int (g c)).drop (j + 1))) := by
          have := cut_hi (cs.map fun c => PyData.int (g c)) (j + 1)
          show some (PyData.list (DL.cutD _ (some ((j : Int) + 1)) none)) = _
          rw [show ((j : Int) + 1) = ((j + 1 : Nat) : Int) by omega, this]
        have ad : dAdd (.list ((cs.map fun c => PyData.int (g c)).take j)) (.list ((cs.map fun c => PyData.int (g c)).drop (j + 1))) = some (.list ((cutL cs j).map fun c => .int (g c))) := by
          show (if _ then _ else _) = _
          rw [if_pos (sz_le (by simp; omega))]
          simp [cutL]
        simp [s1, s2, ad]
      have em : PyData.list (fs.map fun g => .list ((cutL cs j).map fun c => .int (g c))) = matD fs (cutL cs j) := rfl
      have ih' := ih j jc
      have ix : atI (cs.map fun c => PyData.int (f c)) (j : Int) = some (.int (f (cs.getD j 0))) := by
        rw [DL.atI_nat, gD_lt _ _ _ jc]; simp [jc]
      have m : cs.getD j 0 ∈ cs := by rw [gD_lt _ _ _ jc]; exact List.getElem_mem _
      have d1 := dMul_of (lt_one (sgn_abs j)) (hf _ m) (by omega)
      have d2 := dMul_of ((lt_one (sgn_abs j)).mul (hf _ m)) (db j jc) (by omega)
      have ps : parS f cs (detI fs) (j + 1) = parS f cs (detI fs) j + sgn j * f (cs.getD j 0) * detI fs (cutL cs j) := rfl
      have sg : sgn (j + 1) = -sgn j := rfl
      rw [em, ps, sg]
      generalize matD fs (cutL cs j) = md2 at *
      generalize detI fs (cutL cs j) = z at *
      generalize f (cs.getD j 0) = y at *
      simp [i0, ix, d1, d2, ih']
    · rintro ρ h' ⟨x3, x4, rfl, rfl⟩
      rw [rng_len, ← ln]
      simp
end

end W_k03

set_option maxHeartbeats 400000
namespace W_k03
open PySem PySem.Spec PyProof.Rows L2 DL
-- at 03
/-! ### the law's choices -/
def loP (x : List Nat) : Nat := if x = [] then 0 else x.getLastD 0 + 1
def nextP (many : Nat) (x : List Nat) : List (List Nat) := (List.range (many - loP x)).map fun k => x ++ [loP x + k]
def picksL (many : Nat) : Nat → List (List Nat)
  | 0 => [[]]
  | s + 1 => (picksL many s).flatMap (nextP many)
def subsL : List Nat → List (List Nat)
  | [] => [[]]
  | c :: cs => subsL cs ++ (subsL cs).map (c :: ·)
theorem mem_subs {T l : List Nat} (h : T.Sublist l) : T ∈ subsL l := by
  induction h with
  | slnil => exact List.mem_cons_self
  | cons c _ ih => exact List.mem_append_left _ ih
  | cons_cons c _ ih => exact List.mem_append_right _ (List.mem_map_of_mem ih)
theorem of_subs : ∀ {l T : List Nat}, T ∈ subsL l → T.Sublist l
  | [], T, h => by
    have : T = [] := by simpa [subsL] using h
    rw [this]
    exact List.Sublist.slnil
  | c :: cs, T, h => by
    rcases List.mem_append.mp h with h | h
    · exact (of_subs h).cons c
    · obtain ⟨x, hx, rfl⟩ := List.mem_map.mp h
      exact (of_subs hx).cons_cons c
theorem picks_facts : ∀ many ∈ List.range 7, (∀ T ∈ subsL (List.range many), T ∈ picksL many T.length) ∧ ∀ s ∈ List.range 7, (picksL many s).length ≤ 20 ∧ ∀ x ∈ picksL many s, x ∈ subsL (List.range many) ∧ x.length = s := by decide +kernel
theorem picks_mem {many s : Nat} (hm : many ≤ 6) (hs : s ≤ 6) (x : List Nat) : x ∈ picksL many s ↔ x.Sublist (List.range many) ∧ x.length = s := by
  obtain ⟨a, b⟩ := picks_facts many (by simp; omega)
  obtain ⟨c, d⟩ := b s (by simp; omega)
  constructor
  · intro h
    exact ⟨of_subs (d x h).1, (d x h).2⟩
  · rintro ⟨h, rfl⟩
    exact a x (mem_subs h)
theorem picks_len {many s : Nat} (hm : many ≤ 6) (hs : s ≤ 6) : (picksL many s).length ≤ 20 := ((picks_facts many (by simp; omega)).2 s (by simp; omega)).1
def natsD (x : List Nat) : D := .list (x.map fun k : Nat => .int (k : Int))
theorem take_flat {α β : Type} (f : α → List β) (l : List α) (i : Nat) : ((l.take i).flatMap f).length ≤ (l.flatMap f).length := by
  have e : l.flatMap f = (l.take i).flatMap f ++ (l.drop i).flatMap f := by rw [← List.flatMap_append, List.take_append_drop]
  rw [e, List.length_append]
  omega
section
variable {h : Hs} {E : DL.EP} {Q : Val → Hs → Prop} {b : Nat}
theorem law_picks_ok {many size : Nat} (hm : many ≤ 6) (hs : size ≤ 6) : F__law_picks [.d (.int many), .d (.int size)] h = .ok (.d (.list ((picksL many size).map natsD))) h := by
  refine wpR_eq ?_
  unfold F__law_picks G__law_picks
  rw [wpR_mkF]
  refine ⟨rfl, ?_⟩
  simp [startE, sz_le, small_nat (show size ≤ 100000 by omega)]
  refine wp_for0 (fun s ρ h' => ∃ x3 x4 x5, h' = h ∧ ρ = [some (.d (.int many)), some (.d (.int size)), some (.d (.list ((picksL many s).map natsD))), x3, x4, x5, none]) (fun _ _ _ _ => Chk_nil _) ⟨none, none, none, rfl, rfl⟩ ?_ ?_
  · rintro s dd ρ h' hd ⟨x3, x4, x5, rfl, rfl⟩
    obtain ⟨hj, rfl⟩ := rng_get hd
    have pl := picks_len hm (show s ≤ 6 by omega)
    have pl1 := picks_len hm (show s + 1 ≤ 6 by omega)
    have el : ∀ x ∈ picksL many s, x.length = s := fun x hx => ((picks_mem hm (by omega) x).mp hx).2
    have eb : ∀ x ∈ picksL many s, ∀ a ∈ x, a < many := fun x hx a ha => by
      simpa using ((picks_mem hm (by omega) x).mp hx).1.subset ha
    have ep : picksL many (s + 1) = (picksL many s).flatMap (nextP many) := rfl
    rw [ep] at pl1 ⊢
    generalize picksL many s = ps at *
    have sq : seqOf (.d (.list (ps.map natsD))) h' = some (ps.map natsD, []) := rfl
    simp [sz_le, sq]
    refine wp_for0 (fun i ρ h'' => ∃ x5, h'' = h' ∧ ρ = [some (.d (.int many)), some (.d (.int size)), some (.d (.list (ps.map natsD))), some (.d (.int s)), some (.d (.list (((ps.take i).flatMap (nextP many)).map natsD))), x5, none]) (fun _ _ _ _ => Chk_nil _) ⟨_, rfl, rfl⟩ ?_ ?_
    · rintro i dd ρ h'' hd ⟨x5, rfl, rfl⟩
      obtain ⟨x, hx, rfl⟩ : ∃ x, ps[i]? = some x ∧ natsD x = dd := by simpa using hd
      have xm := List.mem_of_getElem? hx
      have xl := el x xm
      have xb := eb x xm
      have ok : okD 3 (natsD x) := ⟨by rw [List.length_map]; omega, fun y hy => by
        obtain ⟨c, _, rfl⟩ := List.mem_map.mp hy
        exact True.intro⟩
      have ne : dNe (natsD x) (.list []) = some (.bool (!(x.map fun k : Nat => PyData.int (k : Int)).isEmpty)) := dNe_nilL ok (by omega)
      have e2 : (ps.take (i + 1)).flatMap (nextP many) = (ps.take i).flatMap (nextP many) ++ nextP many x := by
        rw [List.take_succ, hx, List.flatMap_append]; simp
      have tl := take_flat (nextP many) ps (i + 1)
      rw [e2] at tl ⊢
      have lo : loP x ≤ many := by
        unfold loP
        split
        · omega
        · rename_i nz
          have := xb (x.getLastD 0) (by
            rw [List.getLastD_eq_getLast?, List.getLast?_eq_some_getLast nz]
            exact List.getLast_mem nz)
          omega
      have cut : DL.wpS (sSet 4 (eOp dAdd (eVar 4) (eLc [6] (iRng rangeOf2 (aCons (eIf (tVal (eOp dNe (eVar 5) (eLst aNil))) (eOp dAdd (eIx (eVar 5) (eUn dNeg (eC (.int 1)))) (eC (.int 1))) (eC (.int 0))) (aCons (eVar 0) aNil))) (gN 6) tYesD (eOp dAdd (eVar 5) (eLst (aCons (eVar 6) aNil)))))
          [some (.d (.int many)), some (.d (.int size)), some (.d (.list (ps.map natsD))), some (.d (.int s)), some (.d (.list (((ps.take i).flatMap (nextP many)).map natsD))), some (.d (natsD x)), none] h'')
          ⟨fun ρ hh => hh = h'' ∧ ρ = [some (.d (.int many)), some (.d (.int size)), some (.d (.list (ps.map natsD))), some (.d (.int s)), some (.d (.list (((ps.take i).flatMap (nextP many) ++ nextP many x).map natsD))), some (.d (natsD x)), none], fun _ _ => False, fun _ _ _ _ => False, fun _ _ => False, fun _ _ => False⟩ := by
        have fin : ∀ (Q : Val → Hs → Prop) E, Q (.d (.list ((nextP many x).map natsD))) h'' → wpR (mkL (compR [] (gN 6) tYesD (eOp dAdd (eVar 5) (eLst (aCons (eVar 6) aNil))) [some (.d (.int many)), some (.d (.int size)), some (.d (.list (ps.map natsD))), some (.d (.int s)), some (.d (.list (((ps.take i).flatMap (nextP many)).map natsD))), some (.d (natsD x)), none] (rng (loP x : Nat) (many - loP x)) h'' [])) Q E := by
          intro Q E q
          refine wp_lc_map (fun k : Nat => .int ((loP x : Nat) + (k : Nat) : Int)) (fun k => natsD (x ++ [loP x + k])) (l := List.range (many - loP x)) rfl (Chk_nil _) (sz_le (by simp; omega)) (fun k hk => ?_) ?_
          · have ad : dAdd (natsD x) (.list [.int ((loP x : Nat) + (k : Nat) : Int)]) = some (natsD (x ++ [loP x + k])) := by
              show (if _ then _ else _) = _
              rw [if_pos (sz_le (by simp; omega))]
              simp [natsD]
            simp [sz_le, ad]
          · have : ((List.range (many - loP x)).map fun k => natsD (x ++ [loP x + k])) = (nextP many x).map natsD := by simp [nextP, Function.comp_def]
            rw [this]
            exact q
        have ads : dAdd (.list (((ps.take i).flatMap (nextP many)).map natsD)) (.list ((nextP many x).map natsD)) = some (.list (((ps.take i).flatMap (nextP many) ++ nextP many x).map natsD)) := by
          show (if _ then _ else _) = _
          rw [if_pos (sz_le (by simp at tl pl1 ⊢; omega))]
          simp
        have sm := small_nat (show many ≤ 100000 by omega)
        have sl := small_nat (show loP x ≤ 100000 by omega)
        have tn : ((many : Int) - ((loP x : Nat) : Int)).toNat = many - loP x := by omega
        by_cases hz : x = []
        · subst hz
          have l0 : loP [] = 0 := rfl
          rw [l0] at fin
          have s0 : smallI 0 = true := small_nat (k := 0) (by omega)
          have ne : dNe (natsD []) (.list []) = some (.bool false) := by simpa using ne
          have fin0 : ∀ (Q : Val → Hs → Prop) E, Q (.d (.list ((nextP many []).map natsD))) h'' → wpR (mkL (compR [] (gN 6) tYesD (eOp dAdd (eVar 5) (eLst (aCons (eVar 6) aNil))) [some (.d (.int many)), some (.d (.int size)), some (.d (.list (ps.map natsD))), some (.d (.int s)), some (.d (.list (((ps.take i).flatMap (nextP many)).map natsD))), some (.d (natsD [])), none] (rng 0 many) h'' [])) Q E := fun Q E q => by
            have := fin Q E q
            simpa using this
          simp only [List.map_append] at ads
          simp [sz_le, ne, sm, s0]
          refine fin0 _ _ ?_
          simp [ads]
        · have lx : loP x = x.getLastD 0 + 1 := if_neg hz
          have ne : dNe (natsD x) (.list []) = some (.bool true) := by
            rw [ne]
            cases x with
            | nil => exact absurd rfl hz
            | cons _ _ => rfl
          have ia : dIx (natsD x) (.int (-1)) = some (.int (x.getLastD 0 : Nat)) := by
            have eg : x = x.dropLast ++ [x.getLastD 0] := by
              rw [List.getLastD_eq_getLast?, List.getLast?_eq_some_getLast hz]
              exact (List.dropLast_concat_getLast hz).symm
            show atI (x.map fun k : Nat => PyData.int (k : Int)) (-1) = _
            rw [eg, List.map_append]
            simp [atI_last]
          have le : ((loP x : Nat) : Int) = ((x.getLastD 0 : Nat) : Int) + 1 := by rw [lx]; omega
          rw [le] at tn sl fin
          simp only [List.map_append] at ads
          generalize x.getLastD 0 = y at *
          simp [sz_le, ne, ia, sm, sl, tn]
          refine fin _ _ ?_
          simp [ads]
      rw [gN_at, wpR_ok]
      refine DL.wpS_mono cut ?_ (fun _ _ z => z.elim) (fun _ _ _ _ z => z.elim) (fun _ _ z => z.elim) (fun _ _ z => z.elim)
      rintro ρ hh ⟨rfl, rfl⟩
      exact ⟨_, rfl, rfl⟩
    · rintro ρ h'' ⟨x5, rfl, rfl⟩
      rw [List.length_map, List.take_length]
      simp
  · rintro ρ h' ⟨x3, x4, x5, rfl, rfl⟩
    rw [rng_len]
    simp
end

end W_k03

set_option maxHeartbeats 400000
namespace W_k03
open PySem PySem.Spec PyProof.Rows L2 DL
-- at 03
/-! ### the law's rank -/
def castR (r : List Int) : List Rat := r.map fun x : Int => (x : Rat)
def funI (rows : List (List Int)) (i : Nat) : Nat → Int := fun k => (rows.getD i []).getD k 0
def HitB (rows : List (List Int)) (p c : List Nat) : Prop := detI (p.map (funI rows)) c ≠ 0
def Hit (rows : List (List Int)) (w s : Nat) : Prop := ∃ p ∈ picksL rows.length s, ∃ c ∈ picksL w s, HitB rows p c
def rkE (rows : List (List Int)) (w : Nat) : Nat := (elimQ (rows.map castR) (List.range w)).2.length
theorem sub_perm {α : Type} {S L : List α} (h : S.Sublist L) : ∃ R, (S ++ R).Perm L := by
  induction h with
  | slnil => exact ⟨[], .refl _⟩
  | cons a _ ih =>
    obtain ⟨R, hR⟩ := ih
    exact ⟨a :: R, (perm_mid _ _ _).trans (hR.cons a)⟩
  | cons_cons a _ ih =>
    obtain ⟨R, hR⟩ := ih
    exact ⟨R, hR.cons a⟩
theorem fn_cast (rows : List (List Int)) : (rows.map castR).map fnR = (List.range rows.length).map fun i k => ((funI rows i k : Int) : Rat) := by
  apply List.ext_getElem (by simp)
  intro i h1 h2
  have hi : i < rows.length := by simpa using h1
  simp only [List.getElem_map, List.getElem_range]
  funext k
  show (castR rows[i]).getD k 0 = (((rows.getD i []).getD k 0 : Int) : Rat)
  rw [gD_lt _ _ _ hi]
  unfold castR
  by_cases hk : k < rows[i].length
  · rw [gD_lt _ _ _ (by simpa using hk), gD_lt _ _ _ hk]
    simp
  · rw [gD_ge _ _ _ (by simpa using hk), gD_ge _ _ _ (by omega)]; rfl
theorem hit_minor {rows : List (List Int)} {w s : Nat} (hn : rows.length ≤ 6) (hw : w ≤ 6) (hs : s ≤ 6) : Hit rows w s ↔ Minor s ((rows.map castR).map fnR) (List.range w) := by
  have cast : ∀ (p c : List Nat), HitB rows p c ↔ det (p.map fun i k => ((funI rows i k : Int) : Rat)) c ≠ 0 := fun p c => by
    have := det_cast (p.map (funI rows)) c
    rw [List.map_map] at this
    have e : ((fun (f : Nat → Int) k => ((f k : Int) : Rat)) ∘ funI rows) = fun i k => ((funI rows i k : Int) : Rat) := rfl
    rw [e] at this
    rw [← this]
    unfold HitB
    constructor
    · intro a b
      exact a (Rat.intCast_eq_zero_iff.mp b)
    · intro a b
      exact a (by rw [b]; rfl)
  rw [fn_cast]
  constructor
  · rintro ⟨p, hp, c, hc, hh⟩
    obtain ⟨ps, pl⟩ := (picks_mem hn hs p).mp hp
    obtain ⟨cs, cl⟩ := (picks_mem hw hs c).mp hc
    obtain ⟨R, hR⟩ := sub_perm ps
    have hR := hR.map fun i k => ((funI rows i k : Int) : Rat)
    rw [List.map_append] at hR
    exact ⟨_, _, c, hR, cs, by simpa using pl, cl, (cast p c).mp hh⟩
  · rintro ⟨S, R, T, a, b, c, d, e⟩
    obtain ⟨R', h1, h2⟩ := perm_of_map a rfl
    obtain ⟨S', R0, rfl, e1, e2⟩ : ∃ S' R0, R' = S' ++ R0 ∧ S'.map (fun i k => ((funI rows i k : Int) : Rat)) = S ∧ R0.map (fun i k => ((funI rows i k : Int) : Rat)) = R := by
      obtain ⟨a, b, c, d, e⟩ := List.map_eq_append_iff.mp h2
      exact ⟨a, b, c, d, e⟩
    have nd : (S' ++ R0).Nodup := h1.nodup_iff.mpr List.nodup_range
    have f1 : (S' ++ R0).filter (fun x => decide (x ∈ S')) = S' := by
      rw [List.filter_append]
      have a1 : S'.filter (fun x => decide (x ∈ S')) = S' := List.filter_eq_self.mpr fun x hx => by simpa using hx
      have a2 : R0.filter (fun x => decide (x ∈ S')) = [] := List.filter_eq_nil_iff.mpr fun x hx => by
        have := (List.nodup_append.mp nd).2.2
        intro m
        exact this x (by simpa using m) x hx rfl
      rw [a1, a2, List.append_nil]
    have pm := h1.filter fun x => decide (x ∈ S')
    rw [f1] at pm
    have sl : S'.length = s := by rw [← c, ← e1, List.length_map]
    refine ⟨(List.range rows.length).filter (fun x => decide (x ∈ S')), (picks_mem hn hs _).mpr ⟨List.filter_sublist, by rw [← pm.length_eq]; exact sl⟩, T, (picks_mem hw hs T).mpr ⟨b, d⟩, (cast _ _).mpr ?_⟩
    rw [← e1] at e
    exact (det_perm_ne (pm.map _) T).mp e
theorem rk_minor {rows : List (List Int)} {w : Nat} (hl : ∀ r ∈ rows, r.length = w) (k : Nat) : Minor k ((rows.map castR).map fnR) (List.range w) ↔ k ≤ rkE rows w := by
  have := minor_elim (w := w) (List.range w) (rows.map castR) [] (fun r hr => by
    obtain ⟨x, hx, rfl⟩ := List.mem_map.mp hr
    simpa [castR] using hl x hx) k
  rw [this]
  simp [rkE, elimQ]
theorem rk_le {rows : List (List Int)} {w : Nat} (hl : ∀ r ∈ rows, r.length = w) : rkE rows w ≤ rows.length ∧ rkE rows w ≤ w := by
  obtain ⟨S, R, T, a, b, c, d, e⟩ := (rk_minor hl (rkE rows w)).mpr (Nat.le_refl _)
  have h1 := a.length_eq
  have h2 := b.length_le
  simp at h1 h2
  omega
/-- the greatest size with a hit -/
theorem rk_of {rows : List (List Int)} {w s : Nat} (hl : ∀ r ∈ rows, r.length = w) (hn : rows.length ≤ 6) (hw : w ≤ 6) (hs : s ≤ rows.length ∧ s ≤ w) (h : Hit rows w s) (no : ∀ t, s < t → t ≤ rows.length → t ≤ w → ¬ Hit rows w t) : rkE rows w = s := by
  have a := (rk_minor hl s).mp ((hit_minor hn hw (by omega)).mp h)
  have b := rk_le hl
  refine Classical.byContradiction fun ne => ?_
  have : s + 1 ≤ rkE rows w := by omega
  exact no (s + 1) (by omega) (by omega) (by omega) ((hit_minor hn hw (by omega)).mpr ((rk_minor hl _).mpr this))
theorem rk_zero {rows : List (List Int)} {w : Nat} (hl : ∀ r ∈ rows, r.length = w) (hn : rows.length ≤ 6) (hw : w ≤ 6) (no : ∀ t, 0 < t → t ≤ rows.length → t ≤ w → ¬ Hit rows w t) : rkE rows w = 0 := by
  have b := rk_le hl
  refine Classical.byContradiction fun ne => ?_
  have : 1 ≤ rkE rows w := by omega
  exact no 1 (by omega) (by omega) (by omega) ((hit_minor hn hw (by omega)).mpr ((rk_minor hl _).mpr this))

end W_k03

set_option maxHeartbeats 400000
namespace W_k03
open PySem PySem.Spec PyProof.Rows L2 DL
-- at 03
/-! ### the law's rank, by its code -/
theorem rngC_get {m j : Nat} {d : D} (h : (rngC (m : Int) (-1) m)[j]? = some d) : j < m ∧ d = .int ((m - j : Nat) : Int) := by
  unfold rngC at h
  rw [List.getElem?_map] at h
  by_cases hj : j < m
  · rw [List.getElem?_range hj] at h
    have : d = .int ((m : Int) + (j : Nat) * (-1)) := by simpa using h.symm
    exact ⟨hj, by rw [this]; congr 1; omega⟩
  · rw [List.getElem?_eq_none (by simpa using hj)] at h
    cases h
def rowI2 (r : List Int) : D := .list (r.map .int)
section
variable {h : Hs} {E : DL.EP} {Q : Val → Hs → Prop} {b : Nat}
theorem law_rank_ok {rows : List (List Int)} {w : Nat} (hl : ∀ r ∈ rows, r.length = w) (hb : ∀ r ∈ rows, ∀ x ∈ r, Lt2 b x) (hn : rows.length ≤ 6) (hw : w ≤ 6) (hbb : b ≤ 1000) : F__law_rank [.d (.list (rows.map rowI2)), .d (.int w)] h = .ok (.d (.int (rkE rows w))) h := by
  refine wpR_eq ?_
  unfold F__law_rank G__law_rank
  rw [wpR_mkF]
  refine ⟨rfl, ?_⟩
  obtain ⟨m, em, hm1, hm2, hmm⟩ : ∃ m : Nat, (if (w : Int) < (rows.length : Int) then (w : Int) else (rows.length : Int)) = (m : Int) ∧ m ≤ rows.length ∧ m ≤ w ∧ ∀ t, t ≤ rows.length → t ≤ w → t ≤ m := by
    by_cases c : (w : Int) < (rows.length : Int)
    · exact ⟨w, by rw [if_pos c], by omega, by omega, fun t a b => b⟩
    · exact ⟨rows.length, by rw [if_neg c], by omega, by omega, fun t a b => a⟩
  have vl : ∀ h, vS (.d (.list (rows.map rowI2))) h = some (.list (rows.map rowI2)) := fun _ => rfl
  have em' : (if w < rows.length then (w : Int) else (rows.length : Int)) = (m : Int) := by
    rw [← em]
    by_cases c : w < rows.length
    · rw [if_pos c, if_pos (by omega)]
    · rw [if_neg c, if_neg (by omega)]
  have s0 : smallI 0 = true := small_nat (k := 0) (by omega)
  have r0 : rangeOfD [.d (.int (m : Int)), .d (.int 0), .d (.int (-1))] = some (rngC (m : Int) (-1) m) := by
    unfold rangeOfD
    simp [small_nat (show m ≤ 100000 by omega), s0]
  simp [startE, vl, em, em', r0]
  have gI : ∀ (i j : Nat), i < rows.length → j < w → atI (rows.map rowI2) (i : Int) = some (rowI2 (rows.getD i [])) ∧ dIx (rowI2 (rows.getD i [])) (.int (j : Int)) = some (.int (funI rows i j)) := fun i j hi hj => by
    have lr := hl _ (List.getElem_mem hi)
    refine ⟨by rw [DL.atI_nat, gD_lt _ _ _ hi]; simp [hi], ?_⟩
    unfold funI
    rw [gD_lt _ _ _ hi]
    show atI (rows[i].map PyData.int) (j : Int) = _
    rw [DL.atI_nat, gD_lt _ _ _ (by omega)]
    simp [lr, hj]
  have fb : ∀ (i j : Nat), i < rows.length → j < w → Lt2 b (funI rows i j) := fun i j hi hj => by
    have lr := hl _ (List.getElem_mem hi)
    unfold funI
    rw [gD_lt _ _ _ hi, gD_lt _ _ _ (by omega)]
    exact hb _ (List.getElem_mem hi) _ (List.getElem_mem _)
  refine wp_for0 (fun j ρ h' => ∃ x2 x3 x4, h' = h ∧ ρ = [some (.d (.list (rows.map rowI2))), some (.d (.int w)), x2, x3, x4, none, none] ∧ ∀ t, m - j < t → t ≤ m → ¬ Hit rows w t) (fun _ _ _ _ => Chk_nil _) ⟨none, none, none, rfl, rfl, fun t a b => by omega⟩ ?_ ?_
  · rintro j dd ρ h' hd ⟨x2, x3, x4, rfl, rfl, no⟩
    obtain ⟨hj, rfl⟩ := rngC_get hd
    generalize hs : m - j = s at *
    have s6 : s ≤ 6 := by omega
    have pk1 := fun h => law_picks_ok (h := h) hn s6
    have pk2 := fun h => law_picks_ok (h := h) hw s6
    have sq : ∀ (l : List (List Nat)) h, seqOf (.d (.list (l.map natsD))) h = some (l.map natsD, []) := fun _ _ => rfl
    simp [vl, pk1, sq]
    refine wp_for0 (fun i ρ h'' => ∃ x3 x4, h'' = h' ∧ ρ = [some (.d (.list (rows.map rowI2))), some (.d (.int w)), some (.d (.int s)), x3, x4, none, none] ∧ ∀ p ∈ (picksL rows.length s).take i, ∀ c ∈ picksL w s, ¬ HitB rows p c) (fun _ _ _ _ => Chk_nil _) ⟨_, _, rfl, rfl, fun p hp => by simp at hp⟩ ?_ ?_
    · rintro i dd ρ h'' hd ⟨y3, y4, rfl, rfl, no1⟩
      obtain ⟨p, hp, rfl⟩ : ∃ p, (picksL rows.length s)[i]? = some p ∧ natsD p = dd := by simpa using hd
      have pm := List.mem_of_getElem? hp
      obtain ⟨psub, plen⟩ := (picks_mem hn s6 p).mp pm
      have pb : ∀ a ∈ p, a < rows.length := fun a ha => by simpa using psub.subset ha
      simp [pk2, sq]
      refine wp_for0 (fun k ρ h3 => ∃ x4, h3 = h'' ∧ ρ = [some (.d (.list (rows.map rowI2))), some (.d (.int w)), some (.d (.int s)), some (.d (natsD p)), x4, none, none] ∧ ∀ c ∈ (picksL w s).take k, ¬ HitB rows p c) (fun _ _ _ _ => Chk_nil _) ⟨_, rfl, rfl, fun c hc => by simp at hc⟩ ?_ ?_
      · rintro k dd ρ h3 hd ⟨z4, rfl, rfl, no2⟩
        obtain ⟨c, hc, rfl⟩ : ∃ c, (picksL w s)[k]? = some c ∧ natsD c = dd := by simpa using hd
        have cm := List.mem_of_getElem? hc
        obtain ⟨csub, clen⟩ := (picks_mem hw s6 c).mp cm
        have cb : ∀ a ∈ c, a < w := fun a ha => by simpa using csub.subset ha
        have lo := fun h => least_ok (b := b) 12 (p.map (funI rows)) c h (by simp; omega) (by simp; omega) (by simp; omega) hbb (fun f hf a ha => by
          obtain ⟨i, hi, rfl⟩ := List.mem_map.mp hf
          exact fb i a (pb i hi) (cb a ha))
        have sp : seqOf (.d (natsD p)) h3 = some (p.map fun k : Nat => .int (k : Int), []) := rfl
        have sc : seqOf (.d (natsD c)) h3 = some (c.map fun k : Nat => .int (k : Int), []) := rfl
        have lo : ∀ h, F__law_least [.d (matD (p.map (funI rows)) c)] h = .ok (.d (.int (detI (p.map (funI rows)) c))) h := lo
        simp [sp]
        refine wp_lc_map (fun k : Nat => .int (k : Int)) (fun i => .list (c.map fun k => .int (funI rows i k))) rfl (Chk_nil _) (sz_le (by omega)) (fun i hi => ?_) ?_
        · simp [sc]
          refine wp_lc_map (fun k : Nat => .int (k : Int)) (fun k => .int (funI rows i k)) rfl (Chk_nil _) (sz_le (by omega)) (fun k hk => ?_) ⟨rfl, rfl⟩
          obtain ⟨g1, g2⟩ := gI i k (pb i hi) (cb k hk)
          generalize rows.getD i [] = ri at *
          simp [g1, g2]
        have em : PyData.list (p.map fun i => .list (c.map fun k => .int (funI rows i k))) = matD (p.map (funI rows)) c := by simp [matD, Function.comp_def]
        rw [em]
        by_cases hh : HitB rows p c
        · have hh' : ¬ detI (p.map (funI rows)) c = 0 := hh
          have z := rk_of hl hn hw ⟨by omega, by omega⟩ ⟨p, pm, c, cm, hh⟩ fun t a b d => no t a (hmm t b d)
          simp [lo, dNe_int, hh', z]
        · have hh' : detI (p.map (funI rows)) c = 0 := Classical.not_not.mp hh
          simp [lo, dNe_int, hh']
          intro x hx
          rw [List.take_succ, hc] at hx
          rcases List.mem_append.mp hx with hx | hx
          · exact no2 x hx
          · have : x = c := by simpa using hx
            rw [this]
            exact hh
      · rintro ρ h3 ⟨z4, rfl, rfl, no2⟩
        rw [List.length_map, List.take_length] at no2
        refine ⟨_, _, rfl, rfl, fun q hq c hc => ?_⟩
        rw [List.take_succ, hp] at hq
        rcases List.mem_append.mp hq with hq | hq
        · exact no1 q hq c hc
        · have : q = p := by simpa using hq
          rw [this]
          exact no2 c hc
    · rintro ρ h'' ⟨y3, y4, rfl, rfl, no1⟩
      rw [List.length_map, List.take_length] at no1
      refine ⟨_, _, _, rfl, rfl, fun t a b => ?_⟩
      by_cases e : t = s
      · rw [e]
        rintro ⟨p, hp, c, hc, hh⟩
        exact no1 p hp c hc hh
      · exact no t (by omega) b
  · rintro ρ h' ⟨x2, x3, x4, rfl, rfl, no⟩
    have : (rngC (m : Int) (-1) m).length = m := by simp [rngC]
    rw [this] at no
    have z := rk_zero hl hn hw fun t a b c => no t (by omega) (hmm t b c)
    simp [z]
end

end W_k03

set_option maxHeartbeats 400000
namespace W_k03
open PySem PySem.Spec PyProof.Rows L2 DL
-- at 03
/-! ### the program's rank, and whether all are met at once -/
theorem sgS_on {r s : Rw} : ∀ {cs : List Nat} {F : List Nat → Rat}, (∀ c ∈ cs, r c = s c) → sgS r cs F = sgS s cs F
  | [], _, _ => rfl
  | c :: cs, F, h => by
    unfold sgS
    rw [h c List.mem_cons_self, sgS_on fun x m => h x (List.mem_cons_of_mem _ m)]
theorem det_on {α : Type} {f g : α → Rw} : ∀ (S : List α) (cs : List Nat), (∀ x ∈ S, ∀ c ∈ cs, f x c = g x c) → det (S.map f) cs = det (S.map g) cs
  | [], _, _ => rfl
  | x :: S, cs, h => by
    rw [List.map_cons, List.map_cons, det_cons, det_cons, sgS_on (h x List.mem_cons_self)]
    exact sgS_congr fun y hy _ => det_on S y fun z hz c hc => h z (List.mem_cons_of_mem _ hz) c (hy.subset hc)
theorem minor_on {α : Type} {f g : α → Rw} {A : List α} {cs : List Nat} {k : Nat} (h : ∀ x ∈ A, ∀ c ∈ cs, f x c = g x c) (m : Minor k (A.map f) cs) : Minor k (A.map g) cs := by
  obtain ⟨S, R, T, a, b, c, d, e⟩ := m
  obtain ⟨R', h1, h2⟩ := perm_of_map a rfl
  obtain ⟨S', R0, rfl, rfl, rfl⟩ : ∃ S' R0, R' = S' ++ R0 ∧ S'.map f = S ∧ R0.map f = R := by
    obtain ⟨a, b, c, d, e⟩ := List.map_eq_append_iff.mp h2
    exact ⟨a, b, c, d, e⟩
  refine ⟨S'.map g, R0.map g, T, by rw [← List.map_append]; exact h1.map g, b, by simpa using c, d, ?_⟩
  rw [← det_on S' T fun x hx t ht => h x (h1.subset (List.mem_append_left _ hx)) t (b.subset ht)]
  exact e
theorem le_all {a b : Nat} (h : ∀ k, k ≤ a ↔ k ≤ b) : a = b := Nat.le_antisymm ((h a).mp (Nat.le_refl _)) ((h b).mpr (Nat.le_refl _))
def lineR (l : Ln) : List Rat := castR (rowL l)
/-- walls behind the sides change nothing before their own column -/
theorem elim_sides {n m : Nat} {ls : List Ln} (k : ∀ l ∈ ls, LineOk n m l) : (elimQ (ls.map lineR) (List.range n)).2.length = rkE (ls.map (·.1)) n := by
  apply le_all
  intro j
  have a := rk_minor (rows := ls.map (·.1)) (w := n) (fun r hr => by
    obtain ⟨l, hl, rfl⟩ := List.mem_map.mp hr
    exact (k l hl).len) j
  rw [← a]
  have b := minor_elim (w := n + 1) (List.range n) (ls.map lineR) [] (fun r hr => by
    obtain ⟨l, hl, rfl⟩ := List.mem_map.mp hr
    simp [lineR, castR, rowL, (k l hl).len]) j
  have b' : Minor j ((ls.map lineR).map fnR) (List.range n) ↔ j ≤ (elimQ (ls.map lineR) (List.range n)).2.length := by
    rw [b]; simp [elimQ]
  rw [← b']
  have e : ∀ l ∈ ls, ∀ c ∈ List.range n, (fnR ∘ lineR) l c = (fnR ∘ castR ∘ (·.1)) l c := fun l hl c hc => by
    have hc : c < n := by simpa using hc
    have len := (k l hl).len
    show (castR (l.1 ++ [l.2])).getD c 0 = (castR l.1).getD c 0
    unfold castR
    rw [gD_lt _ _ _ (by simp; omega), gD_lt _ _ _ (by simp; omega)]
    simp only [List.getElem_map]
    rw [List.getElem_append_left (by omega)]
  rw [List.map_map, List.map_map, List.map_map]
  exact ⟨fun m => minor_on e m, fun m => minor_on (fun l hl c hc => (e l hl c hc).symm) m⟩
/-- what is left has noughts in the columns that are done, what is found has not -/
theorem elim_zero {w : Nat} {L : List (List Rat)} (hL : ∀ r ∈ L, r.length = w) : ∀ j, j ≤ w → (∀ r ∈ (elimQ L (List.range j)).1, r.length = w ∧ ∀ c, c < j → fnR r c = 0) ∧ ∀ r ∈ (elimQ L (List.range j)).2, r.length = w ∧ ∃ c, c < j ∧ fnR r c ≠ 0
  | 0, _ => ⟨fun r hr => ⟨hL r hr, fun c h => by omega⟩, fun r hr => by cases hr⟩
  | j + 1, hj => by
    obtain ⟨a, b⟩ := elim_zero hL j (by omega)
    rw [elim_snoc]
    generalize elimQ L (List.range j) = s at *
    cases hp : leads s.1 j with
    | nil =>
      rw [step_none hp]
      refine ⟨fun r hr => ⟨(a r hr).1, fun c hc => ?_⟩, fun r hr => ⟨(b r hr).1, ?_⟩⟩
      · by_cases e : c = j
        · rw [e]; exact leads_none hp r hr
        · exact (a r hr).2 c (by omega)
      · obtain ⟨c, hc, h0⟩ := (b r hr).2
        exact ⟨c, by omega, h0⟩
    | cons p ps =>
      obtain ⟨lt, nz⟩ := leads_spec hp
      rw [step_some hp]
      have ho := a _ (List.getElem_mem lt)
      rw [← gD_lt s.1 p [] lt] at ho
      generalize hown : s.1.getD p [] = own at *
      refine ⟨fun r hr => ?_, fun r hr => ?_⟩
      · obtain ⟨q, hq, rfl⟩ := List.mem_map.mp hr
        have aq := a q ((cutL_sub s.1 p).subset hq)
        refine ⟨less_len (by rw [lead_len, ho.1]) aq.1, fun c hc => ?_⟩
        rw [fn_less ho.1 aq.1 nz]
        by_cases e : c = j
        · rw [e]; exact opR_zero (p := fnR own) nz _
        · have h1 := aq.2 c (by omega)
          have h2 := ho.2 c (by omega)
          show fnR q c + -(fnR q j / fnR own j) * fnR own c = 0
          rw [h1, h2]
          grind
      · rcases List.mem_append.mp hr with hr | hr
        · obtain ⟨c, hc, h0⟩ := (b r hr).2
          exact ⟨(b r hr).1, c, by omega, h0⟩
        · have : r = leadQ own j := by simpa using hr
          rw [this]
          refine ⟨by rw [lead_len, ho.1], j, by omega, ?_⟩
          show (leadQ own j).getD j 0 ≠ 0
          unfold leadQ
          rw [gD_lt _ _ _ (by rw [List.length_map, ho.1]; omega)]
          simp only [List.getElem_map]
          rw [← gD_lt own j 0 (by rw [ho.1]; omega), Rat.mul_inv_cancel _ nz]
          decide
def zeroB (n : Nat) (r : List Rat) : Bool := decide (r.take n = List.replicate n 0)
theorem met_iff {n m : Nat} {ls : List Ln} (k : ∀ l ∈ ls, LineOk n m l) : (elimQ (ls.map lineR) (List.range (n + 1))).2.all (fun r => !zeroB n r) = decide (rkE (ls.map rowL) (n + 1) = rkE (ls.map (·.1)) n) := by
  have hL : ∀ r ∈ ls.map lineR, r.length = n + 1 := fun r hr => by
    obtain ⟨l, hl, rfl⟩ := List.mem_map.mp hr
    simp [lineR, castR, rowL, (k l hl).len]
  have e1 : rkE (ls.map rowL) (n + 1) = (elimQ (ls.map lineR) (List.range (n + 1))).2.length := by
    unfold rkE
    rw [List.map_map]; rfl
  rw [e1, ← elim_sides k]
  obtain ⟨a, b⟩ := elim_zero hL n (by omega)
  rw [elim_snoc]
  generalize elimQ (ls.map lineR) (List.range n) = s at *
  have nb : ∀ r ∈ s.2, zeroB n r = false := fun r hr => by
    obtain ⟨len, c, hc, h0⟩ := b r hr
    unfold zeroB
    refine decide_eq_false fun e => h0 ?_
    have : (r.take n)[c]? = some 0 := by rw [e]; simp [hc]
    rw [List.getElem?_take_of_lt hc] at this
    show r.getD c 0 = 0
    simp [this]
  cases hp : leads s.1 n with
  | nil =>
    rw [step_none hp, decide_eq_true rfl]
    exact List.all_eq_true.mpr fun r hr => by rw [nb r hr]; rfl
  | cons p ps =>
    obtain ⟨lt, nz⟩ := leads_spec hp
    rw [step_some hp, decide_eq_false (by simp)]
    have ho := a _ (List.getElem_mem lt)
    rw [← gD_lt s.1 p [] lt] at ho
    generalize s.1.getD p [] = own at *
    have z : zeroB n (leadQ own n) = true := by
      unfold zeroB
      refine decide_eq_true ?_
      refine List.eq_replicate_iff.mpr ⟨by simp [lead_len, ho.1], fun x hx => ?_⟩
      obtain ⟨c, hc, rfl⟩ := List.mem_iff_getElem.mp hx
      have hc' : c < n := by simp [lead_len, ho.1] at hc; omega
      have := ho.2 c hc'
      have : own.getD c 0 = 0 := this
      rw [gD_lt _ _ _ (by rw [ho.1]; omega)] at this
      simp only [List.getElem_take, leadQ, List.getElem_map, this]
      grind
    rw [List.all_append]
    simp [z]

end W_k03

set_option maxHeartbeats 400000
namespace W_k03
open PySem PySem.Spec PyProof.Rows L2 DL
-- at 03
/-! ### rank and at_once, by the program's code -/
section
variable {h : Hs} {E : DL.EP} {Q : Val → Hs → Prop} {n m : Nat} {ls : List Ln}
theorem bitsQ_le {B j k : Nat} (h : j ≤ k) : bitsQ B j ≤ bitsQ B k := by
  induction k with
  | zero => rw [show j = 0 by omega]; exact Nat.le_refl _
  | succ k ih =>
    by_cases e : j = k + 1
    · rw [e]; exact Nat.le_refl _
    · have := ih (by omega)
      show _ ≤ 4 * bitsQ B k + 1
      omega
theorem side_rows_ok (k : ∀ l ∈ ls, LineOk n m l) (hn : n ≤ 1000) (hm : ls.length ≤ 1000) : F_side_rows [.d (pageD n ls)] h = .ok (.d (.list ((ls.map fun l => castR l.1).map rowLi))) h := by
  refine wpR_eq ?_
  unfold F_side_rows G_side_rows
  rw [wpR_mkF]
  refine ⟨rfl, ?_⟩
  have i1 : dIx (pageD n ls) (.int 1) = some (.tuple (ls.map lineD)) := rfl
  simp [startE, i1]
  refine wp_lc_map lineD (fun l => rowLi (castR l.1)) rfl (Chk_nil _) (sz_le (by omega)) (fun l hl => ?_) ?_
  · have len := (k l hl).len
    have ll : lineD l = .tuple [.tuple (l.1.map .int), .int l.2] := rfl
    rw [ll]
    simp
    refine wp_lc_map (fun x : Int => .int x) (fun x => qD (x : Rat)) rfl (Chk_nil _) (sz_le (by omega)) (fun x hx => by simp [whole_ok]) ?_
    simp [rowLi, castR, Function.comp_def]
  simp [Function.comp_def]
theorem rows_bd {rows : List (List Int)} {w b : Nat} (hl : ∀ r ∈ rows, r.length = w) (hb : ∀ r ∈ rows, ∀ x ∈ r, Lt2 b x) : RowsQ w (b + 1) (rows.map castR) := fun r hr => by
  obtain ⟨x, hx, rfl⟩ := List.mem_map.mp hr
  refine ⟨by simpa [castR] using hl x hx, fun q hq => ?_⟩
  obtain ⟨y, hy, rfl⟩ := List.mem_map.mp hq
  exact Bd.int (hb x hx y hy)
theorem small_bits {w j : Nat} (hw : w ≤ 5) (hj : j < w) : bitsQ 5 j ≤ 2000 := Nat.le_trans (bitsQ_le (show j ≤ 4 by omega)) (by decide)
theorem rank_of_ok (k : ∀ l ∈ ls, LineOk n 4 l) (hn : n ≤ 5) (hm : ls.length ≤ 800) : F_rank_of [.d (pageD n ls)] h = .ok (.d (.int (rkE (ls.map (·.1)) n))) h := by
  have sr := fun h => side_rows_ok (h := h) k (by omega) (by omega)
  have rb := rows_bd (rows := ls.map (·.1)) (w := n) (b := 4) (fun r hr => by
    obtain ⟨l, hl, rfl⟩ := List.mem_map.mp hr
    exact (k l hl).len) (fun r hr x hx => by
    obtain ⟨l, hl, rfl⟩ := List.mem_map.mp hr
    exact (k l hl).bits x (List.mem_append_left _ hx))
  have rd := fun h => reduced_ok (h := h) rb (by omega) (by simp; omega) fun j hj => small_bits hn hj
  have e : ((ls.map (·.1)).map castR) = ls.map fun l => castR l.1 := by simp [Function.comp_def]
  have rk : rkE (ls.map (·.1)) n = (elimQ (ls.map fun l => castR l.1) (List.range n)).2.length := by
    unfold rkE
    rw [e]
  rw [e] at rd
  rw [rk]
  refine wpR_eq ?_
  unfold F_rank_of G_rank_of
  rw [wpR_mkF]
  refine ⟨rfl, ?_⟩
  generalize (ls.map fun l => castR l.1) = L at *
  generalize (elimQ L (List.range n)).2 = F at *
  have vl : ∀ h, vS (.d (.list (F.map rowT))) h = some (.list (F.map rowT)) := fun _ => rfl
  simp [startE, sr, rd, vl]
theorem rank_ok (k : PageOk n 4 ls) (hn : n ≤ 5) (hm : ls.length ≤ 800) : F_rank [.d (pageD n ls)] h = .ok (.d (.int (rkE (ls.map (·.1)) n))) h := by
  have cb := fun h => check_book_ok (h := h) k
  have ro := fun h => rank_of_ok (h := h) k.line hn hm
  refine wpR_eq ?_
  unfold F_rank G_rank
  rw [wpR_mkF]
  refine ⟨rfl, ?_⟩
  simp [startE, cb, ro]
theorem shaped_row {r : List Rat} (h : r.length ≤ 4096) : SeqAt.shaped (rowT r) = true := shaped_ok (okD_rowT (k := 1) h) (by omega)
theorem eqvAll_rows : ∀ r s : List Rat, PyData.eqvAll (r.map qD) (s.map qD) = decide (r = s)
  | [], [] => by simp [PyData.eqvAll]
  | [], _ :: _ => by simp [PyData.eqvAll]
  | _ :: _, [] => by simp [PyData.eqvAll]
  | x :: r, y :: s => by
    have ih := eqvAll_rows r s
    rw [List.map_cons, List.map_cons]
    simp only [PyData.eqvAll]
    rw [eqv_q, ih]
    simp
theorem dNe_rows {r s : List Rat} (hr : r.length ≤ 4096) (hs : s.length ≤ 4096) : dNe (rowT r) (rowT s) = some (.bool (!decide (r = s))) := by
  unfold dNe
  rw [if_pos ⟨shaped_row hr, shaped_row hs⟩]
  have e : PyData.eqv (rowT r) (rowT s) = PyData.eqvAll (r.map qD) (s.map qD) := by
    unfold rowT
    simp only [PyData.eqv]
  rw [e, eqvAll_rows]
theorem at_once_of_ok (k : ∀ l ∈ ls, LineOk n 4 l) (hn : n ≤ 4) (hm : ls.length ≤ 800) : F_at_once_of [.d (pageD n ls)] h = .ok (.d (.bool (decide (rkE (ls.map rowL) (n + 1) = rkE (ls.map (·.1)) n)))) h := by
  have sr := fun h => side_rows_ok (h := h) k (by omega) (by omega)
  have rb := rows_bd (rows := ls.map rowL) (w := n + 1) (b := 4) (fun r hr => by
    obtain ⟨l, hl, rfl⟩ := List.mem_map.mp hr
    simp [rowL, (k l hl).len]) (fun r hr x hx => by
    obtain ⟨l, hl, rfl⟩ := List.mem_map.mp hr
    exact (k l hl).bits x hx)
  have rd := fun h => reduced_ok (h := h) rb (by omega) (by simp; omega) fun j hj => small_bits (show n + 1 ≤ 5 by omega) hj
  have e : ((ls.map rowL).map castR) = ls.map lineR := by simp [Function.comp_def, lineR]
  rw [e] at rd
  rw [← met_iff k]
  have fz := (elim_zero (w := n + 1) (L := ls.map lineR) (fun r hr => by
    obtain ⟨l, hl, rfl⟩ := List.mem_map.mp hr
    simp [lineR, castR, rowL, (k l hl).len]) (n + 1) (Nat.le_refl _)).2
  have fl : (elimQ (ls.map lineR) (List.range (n + 1))).2.length ≤ n + 1 := by
    rw [← e]
    exact (elim_ok rb (n + 1) (Nat.le_refl _)).2.2
  generalize hF : (elimQ (ls.map lineR) (List.range (n + 1))).2 = F at *
  refine wpR_eq ?_
  unfold F_at_once_of G_at_once_of
  rw [wpR_mkF]
  refine ⟨rfl, ?_⟩
  have i1 : dIx (pageD n ls) (.int 1) = some (.tuple (ls.map lineD)) := rfl
  have i0 : dIx (pageD n ls) (.int 0) = some (.int n) := rfl
  have zi : ∀ h, zipOf (.d (.list ((ls.map fun l => castR l.1).map rowLi))) (.d (.tuple (ls.map lineD))) h = some (ls.map (fun l => .tuple [rowLi (castR l.1), lineD l]), []) := fun h => by
    rw [zipOf_at]
    simp only [seqOf]
    rw [List.map_map]
    exact congrArg some (by rw [zip_maps, zip_self, List.map_map]; rfl)
  generalize hSR : PyData.list ((ls.map fun l => castR l.1).map rowLi) = SR at *
  simp [startE, sr, i1, zi]
  refine wp_lc_map (fun l => .tuple [rowLi (castR l.1), lineD l]) (fun l => rowLi (lineR l)) rfl (Chk_nil _) (sz_le (by omega)) (fun l hl => ?_) ?_
  · have len := (k l hl).len
    have l1 : dIx (lineD l) (.int 1) = some (.int l.2) := rfl
    have ad : dAdd (rowLi (castR l.1)) (.list [qD (l.2 : Rat)]) = some (rowLi (lineR l)) := by
      show (if _ then _ else _) = _
      rw [if_pos (sz_le (by simp [castR]; omega))]
      simp [rowLi, lineR, castR, rowL]
    simp [l1, whole_ok, sz_le, ad]
  have em : (ls.map fun l => rowLi (lineR l)) = (ls.map lineR).map rowLi := by simp [Function.comp_def]
  rw [em]
  generalize (ls.map lineR).map rowLi = RL at *
  have sq : ∀ h, seqOf (.d (.list (F.map rowT))) h = some (F.map rowT, []) := fun _ => rfl
  simp [rd, sq]
  refine wp_lc_map rowT (fun r => .bool (!zeroB n r)) rfl (Chk_nil _) (sz_le (by omega)) (fun r hr => ?_) ?_
  · have len := (fz r hr).1
    have z0 : rowT (List.replicate n 0) = .tuple (List.replicate n (.tuple [.int 0, .int 1])) := by
      have : qD 0 = .tuple [.int 0, .int 1] := rfl
      simp [rowT, this]
    have n4 : n = 0 ∨ n = 1 ∨ n = 2 ∨ n = 3 ∨ n = 4 := by omega
    have dm : dMul (.tuple [.tuple [.int 0, .int 1]]) (.int n) = some (rowT (List.replicate n 0)) := by
      rw [z0]
      show (if _ then _ else _) = _
      rw [if_pos ⟨by rcases n4 with rfl | rfl | rfl | rfl | rfl <;> decide, by omega, by decide⟩, flatten_one]; rfl
    have sl : dSl (rowT r) none (some (-1)) = some (rowT (r.take n)) := by
      show some (PyData.tuple (DL.cutD _ none (some (-1)))) = _
      rw [cut_m1, List.length_map, len, Nat.add_sub_cancel, ← List.map_take]; rfl
    have dn' := dNe_rows (r := r.take n) (s := List.replicate n 0) (by simp; omega) (by simp; omega)
    have ez : decide (r.take n = List.replicate n 0) = zeroB n r := rfl
    rw [ez] at dn'
    generalize rowT (List.replicate n 0) = zr at *
    generalize rowT (r.take n) = tr at *
    simp [sl, i0, sz_le, dm, dn']
  have bo : boolsOf (F.map fun r => PyData.bool (!zeroB n r)) = some (F.map fun r => !zeroB n r) := boolsOf_f _ _
  have al := all_map_id (fun r => !zeroB n r) F
  simp [bo]
end

end W_k03

set_option maxHeartbeats 400000
namespace W_k03
open PySem PySem.Spec PyProof.Rows L2 DL
-- at 03
/-! ### a point that answers 0 to all: the plain law -/
def lessM (lead : List Rat) (c : Nat) (r : List Rat) : List Rat := (r.zip lead).map fun x => x.1 + (-r.getD c 0 * (lead.getD c 0)⁻¹) * x.2
def stepM (s : List (List Rat) × List (Nat × List Rat)) (c : Nat) : List (List Rat) × List (Nat × List Rat) :=
  match s.1.filter (fun r => decide (r.getD c 0 ≠ 0)) with
  | [] => s
  | lead :: _ => (s.1.map (lessM lead c), s.2 ++ [(c, lead)])
def elimM (L : List (List Rat)) (cs : List Nat) : List (List Rat) × List (Nat × List Rat) := cs.foldl stepM (L, [])
theorem lessM_len {lead r : List Rat} {c w : Nat} (hl : lead.length = w) (hr : r.length = w) : (lessM lead c r).length = w := by simp [lessM, hl, hr]
theorem fn_lessM {lead r : List Rat} {c w : Nat} (ho : lead.length = w) (hr : r.length = w) (hc : lead.getD c 0 ≠ 0) : fnR (lessM lead c r) = opR (fnR lead) c (fnR r) := by
  funext k
  show (lessM lead c r).getD k 0 = r.getD k 0 + -(r.getD c 0 / lead.getD c 0) * lead.getD k 0
  have go : ∀ (a b x y : Rat), a ≠ 0 → x + (-b * a⁻¹) * y = x + -(b / a) * y := fun a b x y h => by grind
  by_cases hk : k < w
  · rw [gD_lt _ _ _ (by rw [lessM_len ho hr]; exact hk), gD_lt r k 0 (by omega), gD_lt lead k 0 (by omega)]
    unfold lessM
    simp only [List.getElem_map, List.getElem_zip]
    exact go _ _ _ _ hc
  · have e1 : r.getD k 0 = 0 := gD_ge r k 0 (by omega)
    have e2 : lead.getD k 0 = 0 := gD_ge lead k 0 (by omega)
    rw [gD_ge _ _ _ (by rw [lessM_len ho hr]; omega), e1, e2]
    grind
theorem stepM_none {s : List (List Rat) × List (Nat × List Rat)} {c : Nat} (h : s.1.filter (fun r => decide (r.getD c 0 ≠ 0)) = []) : stepM s c = s := by
  unfold stepM
  rw [h]
theorem stepM_some {s : List (List Rat) × List (Nat × List Rat)} {c : Nat} {lead : List Rat} {ps : List (List Rat)} (h : s.1.filter (fun r => decide (r.getD c 0 ≠ 0)) = lead :: ps) : stepM s c = (s.1.map (lessM lead c), s.2 ++ [(c, lead)]) := by
  unfold stepM
  rw [h]
theorem leadM_spec {L : List (List Rat)} {c : Nat} {lead : List Rat} {ps : List (List Rat)} (h : L.filter (fun r => decide (r.getD c 0 ≠ 0)) = lead :: ps) : lead ∈ L ∧ lead.getD c 0 ≠ 0 := by
  have m : lead ∈ L.filter (fun r => decide (r.getD c 0 ≠ 0)) := by rw [h]; exact List.mem_cons_self
  obtain ⟨a, b⟩ := List.mem_filter.mp m
  exact ⟨a, by simpa using b⟩
theorem noneM_spec {L : List (List Rat)} {c : Nat} (h : L.filter (fun r => decide (r.getD c 0 ≠ 0)) = []) : ∀ r ∈ L, fnR r c = 0 := fun r hr => by
  have := List.filter_eq_nil_iff.mp h r hr
  show r.getD c 0 = 0
  simpa using this
/-- a row of noughts adds nothing -/
theorem det_zrow {z : Rw} (hz : ∀ k, z k = 0) : ∀ {S : List Rw} {T : List Nat}, z ∈ S → det S T = 0
  | x :: S, T, h => by
    rw [det_cons]
    rcases List.mem_cons.mp h with h | h
    · rw [← h]
      have : ∀ (T : List Nat) (F : List Nat → Rat), sgS z T F = 0 := fun T => by
        induction T with
        | nil => exact fun _ => rfl
        | cons c T ih => exact fun F => by unfold sgS; rw [ih, hz]; grind
      exact this T _
    · rw [sgS_congr (G := fun _ => 0) fun y _ _ => det_zrow hz h, sgS_zero]
theorem minor_zrow {k : Nat} {z : Rw} {A : List Rw} {cs : List Nat} (hz : ∀ k, z k = 0) : Minor k (z :: A) cs ↔ Minor k A cs := by
  constructor
  · rintro ⟨S, R, T, a, b, c, d, e⟩
    have m2 : z ∈ R := by
      have := a.symm.subset (List.mem_cons_self (a := z) (l := A))
      rcases List.mem_append.mp this with h | h
      · exact absurd (det_zrow hz h) e
      · exact h
    obtain ⟨R1, R2, rfl⟩ := List.append_of_mem m2
    refine ⟨S, R1 ++ R2, T, ?_, b, c, d, e⟩
    have q : (z :: (S ++ (R1 ++ R2))).Perm (z :: A) := by
      refine List.Perm.trans ?_ a
      have := (perm_mid (S ++ R1) R2 z).symm
      simpa using this
    exact q.cons_inv
  · exact minor_more
theorem minor_elimM {w : Nat} (rest : List Nat) : ∀ (cs : List Nat) (L : List (List Rat)) (F : List (Nat × List Rat)), (∀ r ∈ L, r.length = w) → ∃ a, (cs.foldl stepM (L, F)).2.length = F.length + a ∧ ∀ k, Minor (a + k) (L.map fnR) (cs ++ rest) ↔ Minor k ((cs.foldl stepM (L, F)).1.map fnR) rest
  | [], L, F, _ => ⟨0, rfl, fun k => by rw [Nat.zero_add]; exact Iff.rfl⟩
  | c :: cs, L, F, hL => by
    rw [List.foldl_cons]
    cases hp : L.filter (fun r => decide (r.getD c 0 ≠ 0)) with
    | nil =>
      rw [stepM_none (s := (L, F)) hp]
      obtain ⟨a, e, h⟩ := minor_elimM rest cs L F hL
      refine ⟨a, e, fun k => ?_⟩
      rw [List.cons_append, minor_none (fun r hr => by
        obtain ⟨q, hq, rfl⟩ := List.mem_map.mp hr
        exact noneM_spec hp q hq)]
      exact h k
    | cons lead ps =>
      obtain ⟨lm, nz⟩ := leadM_spec hp
      rw [stepM_some (s := (L, F)) hp]
      have ll := hL lead lm
      obtain ⟨a, e, h⟩ := minor_elimM rest cs (L.map (lessM lead c)) (F ++ [(c, lead)]) (fun r hr => by
        obtain ⟨q, hq, rfl⟩ := List.mem_map.mp hr
        exact lessM_len ll (hL q hq))
      refine ⟨a + 1, by rw [e]; simp; omega, fun k => ?_⟩
      have eL : (L.map (lessM lead c)).map fnR = (L.map fnR).map (opR (fnR lead) c) := by
        rw [List.map_map, List.map_map]
        exact List.map_congr_left fun r hr => fn_lessM ll (hL r hr) nz
      obtain ⟨A, B, eAB⟩ := List.append_of_mem (List.mem_map_of_mem (f := fnR) lm)
      have pm : (L.map fnR).Perm (fnR lead :: (A ++ B)) := by rw [eAB]; exact perm_mid A B _
      have zr : ∀ k, opR (fnR lead) c (fnR lead) k = 0 := fun k => by
        unfold opR
        have : fnR lead c ≠ 0 := nz
        grind
      rw [← h k, show a + 1 + k = (a + k) + 1 by omega, List.cons_append, minor_perm pm, minor_pivot (show fnR lead c ≠ 0 from nz), eL, minor_perm (pm.map (opR (fnR lead) c)), List.map_cons, minor_zrow zr]

end W_k03

set_option maxHeartbeats 400000
namespace W_k03
open PySem PySem.Spec PyProof.Rows L2 DL
-- at 03
/-! ### told back: a point that answers 0 to all -/
def dF : Nat → Rw → Rw → Rat
  | 0, _, _ => 0
  | n + 1, f, g => dF n f g + f n * g n
theorem dF_add (n : Nat) (a : Rat) (u v g : Rw) : dF n (fun k => u k + a * v k) g = dF n u g + a * dF n v g := by
  induction n with
  | zero => unfold dF; grind
  | succ n ih => unfold dF; rw [ih]; grind
theorem dF_zero {n : Nat} {f : Rw} (g : Rw) (h : ∀ c, c < n → f c = 0) : dF n f g = 0 := by
  induction n with
  | zero => rfl
  | succ n ih => unfold dF; rw [ih fun c hc => h c (by omega), h n (by omega)]; grind
def updR (g : Rw) (j : Nat) (v : Rat) : Rw := fun k => if k = j then v else g k
theorem dF_upd (f g : Rw) (j : Nat) (v : Rat) : ∀ n, dF n f (updR g j v) = if j < n then dF n f g + f j * (v - g j) else dF n f g
  | 0 => by rw [if_neg (by omega)]; rfl
  | n + 1 => by
    have ih := dF_upd f g j v n
    unfold dF
    rw [ih]
    by_cases e : n = j
    · subst e
      have : updR g n v n = v := if_pos rfl
      rw [if_neg (by omega), if_pos (by omega), this]
      grind
    · have : updR g j v n = g n := if_neg e
      rw [this]
      by_cases c : j < n
      · rw [if_pos c, if_pos (by omega)]
        grind
      · rw [if_neg c, if_neg (by omega)]
/-- a row is met by a point: sides times numbers are the wall -/
def Sat (n : Nat) (f g : Rw) : Prop := dF n f g = f n
theorem sat_back {n c : Nat} {l r g : Rw} (h1 : Sat n (opR l c r) g) (h2 : Sat n l g) : Sat n r g := by
  unfold Sat at *
  have e := dF_add n (r c / l c) (opR l c r) l g
  rw [opR_back] at e
  rw [e, h1, h2]
  have := congrFun (opR_back (p := l) (c := c) r) n
  exact this
theorem fn_set {p : List Rat} {j : Nat} (v : Rat) (hj : j < p.length) : fnR (p.set j v) = updR (fnR p) j v := by
  funext k
  show (p.set j v).getD k 0 = if k = j then v else p.getD k 0
  by_cases hk : k < p.length
  · rw [gD_lt _ _ _ (by simpa using hk), gD_lt _ _ _ hk, List.getElem_set]
    by_cases e : k = j
    · rw [if_pos e.symm, if_pos e]
    · rw [if_neg (fun z => e z.symm), if_neg e]
  · rw [gD_ge _ _ _ (by simp; omega), if_neg (by omega), gD_ge _ _ _ (by omega)]
def restM (j : Nat) (lead spot : Rw) (w : Rat) : Nat → Rat
  | 0 => w
  | i + 1 => if i ≠ j then restM j lead spot w i + -lead i * spot i else restM j lead spot w i
theorem rest_eq (j : Nat) (lead spot : Rw) (w : Rat) : ∀ n, restM j lead spot w n = w - (dF n lead spot - if j < n then lead j * spot j else 0)
  | 0 => by unfold restM dF; simp; grind
  | n + 1 => by
    have ih := rest_eq j lead spot w n
    unfold restM dF
    rw [ih]
    by_cases e : n = j
    · subst e
      simp
      grind
    · by_cases c : j < n
      · have c' : j < n + 1 := by omega
        simp [e, c, c']
        grind
      · have c' : ¬ j < n + 1 := by omega
        simp [e, c, c']
        grind
def putB (n : Nat) (x : Nat × List Rat) (spot : List Rat) : List Rat := spot.set x.1 (restM x.1 (fnR x.2) (fnR spot) (x.2.getD n 0) n * (x.2.getD x.1 0)⁻¹)
def backM (n : Nat) (kept : List (Nat × List Rat)) : List Rat := kept.foldr (putB n) (List.replicate n 0)
theorem back_len (n : Nat) (kept : List (Nat × List Rat)) : (backM n kept).length = n := by
  unfold backM
  induction kept with
  | nil => simp
  | cons x kept ih => rw [List.foldr_cons]; simp [putB, ih]
theorem back_sat {n : Nat} : ∀ {kept : List (Nat × List Rat)}, (∀ x ∈ kept, x.1 < n ∧ x.2.getD x.1 0 ≠ 0) → kept.Pairwise (fun x y => fnR y.2 x.1 = 0) → ∀ x ∈ kept, Sat n (fnR x.2) (fnR (backM n kept))
  | [], _, _ => fun x hx => by cases hx
  | x :: kept, hk, hp => by
    have ih := back_sat (fun y hy => hk y (List.mem_cons_of_mem _ hy)) (List.pairwise_cons.mp hp).2
    have px := (List.pairwise_cons.mp hp).1
    obtain ⟨xl, nz⟩ := hk x List.mem_cons_self
    have e : backM n (x :: kept) = putB n x (backM n kept) := rfl
    have bl := back_len n kept
    rw [e]
    unfold putB
    rw [fn_set _ (by omega)]
    generalize backM n kept = p at *
    intro y hy
    unfold Sat
    rw [dF_upd, if_pos xl]
    rcases List.mem_cons.mp hy with rfl | hy
    · rw [rest_eq, if_pos xl]
      have e1 : fnR y.2 y.1 = y.2.getD y.1 0 := rfl
      have e2 : fnR y.2 n = y.2.getD n 0 := rfl
      rw [e1, e2]
      generalize y.2.getD y.1 0 = a at *
      have i := Rat.mul_inv_cancel _ nz
      generalize a⁻¹ = b at *
      generalize dF n (fnR y.2) (fnR p) = d at *
      generalize fnR p y.1 = s at *
      grind
    · rw [px y hy]
      have := ih y hy
      unfold Sat at this
      rw [this]
      grind
theorem elimM_snoc (L : List (List Rat)) (j : Nat) : elimM L (List.range (j + 1)) = stepM (elimM L (List.range j)) j := by
  unfold elimM
  rw [List.range_succ, List.foldl_append]; rfl
theorem elimM_inv {w : Nat} {L : List (List Rat)} (hL : ∀ r ∈ L, r.length = w) : ∀ j, (∀ r ∈ (elimM L (List.range j)).1, r.length = w ∧ ∀ c, c < j → fnR r c = 0) ∧ (∀ x ∈ (elimM L (List.range j)).2, x.2.length = w ∧ x.1 < j ∧ x.2.getD x.1 0 ≠ 0) ∧ (elimM L (List.range j)).2.Pairwise (fun x y => fnR y.2 x.1 = 0)
  | 0 => ⟨fun r hr => ⟨hL r hr, fun c h => by omega⟩, (fun x hx => by cases hx), List.Pairwise.nil⟩
  | j + 1 => by
    obtain ⟨a, b, d⟩ := elimM_inv hL j
    rw [elimM_snoc]
    generalize elimM L (List.range j) = s at *
    cases hp : s.1.filter (fun r => decide (r.getD j 0 ≠ 0)) with
    | nil =>
      rw [stepM_none hp]
      refine ⟨fun r hr => ⟨(a r hr).1, fun c hc => ?_⟩, fun x hx => ⟨(b x hx).1, by have := (b x hx).2.1; omega, (b x hx).2.2⟩, d⟩
      by_cases e : c = j
      · rw [e]; exact noneM_spec hp r hr
      · exact (a r hr).2 c (by omega)
    | cons lead ps =>
      obtain ⟨lm, nz⟩ := leadM_spec hp
      rw [stepM_some hp]
      have al := a lead lm
      refine ⟨fun r hr => ?_, fun x hx => ?_, ?_⟩
      · obtain ⟨q, hq, rfl⟩ := List.mem_map.mp hr
        have aq := a q hq
        refine ⟨lessM_len al.1 aq.1, fun c hc => ?_⟩
        rw [fn_lessM al.1 aq.1 nz]
        by_cases e : c = j
        · rw [e]; exact opR_zero (p := fnR lead) nz _
        · have h1 := aq.2 c (by omega)
          have h2 := al.2 c (by omega)
          show fnR q c + -(fnR q j / fnR lead j) * fnR lead c = 0
          rw [h1, h2]
          grind
      · rcases List.mem_append.mp hx with hx | hx
        · exact ⟨(b x hx).1, by have := (b x hx).2.1; omega, (b x hx).2.2⟩
        · have : x = (j, lead) := by simpa using hx
          rw [this]
          exact ⟨al.1, by show j < j + 1; omega, nz⟩
      · rw [List.pairwise_append]
        refine ⟨d, List.pairwise_singleton _ _, fun x hx y hy => ?_⟩
        have : y = (j, lead) := by simpa using hy
        rw [this]
        exact al.2 x.1 (b x hx).2.1
theorem elimM_back {n w : Nat} {L : List (List Rat)} {g : Rw} (hL : ∀ r ∈ L, r.length = w) : ∀ j, (∀ r ∈ (elimM L (List.range j)).1, Sat n (fnR r) g) → (∀ x ∈ (elimM L (List.range j)).2, Sat n (fnR x.2) g) → ∀ r ∈ L, Sat n (fnR r) g
  | 0 => fun h _ => h
  | j + 1 => by
    obtain ⟨a, _, _⟩ := elimM_inv hL j
    have ih := elimM_back (n := n) (g := g) hL j
    rw [elimM_snoc]
    generalize elimM L (List.range j) = s at *
    cases hp : s.1.filter (fun r => decide (r.getD j 0 ≠ 0)) with
    | nil =>
      rw [stepM_none hp]
      exact ih
    | cons lead ps =>
      obtain ⟨lm, nz⟩ := leadM_spec hp
      rw [stepM_some hp]
      intro h1 h2
      refine ih (fun r hr => ?_) fun x hx => h2 x (List.mem_append_left _ hx)
      have z := h1 _ (List.mem_map_of_mem (f := lessM lead j) hr)
      rw [fn_lessM (a lead lm).1 (a r hr).1 nz] at z
      exact sat_back z (h2 (j, lead) (by simp))

end W_k03

set_option maxHeartbeats 400000
namespace W_k03
open PySem PySem.Spec PyProof.Rows L2 DL
-- at 03
/-! ### the point meets all questions if some does -/
theorem dF_shift (f g : Rw) : ∀ n, dF (n + 1) f g = f 0 * g 0 + dF n (fun k => f (k + 1)) (fun k => g (k + 1))
  | 0 => by unfold dF dF; grind
  | n + 1 => by
    have ih := dF_shift f g n
    show dF (n + 1) f g + f (n + 1) * g (n + 1) = f 0 * g 0 + (dF n (fun k => f (k + 1)) (fun k => g (k + 1)) + f (n + 1) * g (n + 1))
    rw [ih]
    grind
theorem dF_dot : ∀ (s : List Int) (ps : List Rat), ps.length = s.length → dF s.length (fnR (castR s)) (fnR ps) = dotq s ps
  | [], [], _ => by simp [dotq, qsum, dF]
  | x :: s, p :: ps, h => by
    have ih := dF_dot s ps (by simpa using h)
    rw [List.length_cons, dF_shift]
    have e1 : (fun k => fnR (castR (x :: s)) (k + 1)) = fnR (castR s) := rfl
    have e2 : (fun k => fnR (p :: ps) (k + 1)) = fnR ps := rfl
    rw [e1, e2, ih]
    unfold dotq
    rw [List.zip_cons_cons, List.map_cons, qsum_cons]
    rfl
theorem dF_on {f f' g : Rw} : ∀ {n : Nat}, (∀ k, k < n → f k = f' k) → dF n f g = dF n f' g
  | 0, _ => rfl
  | n + 1, h => by
    unfold dF
    rw [dF_on fun k hk => h k (by omega), h n (by omega)]
def meetP (n : Nat) (ls : List Ln) : List Rat := backM n (elimM (ls.map lineR) (List.range n)).2
theorem ext_sides {n m : Nat} {ls : List Ln} (k : ∀ l ∈ ls, LineOk n m l) (j : Nat) : Minor j ((ls.map lineR).map fnR) (List.range n) ↔ j ≤ rkE (ls.map (·.1)) n := by
  have b := minor_elim (w := n + 1) (List.range n) (ls.map lineR) [] (fun r hr => by
    obtain ⟨l, hl, rfl⟩ := List.mem_map.mp hr
    simp [lineR, castR, rowL, (k l hl).len]) j
  rw [b, ← elim_sides k]
  simp [elimQ]
theorem met_zero {n m : Nat} {ls : List Ln} (k : ∀ l ∈ ls, LineOk n m l) (met : rkE (ls.map rowL) (n + 1) = rkE (ls.map (·.1)) n) : ∀ l ∈ ls, dotq l.1 (meetP n ls) = (l.2 : Rat) := by
  have hL : ∀ r ∈ ls.map lineR, r.length = n + 1 := fun r hr => by
    obtain ⟨l, hl, rfl⟩ := List.mem_map.mp hr
    simp [lineR, castR, rowL, (k l hl).len]
  obtain ⟨inv, kok, kp⟩ := elimM_inv hL n
  obtain ⟨a, ea, ha⟩ := minor_elimM (w := n + 1) [] (List.range n) (ls.map lineR) [] hL
  obtain ⟨a', ea', hb⟩ := minor_elimM (w := n + 1) [n] (List.range n) (ls.map lineR) [] hL
  have haa : a' = a := by
    have := ea'.symm.trans ea
    simpa using this
  subst haa
  have e1 : ∀ L, (List.range n).foldl stepM (L, []) = elimM L (List.range n) := fun _ => rfl
  rw [e1] at ha hb
  have rest0 : ∀ r ∈ (elimM (ls.map lineR) (List.range n)).1, fnR r n = 0 := fun r hr => by
    refine Classical.byContradiction fun ne => ?_
    have m1 : Minor 1 ((elimM (ls.map lineR) (List.range n)).1.map fnR) [n] := by
      obtain ⟨A, B, e⟩ := List.append_of_mem (List.mem_map_of_mem (f := fnR) hr)
      refine ⟨[fnR r], A ++ B, [n], by rw [e]; exact (perm_mid A B _).symm, List.Sublist.refl _, rfl, rfl, ?_⟩
      rw [det_cons]
      show fnR r n * det [] [] - 0 ≠ 0
      have : det [] [] = 1 := rfl
      rw [this]
      grind
    have m2 := (hb 1).mpr m1
    rw [← List.range_succ] at m2
    have c1 : a' + 1 ≤ rkE (ls.map rowL) (n + 1) := by
      have := (rk_minor (rows := ls.map rowL) (w := n + 1) (fun r hr => by
        obtain ⟨l, hl, rfl⟩ := List.mem_map.mp hr
        simp [rowL, (k l hl).len]) (a' + 1)).mp (by
          have e : (ls.map rowL).map castR = ls.map lineR := by simp [lineR, Function.comp_def]
          rw [e]; exact m2)
      exact this
    have c2 : ¬ (a' + 1 ≤ rkE (ls.map (·.1)) n) := fun c => by
      have m3 := (ext_sides k (a' + 1)).mpr c
      have m4 := (ha 1).mp (by rw [List.append_nil]; exact m3)
      obtain ⟨S, R, T, _, b, _, d, _⟩ := m4
      rw [List.sublist_nil.mp b] at d
      cases d
    omega
  have sat := elimM_back (n := n) (g := fnR (meetP n ls)) hL n (fun r hr => by
    unfold Sat
    rw [dF_zero _ (inv r hr).2, rest0 r hr]) (fun x hx => back_sat (fun y hy => (kok y hy).2) kp x hx)
  intro l hl
  have s := sat _ (List.mem_map_of_mem (f := lineR) hl)
  have len := (k l hl).len
  unfold Sat at s
  have e2 : fnR (lineR l) n = (l.2 : Rat) := by
    show (castR (l.1 ++ [l.2])).getD n 0 = _
    unfold castR
    rw [gD_lt _ _ _ (by simp; omega)]
    simp [len]
  have e3 : dF n (fnR (lineR l)) (fnR (meetP n ls)) = dF n (fnR (castR l.1)) (fnR (meetP n ls)) := dF_on fun c hc => by
    show (castR (l.1 ++ [l.2])).getD c 0 = (castR l.1).getD c 0
    unfold castR
    rw [gD_lt _ _ _ (by simp; omega), gD_lt _ _ _ (by simp; omega)]
    simp only [List.getElem_map]
    rw [List.getElem_append_left (by omega)]
  rw [e3, e2] at s
  have d := dF_dot l.1 (meetP n ls) (by rw [len]; exact back_len n _)
  rw [len] at d
  rw [← d]
  exact s
theorem met_row {n m : Nat} {ls : List Ln} (k : ∀ l ∈ ls, LineOk n m l) (met : rkE (ls.map rowL) (n + 1) = rkE (ls.map (·.1)) n) : rowI ls (meetP n ls) = List.replicate ls.length 0 := by
  refine List.eq_replicate_iff.mpr ⟨rowI_len _ _, fun x hx => ?_⟩
  obtain ⟨l, hl, rfl⟩ := List.mem_map.mp hx
  have z := met_zero k met l hl
  unfold ansq
  rw [z, show (l.2 : Rat) - (l.2 : Rat) = 0 by grind]
  rfl

end W_k03

set_option maxHeartbeats 400000
namespace W_k03
open PySem PySem.Spec PyProof.Rows L2 DL
-- at 03
/-! ### the law's own point: by its code -/
section
variable {h : Hs} {E : DL.EP} {Q : Val → Hs → Prop} {n m B w : Nat} {ls : List Ln}
theorem at_once_ok (k : PageOk n 4 ls) (hn : n ≤ 4) (hm : ls.length ≤ 800) : F_at_once [.d (pageD n ls)] h = .ok (.d (.bool (decide (rkE (ls.map rowL) (n + 1) = rkE (ls.map (·.1)) n)))) h := by
  have cb := fun h => check_book_ok (h := h) k
  have ro := fun h => at_once_of_ok (h := h) k.line hn hm
  refine wpR_eq ?_
  unfold F_at_once G_at_once
  rw [wpR_mkF]
  refine ⟨rfl, ?_⟩
  simp [startE, cb, ro]
theorem ix_row {r : List Rat} {j : Nat} (hj : j < r.length) : dIx (rowLi r) (.int (j : Int)) = some (qD (r.getD j 0)) := by
  show atI (r.map qD) (j : Int) = _
  rw [DL.atI_nat, gD_lt _ _ _ hj]
  simp [hj]
theorem neg_pair (q : Rat) : PyData.tuple [.int (-q.num), .int (q.den : Int)] = qD (-q) := by
  unfold qD
  rw [Rat.neg_num, Rat.neg_den]
theorem inv_pair {a : Rat} {n : Nat} (ha : Bd n a) (h0 : a ≠ 0) (hn : n ≤ 8000) : F__law_pair [.d (.int (a.den : Int)), .d (.int a.num)] h = .ok (.d (qD a⁻¹)) h := by
  have nn : a.num ≠ 0 := fun z => h0 (Rat.num_eq_zero.mp z)
  have lo := law_pair_ok (h := h) (t := (a.den : Int)) (b := a.num) nn ha.1 hn
  rw [← Rat.inv_def] at lo
  exact lo
theorem law_less_row_ok {row lead : List Rat} {j : Nat} (hr : row.length = w ∧ ∀ q ∈ row, Bd B q) (hl : lead.length = w ∧ ∀ q ∈ lead, Bd B q) (hj : j < w) (nz : lead.getD j 0 ≠ 0) (hB : B ≤ 2000) (hw : w ≤ 1000) : F__law_less_row [.d (rowLi row), .d (rowLi lead), .d (.int j)] h = .ok (.d (rowLi (lessM lead j row))) h := by
  refine wpR_eq ?_
  unfold F__law_less_row G__law_less_row
  rw [wpR_mkF]
  refine ⟨rfl, ?_⟩
  have i1 := ix_row (r := row) (j := j) (by rw [hr.1]; exact hj)
  have i2 := ix_row (r := lead) (j := j) (by rw [hl.1]; exact hj)
  have b1 := getD_bd hr hj
  have b2 := getD_bd hl hj
  have ip := fun h => inv_pair (h := h) b2 nz (by omega)
  have bi := bd_inv b2 nz
  have lm : lessM lead j row = (row.zip lead).map fun x => x.1 + (-row.getD j 0 * (lead.getD j 0)⁻¹) * x.2 := rfl
  rw [lm]
  generalize row.getD j 0 = rj at *
  generalize lead.getD j 0 = lj at *
  have t1 := fun h => law_times_ok (h := h) b1.neg bi (by omega)
  have bs := b1.neg.mul bi
  have zi : ∀ h, zipOf (.d (rowLi row)) (.d (rowLi lead)) h = some ((row.zip lead).map (fun x : Rat × Rat => .tuple [qD x.1, qD x.2]), []) := fun h => by
    unfold rowLi
    rw [zipOf_lst, zip_maps]
  have hz : (row.zip lead).length ≤ 4096 := by rw [List.length_zip]; omega
  simp [startE, i1, i2, qD0, qD1, sz_le, neg_pair, ip, t1, zi]
  refine wp_lc_map (fun x : Rat × Rat => .tuple [qD x.1, qD x.2]) (fun x => qD (x.1 + (-rj * lj⁻¹) * x.2)) rfl (Chk_nil _) (sz_le hz) (fun x hx => ?_) ?_
  · obtain ⟨h1, h2⟩ := List.of_mem_zip hx
    have t2 := fun h => law_times_ok (h := h) bs (hl.2 _ h2) (by omega)
    have p2 := fun h => law_plus_ok (h := h) (hr.2 _ h1) (bs.mul (hl.2 _ h2)) (by omega)
    simp [t2, p2]
  simp [rowLi, Function.comp_def]
theorem lessM_bd {lead r : List Rat} {c : Nat} (hl : lead.length = w ∧ ∀ q ∈ lead, Bd B q) (h : r.length = w ∧ ∀ q ∈ r, Bd B q) (hc : c < w) (nz : lead.getD c 0 ≠ 0) : (lessM lead c r).length = w ∧ ∀ q ∈ lessM lead c r, Bd (4 * B + 1) q := by
  refine ⟨lessM_len hl.1 h.1, fun q hq => ?_⟩
  obtain ⟨x, hx, rfl⟩ := List.mem_map.mp hq
  obtain ⟨h1, h2⟩ := List.of_mem_zip hx
  exact ((h.2 _ h1).add (((getD_bd h hc).neg.mul (bd_inv (getD_bd hl hc) nz)).mul (hl.2 _ h2))).mono (by omega)
/-- bits along the way -/
theorem elimM_ok {L : List (List Rat)} (h : RowsQ w B L) : ∀ j, j ≤ w → RowsQ w (bitsQ B j) (elimM L (List.range j)).1 ∧ (elimM L (List.range j)).1.length = L.length ∧ (elimM L (List.range j)).2.length ≤ j ∧ ∀ x ∈ (elimM L (List.range j)).2, ∀ q ∈ x.2, Bd (bitsQ B x.1) q
  | 0, _ => ⟨h, rfl, Nat.le_refl _, fun x hx => by cases hx⟩
  | j + 1, hj => by
    obtain ⟨a, b, c, d⟩ := elimM_ok h j (by omega)
    rw [elimM_snoc]
    generalize elimM L (List.range j) = s at *
    have up : RowsQ w (bitsQ B (j + 1)) s.1 := fun r hr => ⟨(a r hr).1, fun q hq => ((a r hr).2 q hq).mono (by show _ ≤ 4 * bitsQ B j + 1; omega)⟩
    cases hp : s.1.filter (fun r => decide (r.getD j 0 ≠ 0)) with
    | nil =>
      rw [stepM_none hp]
      exact ⟨up, b, by omega, d⟩
    | cons lead ps =>
      obtain ⟨lm, nz⟩ := leadM_spec hp
      rw [stepM_some hp]
      refine ⟨fun r hr => ?_, by simpa using b, by simp; omega, fun x hx => ?_⟩
      · obtain ⟨q, hq, rfl⟩ := List.mem_map.mp hr
        exact lessM_bd (a lead lm) (a q hq) (by omega) nz
      · rcases List.mem_append.mp hx with hx | hx
        · exact d x hx
        · have : x = (j, lead) := by simpa using hx
          rw [this]
          exact (a lead lm).2
end

end W_k03

set_option maxHeartbeats 400000
namespace W_k03
open PySem PySem.Spec PyProof.Rows L2 DL
-- at 03
/-! ### the law's own point: all -/
def keptD (x : Nat × List Rat) : D := .tuple [.int (x.1 : Nat), rowLi x.2]
section
variable {h : Hs} {E : DL.EP} {Q : Val → Hs → Prop} {n m B w : Nat} {ls : List Ln}
theorem num_ne (q : Rat) : decide (q.num ≠ 0) = decide (q ≠ 0) := by
  have := @Rat.num_eq_zero q
  by_cases e : q = 0
  · simp [e]
  · have : q.num ≠ 0 := fun z => e (this.mp z)
    simp [e, this]
theorem law_meeting_ok (k : ∀ l ∈ ls, LineOk n 4 l) (hn : n ≤ 4) (hm : ls.length ≤ 6) (hS : ∀ x t, (x :: t) <:+ (elimM (ls.map lineR) (List.range n)).2 → ∃ S, (∀ q ∈ backM n t, Bd S q) ∧ bitsQ 5 x.1 + S ≤ 1500) : F__law_meeting [.d (pageD n ls)] h = .ok (.d (spotD (meetP n ls))) h := by
  refine wpR_eq ?_
  unfold F__law_meeting G__law_meeting
  rw [wpR_mkF]
  refine ⟨rfl, ?_⟩
  have i1 : dIx (pageD n ls) (.int 1) = some (.tuple (ls.map lineD)) := rfl
  have i0 : dIx (pageD n ls) (.int 0) = some (.int n) := rfl
  have rb := rows_bd (rows := ls.map rowL) (w := n + 1) (b := 4) (fun r hr => by
    obtain ⟨l, hl, rfl⟩ := List.mem_map.mp hr
    simp [rowL, (k l hl).len]) (fun r hr x hx => by
    obtain ⟨l, hl, rfl⟩ := List.mem_map.mp hr
    exact (k l hl).bits x hx)
  have e : ((ls.map rowL).map castR) = ls.map lineR := by simp [Function.comp_def, lineR]
  rw [e] at rb
  have LL : (ls.map lineR).length = ls.length := by simp
  simp only [startE, List.map_cons, List.map_nil, List.length_cons, List.length_nil, List.cons_append, List.nil_append, List.replicate]
  -- rows
  refine wpS_cut (fun ρ h' => ρ = [some (.d (pageD n ls)), some (.d (.int n)), some (.d (.list ((ls.map lineR).map rowLi))), some (.r h.length), none, none, none, none, none, none, none, none, none] ∧ h' = h ++ [.lst []]) ?_ ?_
  · simp [i0, i1]
    refine wp_lc_map lineD (fun l => rowLi (lineR l)) rfl (Chk_nil _) (sz_le (by omega)) (fun l hl => ?_) ?_
    · have len := (k l hl).len
      have l0 : dIx (lineD l) (.int 0) = some (.tuple (l.1.map .int)) := rfl
      have l1 : dIx (lineD l) (.int 1) = some (.int l.2) := rfl
      simp [l0]
      refine wp_lc_map (fun x : Int => .int x) (fun x => qD (x : Rat)) rfl (Chk_nil _) (sz_le (by omega)) (fun x hx => by simp [sz_le, qD_int]) ?_
      have ad : dAdd (.list (l.1.map fun x : Int => PyData.tuple [.int x, .int 1])) (.list [PyData.tuple [.int l.2, .int 1]]) = some (rowLi (lineR l)) := by
        show (if _ then _ else _) = _
        rw [if_pos (sz_le (by simp; omega))]
        simp [rowLi, lineR, castR, rowL, qD_int, Function.comp_def]
      simp [l1, sz_le, qD_int, ad]
    have em : (ls.map fun l => rowLi (lineR l)) = (ls.map lineR).map rowLi := by simp [Function.comp_def]
    rw [em]
    generalize (ls.map lineR).map rowLi = RL
    simp [sz_le]
  rintro ρ h1 ⟨rfl, rfl⟩
  -- put out
  have back_eq : meetP n ls = backM n (elimM (ls.map lineR) (List.range n)).2 := rfl
  rw [back_eq]
  generalize ls.map lineR = L at *
  refine wpS_cut (fun ρ h' => ∃ x4 x5 x6 x2, ρ = [some (.d (pageD n ls)), some (.d (.int n)), x2, some (.r h.length), x4, x5, x6, none, none, none, none, none, none] ∧ h' = h ++ [.lst ((elimM L (List.range n)).2.map keptD)]) ?_ ?_
  · simp [small_nat (show n ≤ 100000 by omega)]
    refine wp_for0 (fun j ρ h' => ∃ x4 x5 x6, ρ = [some (.d (pageD n ls)), some (.d (.int n)), some (.d (.list ((elimM L (List.range j)).1.map rowLi))), some (.r h.length), x4, x5, x6, none, none, none, none, none, none] ∧ h' = h ++ [.lst ((elimM L (List.range j)).2.map keptD)]) (fun _ _ _ _ => Chk_nil _) ⟨none, none, none, by simp [elimM], by simp [elimM]⟩ ?_ ?_
    · rintro j dd ρ h' hd ⟨x4, x5, x6, rfl, rfl⟩
      obtain ⟨hj, rfl⟩ := rng_get hd
      obtain ⟨a, b, c, d⟩ := elimM_ok rb j (by omega)
      have bj : bitsQ 5 j ≤ 2000 := small_bits (w := 5) (by omega) (by omega)
      rw [elimM_snoc]
      generalize elimM L (List.range j) = s at *
      generalize bitsQ (4 + 1) j = bt at *
      have sq : ∀ h, seqOf (.d (.list (s.1.map rowLi))) h = some (s.1.map rowLi, []) := fun _ => rfl
      simp [sq]
      refine wp_lc_fm rowLi rowLi (fun r => decide (r.getD j 0 ≠ 0)) rfl (Chk_nil _) (sz_le (by omega)) (fun r hr => ?_) ?_
      · have i := ix_row (r := r) (j := j) (by rw [(a r hr).1]; omega)
        have nn := num_ne (r.getD j 0)
        generalize r.getD j 0 = q at *
        simp [i, qD0, dNe_int] at nn ⊢
      cases hp : s.1.filter (fun r => decide (r.getD j 0 ≠ 0)) with
      | nil =>
        rw [stepM_none hp]
        have ne : dNe (.list []) (.list []) = some (.bool false) := rfl
        simp [ne]
      | cons lead rest =>
        obtain ⟨lm, nz⟩ := leadM_spec hp
        rw [stepM_some hp]
        have al := a lead lm
        have okl : okD 4 (.list ((lead :: rest).map rowLi)) := ⟨by
          have := List.length_filter_le (fun r : List Rat => decide (r.getD j 0 ≠ 0)) s.1
          rw [hp] at this
          rw [List.length_map]; omega, fun x hx => by
          obtain ⟨r, hr, rfl⟩ := List.mem_map.mp hx
          have rm : r ∈ s.1 := (List.mem_filter.mp (hp ▸ hr : r ∈ s.1.filter fun r => decide (r.getD j 0 ≠ 0))).1
          refine ⟨by rw [List.length_map, (a r rm).1]; omega, fun y hy => ?_⟩
          obtain ⟨q, _, rfl⟩ := List.mem_map.mp hy
          refine ⟨by simp, fun z hz => ?_⟩
          have : z = .int q.num ∨ z = .int (q.den : Int) := by simpa using hz
          rcases this with rfl | rfl <;> exact True.intro⟩
        have ne : dNe (.list ((lead :: rest).map rowLi)) (.list []) = some (.bool true) := dNe_nilL okl (by omega)
        have gl : s.2.length < sizeLine := Nat.lt_of_le_of_lt (show _ ≤ 1000 by omega) (by rw [sizeLine_eq]; omega)
        have kd : PyData.tuple [.int (j : Int), rowLi lead] = keptD (j, lead) := rfl
        simp only [List.map_cons] at ne
        simp [ne, atI_zero, sz_le, kd, gAppend, gl, sq]
        refine wp_lc_map rowLi (fun r => rowLi (lessM lead j r)) rfl (Chk_nil _) (sz_le (by omega)) (fun r hr => ?_) ?_
        · have lr := fun h => law_less_row_ok (h := h) (a r hr) al (show j < n + 1 by omega) nz bj (by omega)
          simp [lr]
        simp [Function.comp_def]
    · rintro ρ h' ⟨x4, x5, x6, rfl, rfl⟩
      rw [rng_len]
      exact ⟨_, _, _, _, rfl, rfl⟩
  rintro ρ h1 ⟨x4, x5, x6, x2, rfl, rfl⟩
  have kd := (elimM_ok rb n (by omega)).2.2.2
  obtain ⟨_, kok, _⟩ := elimM_inv (fun r hr => (rb r hr).1) n
  have kl := (elimM_ok rb n (by omega)).2.2.1
  generalize (elimM L (List.range n)).2 = kept at *
  have n4 : n = 0 ∨ n = 1 ∨ n = 2 ∨ n = 3 ∨ n = 4 := by omega
  have dzm : dMulM (.list [.tuple [.int 0, .int 1]]) (.int n) = some ((List.replicate n (0 : Rat)).map qD) := by
    show (if _ then _ else _) = _
    rw [if_pos ⟨by rcases n4 with rfl | rfl | rfl | rfl | rfl <;> decide, sz_le (by simp; omega)⟩, flatten_one]
    simp [qD]
  simp [sz_le, dzm]
  have g1 : ∀ sp, (h ++ [MO.lst (kept.map keptD), MO.lst sp])[h.length]? = some (.lst (kept.map keptD)) := fun sp => by simp
  have g2 : ∀ sp, (h ++ [MO.lst (kept.map keptD), MO.lst sp])[h.length + 1]? = some (.lst sp) := fun sp => by simp
  have rv : dRev (.list (kept.map keptD)) = some (.list (kept.map keptD).reverse) := rfl
  simp [vD_r (g1 _), rv, seqOf]
  refine wp_for0 (fun i ρ h' => ∃ x4 x6 x8 x9, ρ = [some (.d (pageD n ls)), some (.d (.int n)), x2, some (.r h.length), x4, x5, x6, some (.r (h.length + 1)), x8, x9, none, none, none] ∧ h' = h ++ [.lst (kept.map keptD), .lst ((backM n (kept.drop (kept.length - i))).map qD)]) (fun _ _ _ _ => Chk_nil _) ⟨_, _, _, _, rfl, by simp [backM]⟩ ?_ ?_
  · rintro i dd ρ h' hd ⟨y4, y6, y8, y9, rfl, rfl⟩
    obtain ⟨x, hx, rfl⟩ : ∃ x, kept.reverse[i]? = some x ∧ keptD x = dd := by
      rw [← List.map_reverse, List.getElem?_map] at hd
      exact Option.map_eq_some_iff.mp hd
    have il : i < kept.length := by simpa using (List.getElem?_eq_some_iff.mp hx).1
    have ed : kept.drop (kept.length - (i + 1)) = x :: kept.drop (kept.length - i) := by
      have lt : kept.length - (i + 1) < kept.length := by omega
      rw [List.drop_eq_getElem_cons lt]
      have e1 : kept.length - (i + 1) + 1 = kept.length - i := by omega
      rw [e1]
      congr 1
      rw [List.getElem?_reverse il] at hx
      have e2 : kept.length - 1 - i = kept.length - (i + 1) := by omega
      rw [e2] at hx
      rw [List.getElem?_eq_getElem lt] at hx
      exact Option.some.inj hx
    have xm : x ∈ kept := by
      have := List.mem_of_getElem? hx
      simpa using this
    obtain ⟨S, hq, hbS⟩ := hS x (kept.drop (kept.length - i)) (by rw [← ed]; exact List.drop_suffix _ _)
    rw [ed]
    have ep : backM n (x :: kept.drop (kept.length - i)) = putB n x (backM n (kept.drop (kept.length - i))) := rfl
    rw [ep]
    have bl := back_len n (kept.drop (kept.length - i))
    generalize backM n (kept.drop (kept.length - i)) = p at *
    obtain ⟨xl, xn, nz⟩ := kok x xm
    have xb := kd x xm
    have b5 : bitsQ (4 + 1) x.1 = bitsQ 5 x.1 := rfl
    rw [b5] at xb
    generalize bitsQ 5 x.1 = bx at *
    have kx : keptD x = .tuple [.int (x.1 : Nat), rowLi x.2] := rfl
    rw [kx]
    have ixn := ix_row (r := x.2) (j := n) (by omega)
    have ixj := ix_row (r := x.2) (j := x.1) (by omega)
    have bxn := getD_bd (w := n + 1) ⟨xl, xb⟩ (show n < n + 1 by omega)
    have bxj := getD_bd (w := n + 1) ⟨xl, xb⟩ (show x.1 < n + 1 by omega)
    have pb : putB n x p = p.set x.1 (restM x.1 (fnR x.2) (fnR p) (x.2.getD n 0) n * (x.2.getD x.1 0)⁻¹) := rfl
    rw [pb]
    generalize x.2.getD n 0 = wn at *
    have hR : ∀ i2, i2 ≤ n → Bd (bx + i2 * (bx + S + 1)) (restM x.1 (fnR x.2) (fnR p) wn i2) := by
      intro i2 hi
      induction i2 with
      | zero => unfold restM; exact bxn.mono (by omega)
      | succ i2 ih =>
        have ih := ih (by omega)
        have b1 := getD_bd (w := n + 1) ⟨xl, xb⟩ (show i2 < n + 1 by omega)
        have b2 := getD_bd (w := n) ⟨bl, hq⟩ (show i2 < n by omega)
        unfold restM
        split
        · exact (ih.add (b1.neg.mul b2)).mono (by rw [Nat.succ_mul]; omega)
        · exact ih.mono (by rw [Nat.succ_mul]; omega)
    simp [ixn, small_nat (show n ≤ 100000 by omega)]
    refine wp_for0 (fun i2 ρ h' => ∃ y9, ρ = [some (.d (pageD n ls)), some (.d (.int n)), x2, some (.r h.length), some (.d (.int x.1)), x5, some (.d (rowLi x.2)), some (.r (h.length + 1)), some (.d (qD (restM x.1 (fnR x.2) (fnR p) wn i2))), y9, none, none, none] ∧ h' = h ++ [.lst (kept.map keptD), .lst (p.map qD)]) (fun _ _ _ _ => Chk_nil _) ⟨_, rfl, rfl⟩ ?_ ?_
    · rintro i2 dd ρ h' hd ⟨y9, rfl, rfl⟩
      obtain ⟨hi2, rfl⟩ := rng_get hd
      have ixi := ix_row (r := x.2) (j := i2) (by omega)
      have b1 := getD_bd (w := n + 1) ⟨xl, xb⟩ (show i2 < n + 1 by omega)
      have b2 := getD_bd (w := n) ⟨bl, hq⟩ (show i2 < n by omega)
      have ixp : atI (p.map qD) (i2 : Int) = some (qD (p.getD i2 0)) := by
        rw [DL.atI_nat, gD_lt _ _ _ (by omega)]; simp [bl, hi2]
      have bR := hR i2 (by omega)
      have le : i2 * (bx + S + 1) ≤ 4 * (bx + S + 1) := Nat.mul_le_mul_right _ (by omega)
      have t1 := fun h => law_times_ok (h := h) b1.neg b2 (by omega)
      have p1 := fun h => law_plus_ok (h := h) bR (b1.neg.mul b2) (by omega)
      have e1 : fnR x.2 i2 = x.2.getD i2 0 := rfl
      have e2 : fnR p i2 = p.getD i2 0 := rfl
      have ers : restM x.1 (fnR x.2) (fnR p) wn (i2 + 1) = if i2 ≠ x.1 then restM x.1 (fnR x.2) (fnR p) wn i2 + -x.2.getD i2 0 * p.getD i2 0 else restM x.1 (fnR x.2) (fnR p) wn i2 := rfl
      rw [ers]
      generalize restM x.1 (fnR x.2) (fnR p) wn i2 = Rv at *
      generalize x.2.getD i2 0 = u at *
      generalize p.getD i2 0 = v at *
      have nei : dNe (.int (i2 : Int)) (.int (x.1 : Int)) = some (.bool (decide (i2 ≠ x.1))) := by
        rw [dNe_int]
        have : ((i2 : Int) ≠ (x.1 : Int)) ↔ i2 ≠ x.1 := by omega
        simp [this]
      by_cases hc : i2 = x.1
      · have nei2 : dNe (.int (x.1 : Int)) (.int (x.1 : Int)) = some (.bool false) := by rw [dNe_int]; simp
        simp [nei2, hc]
      · have nei : dNe (.int (i2 : Int)) (.int (x.1 : Int)) = some (.bool true) := by rw [nei]; simp [hc]
        simp [nei, hc, ixi, qD0, qD1, sz_le, neg_pair, vS_r (g2 _), ixp, t1, p1]
    · rintro ρ h' ⟨y9, rfl, rfl⟩
      rw [rng_len]
      have bR := hR n (Nat.le_refl _)
      have le : n * (bx + S + 1) ≤ 4 * (bx + S + 1) := Nat.mul_le_mul_right _ (by omega)
      generalize x.2.getD x.1 0 = lj at *
      have ip := fun h => inv_pair (h := h) bxj nz (by omega)
      have t2 := fun h => law_times_ok (h := h) bR (bd_inv bxj nz) (by omega)
      generalize restM x.1 (fnR x.2) (fnR p) wn n = Rv at *
      have ixs : ixN (p.map qD).length (x.1 : Int) = some x.1 := by
        unfold ixN
        rw [if_pos (by omega), if_pos (by simp; omega)]; rfl
      simp at ixs
      simp [ixj, qD0, qD1, ip, t2, g2, ixs]
  · rintro ρ h' ⟨y4, y6, y8, y9, rfl, rfl⟩
    have vt : ∀ sp, vDs [.r (h.length + 1)] (h ++ [MO.lst (kept.map keptD), MO.lst sp]) = some [.list sp] := fun sp => by simp [vDs, vD]
    simp [vt, spotD]
end

end W_k03

set_option maxHeartbeats 400000
namespace W_k03
open PySem PySem.Spec PyProof.Rows L2 DL
-- at 03
/-! ### bits of the law's point -/
def SbN : Nat → Nat
  | 0 => 1
  | d + 1 => 2 * bitsQ 5 (2 - d) + 3 * (bitsQ 5 (2 - d) + SbN d + 1)
theorem SbN_mono : ∀ {a b : Nat}, a ≤ b → SbN a ≤ SbN b := by
  intro a b h
  induction b with
  | zero => rw [show a = 0 by omega]; exact Nat.le_refl _
  | succ b ih =>
    by_cases e : a = b + 1
    · rw [e]; exact Nat.le_refl _
    · have := ih (by omega)
      show _ ≤ 2 * bitsQ 5 (2 - b) + 3 * (bitsQ 5 (2 - b) + SbN b + 1)
      omega
theorem elimM_asc (L : List (List Rat)) : ∀ j, (∀ x ∈ (elimM L (List.range j)).2, x.1 < j) ∧ (elimM L (List.range j)).2.Pairwise (fun x y => x.1 < y.1)
  | 0 => ⟨(fun x hx => by cases hx), List.Pairwise.nil⟩
  | j + 1 => by
    obtain ⟨a, b⟩ := elimM_asc L j
    rw [elimM_snoc]
    generalize elimM L (List.range j) = s at *
    cases hp : s.1.filter (fun r => decide (r.getD j 0 ≠ 0)) with
    | nil =>
      rw [stepM_none hp]
      exact ⟨fun x hx => by have := a x hx; omega, b⟩
    | cons lead ps =>
      rw [stepM_some hp]
      refine ⟨fun x hx => ?_, ?_⟩
      · rcases List.mem_append.mp hx with hx | hx
        · have := a x hx; omega
        · have : x = (j, lead) := by simpa using hx
          rw [this]
          show j < j + 1
          omega
      · rw [List.pairwise_append]
        refine ⟨b, List.pairwise_singleton _ _, fun x hx y hy => ?_⟩
        have : y = (j, lead) := by simpa using hy
        rw [this]
        exact a x hx
theorem restM_bd {n bx S : Nat} {lead p : List Rat} {w : Rat} {j : Nat} (hl : lead.length = n + 1 ∧ ∀ q ∈ lead, Bd bx q) (hp : p.length = n ∧ ∀ q ∈ p, Bd S q) (hw : Bd bx w) : ∀ i, i ≤ n → Bd (bx + i * (bx + S + 1)) (restM j (fnR lead) (fnR p) w i)
  | 0, _ => by unfold restM; exact hw.mono (by omega)
  | i + 1, hi => by
    have ih := restM_bd (j := j) hl hp hw i (by omega)
    have b1 := getD_bd hl (show i < n + 1 by omega)
    have b2 := getD_bd hp (show i < n by omega)
    unfold restM
    split
    · exact (ih.add (b1.neg.mul b2)).mono (by rw [Nat.succ_mul]; omega)
    · exact ih.mono (by rw [Nat.succ_mul]; omega)
theorem putB_bd {n bx S : Nat} {x : Nat × List Rat} {p : List Rat} (hl : x.2.length = n + 1 ∧ ∀ q ∈ x.2, Bd bx q) (hp : p.length = n ∧ ∀ q ∈ p, Bd S q) (hx : x.1 < n) (nz : x.2.getD x.1 0 ≠ 0) : ∀ q ∈ putB n x p, Bd (2 * bx + n * (bx + S + 1)) q := by
  have r := restM_bd (j := x.1) hl hp (getD_bd hl (show n < n + 1 by omega)) n (Nat.le_refl _)
  have b := bd_inv (getD_bd hl (show x.1 < n + 1 by omega)) nz
  intro q hq
  unfold putB at hq
  rcases List.mem_or_eq_of_mem_set hq with hq | rfl
  · refine (hp.2 q hq).mono ?_
    have : 1 * (bx + S + 1) ≤ n * (bx + S + 1) := Nat.mul_le_mul_right _ (by omega)
    omega
  · exact (r.mul b).mono (by omega)
theorem back_bd {n : Nat} (hn : n ≤ 3) : ∀ (t : List (Nat × List Rat)) (c : Nat), (∀ x ∈ t, c ≤ x.1 ∧ x.1 < n ∧ x.2.length = n + 1 ∧ x.2.getD x.1 0 ≠ 0 ∧ ∀ q ∈ x.2, Bd (bitsQ 5 x.1) q) → t.Pairwise (fun x y => x.1 < y.1) → ∀ q ∈ backM n t, Bd (SbN (3 - c)) q
  | [], c, _, _ => fun q hq => by
    have : q = 0 := List.eq_of_mem_replicate hq
    rw [this]
    have one : Bd 1 0 := ⟨by show (0 : Int).natAbs < 2 ^ 1; decide, by show 1 < 2 ^ 1; decide⟩
    exact one.mono (SbN_mono (Nat.zero_le _))
  | x :: t, c, h, hp => by
    obtain ⟨h1, h2⟩ := List.pairwise_cons.mp hp
    obtain ⟨cx, xn, xl, nz, xb⟩ := h x List.mem_cons_self
    have ih := back_bd hn t (x.1 + 1) (fun y hy => by
      obtain ⟨a, b⟩ := h y (List.mem_cons_of_mem _ hy)
      exact ⟨h1 y hy, b⟩) h2
    have p := putB_bd (S := SbN (3 - (x.1 + 1))) ⟨xl, xb⟩ ⟨back_len n t, ih⟩ xn nz
    intro q hq
    refine (p q hq).mono ?_
    have e : 3 - x.1 = (3 - (x.1 + 1)) + 1 := by omega
    have m := SbN_mono (show 3 - x.1 ≤ 3 - c by omega)
    rw [e] at m
    refine Nat.le_trans ?_ m
    show _ ≤ 2 * bitsQ 5 (2 - (3 - (x.1 + 1))) + 3 * (bitsQ 5 (2 - (3 - (x.1 + 1))) + SbN (3 - (x.1 + 1)) + 1)
    rw [show 2 - (3 - (x.1 + 1)) = x.1 by omega]
    have : n * (bitsQ 5 x.1 + SbN (3 - (x.1 + 1)) + 1) ≤ 3 * (bitsQ 5 x.1 + SbN (3 - (x.1 + 1)) + 1) := Nat.mul_le_mul_right _ hn
    omega
theorem ext_rows {n : Nat} {ls : List Ln} (k : ∀ l ∈ ls, LineOk n 4 l) : RowsQ (n + 1) 5 (ls.map lineR) := by
  have rb := rows_bd (rows := ls.map rowL) (w := n + 1) (b := 4) (fun r hr => by
    obtain ⟨l, hl, rfl⟩ := List.mem_map.mp hr
    simp [rowL, (k l hl).len]) (fun r hr x hx => by
    obtain ⟨l, hl, rfl⟩ := List.mem_map.mp hr
    exact (k l hl).bits x hx)
  have e : ((ls.map rowL).map castR) = ls.map lineR := by simp [Function.comp_def, lineR]
  rw [e] at rb
  exact rb
theorem three_bits {n : Nat} {ls : List Ln} (k : ∀ l ∈ ls, LineOk n 4 l) (hn : n ≤ 3) : (∀ x t, (x :: t) <:+ (elimM (ls.map lineR) (List.range n)).2 → ∃ S, (∀ q ∈ backM n t, Bd S q) ∧ bitsQ 5 x.1 + S ≤ 1500) ∧ ∀ q ∈ meetP n ls, Bd 4231 q := by
  have rb := ext_rows k
  have kd := (elimM_ok rb n (by omega)).2.2.2
  obtain ⟨_, kok, _⟩ := elimM_inv (fun r hr => (rb r hr).1) n
  obtain ⟨_, asc⟩ := elimM_asc (ls.map lineR) n
  have all : ∀ x ∈ (elimM (ls.map lineR) (List.range n)).2, 0 ≤ x.1 ∧ x.1 < n ∧ x.2.length = n + 1 ∧ x.2.getD x.1 0 ≠ 0 ∧ ∀ q ∈ x.2, Bd (bitsQ 5 x.1) q := fun x hx => ⟨Nat.zero_le _, (kok x hx).2.1, (kok x hx).1, (kok x hx).2.2, kd x hx⟩
  refine ⟨fun x t hs => ?_, back_bd hn _ 0 all asc⟩
  have sub := hs.subset
  have as' := asc.sublist hs.sublist
  obtain ⟨h1, h2⟩ := List.pairwise_cons.mp as'
  obtain ⟨_, xn, _⟩ := all x (sub List.mem_cons_self)
  refine ⟨SbN (3 - (x.1 + 1)), back_bd hn t (x.1 + 1) (fun y hy => by
    obtain ⟨_, b⟩ := all y (sub (List.mem_cons_of_mem _ hy))
    exact ⟨h1 y hy, b⟩) h2, ?_⟩
  have : x.1 = 0 ∨ x.1 = 1 ∨ x.1 = 2 := by omega
  rcases this with e | e | e <;> rw [e] <;> decide

end W_k03

set_option maxHeartbeats 400000
namespace W_k03
open PySem PySem.Spec PyProof.Rows L2 DL
-- at 03
/-! ### walls of 0; books with a question less, or turned -/
theorem elimM_wall {n : Nat} {L : List (List Rat)} (hL : ∀ r ∈ L, r.length = n + 1) (h0 : ∀ r ∈ L, fnR r n = 0) : ∀ j, (∀ r ∈ (elimM L (List.range j)).1, r.length = n + 1 ∧ fnR r n = 0) ∧ ∀ x ∈ (elimM L (List.range j)).2, fnR x.2 n = 0
  | 0 => ⟨fun r hr => ⟨hL r hr, h0 r hr⟩, fun x hx => by cases hx⟩
  | j + 1 => by
    obtain ⟨a, b⟩ := elimM_wall hL h0 j
    rw [elimM_snoc]
    generalize elimM L (List.range j) = s at *
    cases hp : s.1.filter (fun r => decide (r.getD j 0 ≠ 0)) with
    | nil =>
      rw [stepM_none hp]
      exact ⟨a, b⟩
    | cons lead ps =>
      obtain ⟨lm, nz⟩ := leadM_spec hp
      rw [stepM_some hp]
      have al := a lead lm
      refine ⟨fun r hr => ?_, fun x hx => ?_⟩
      · obtain ⟨q, hq, rfl⟩ := List.mem_map.mp hr
        have aq := a q hq
        refine ⟨lessM_len al.1 aq.1, ?_⟩
        rw [fn_lessM al.1 aq.1 nz]
        show fnR q n + -(fnR q j / fnR lead j) * fnR lead n = 0
        rw [aq.2, al.2]
        grind
      · rcases List.mem_append.mp hx with hx | hx
        · exact b x hx
        · have : x = (j, lead) := by simpa using hx
          rw [this]
          exact al.2
theorem fn_zeros (n : Nat) (k : Nat) : fnR (List.replicate n 0) k = 0 := by
  show (List.replicate n (0 : Rat)).getD k 0 = 0
  by_cases hk : k < n
  · rw [gD_lt _ _ _ (by simpa using hk)]; simp
  · rw [gD_ge _ _ _ (by simpa using hk)]
theorem back_zeros {n : Nat} : ∀ {t : List (Nat × List Rat)}, (∀ x ∈ t, fnR x.2 n = 0) → backM n t = List.replicate n 0
  | [], _ => rfl
  | x :: t, h => by
    have ih := back_zeros fun y hy => h y (List.mem_cons_of_mem _ hy)
    show putB n x (backM n t) = _
    rw [ih]
    have r : ∀ i, restM x.1 (fnR x.2) (fnR (List.replicate n 0)) (x.2.getD n 0) i = 0 := fun i => by
      induction i with
      | zero => exact h x List.mem_cons_self
      | succ i ih =>
        unfold restM
        rw [ih, fn_zeros]
        split <;> grind
    unfold putB
    rw [r]
    apply List.ext_getElem (by simp)
    intro i h1 h2
    rw [List.getElem_set]
    split
    · simp
    · rfl
theorem zero_bits {n : Nat} {ls : List Ln} (k : ∀ l ∈ ls, LineOk n 4 l) (hn : n ≤ 4) (h0 : ∀ l ∈ ls, l.2 = 0) : (∀ x t, (x :: t) <:+ (elimM (ls.map lineR) (List.range n)).2 → ∃ S, (∀ q ∈ backM n t, Bd S q) ∧ bitsQ 5 x.1 + S ≤ 1500) ∧ ∀ q ∈ meetP n ls, Bd 4231 q := by
  have rb := ext_rows k
  have w := (elimM_wall (n := n) (fun r hr => (rb r hr).1) (fun r hr => by
    obtain ⟨l, hl, rfl⟩ := List.mem_map.mp hr
    show (castR (l.1 ++ [l.2])).getD n 0 = 0
    have len := (k l hl).len
    unfold castR
    rw [gD_lt _ _ _ (by simp; omega)]
    simp [len, h0 l hl]) n).2
  obtain ⟨_, kok, _⟩ := elimM_inv (fun r hr => (rb r hr).1) n
  have one : Bd 1 0 := ⟨by show (0 : Int).natAbs < 2 ^ 1; decide, by show 1 < 2 ^ 1; decide⟩
  refine ⟨fun x t hs => ⟨1, fun q hq => ?_, ?_⟩, fun q hq => ?_⟩
  · rw [back_zeros fun y hy => w y (hs.subset (List.mem_cons_of_mem _ hy))] at hq
    rw [List.eq_of_mem_replicate hq]
    exact one
  · have xn := (kok x (hs.subset List.mem_cons_self)).2.1
    have := small_bits (w := 5) (j := x.1) (by omega) (by omega)
    have : bitsQ 5 x.1 ≤ bitsQ 5 3 := bitsQ_le (by omega)
    have e : bitsQ 5 3 = 341 := by decide
    omega
  · unfold meetP at hq
    rw [back_zeros w] at hq
    rw [List.eq_of_mem_replicate hq]
    exact one.mono (by omega)
theorem rk_cut {n m i : Nat} {ls : List Ln} (k : ∀ l ∈ ls, LineOk n m l) (hi : i < ls.length) : rkE ((cutL ls i).map (·.1)) n ≤ rkE (ls.map (·.1)) n ∧ rkE (ls.map (·.1)) n ≤ rkE ((cutL ls i).map (·.1)) n + 1 := by
  have a := fun j => rk_minor (rows := ls.map (·.1)) (w := n) (fun r hr => by
    obtain ⟨l, hl, rfl⟩ := List.mem_map.mp hr
    exact (k l hl).len) j
  have b := fun j => rk_minor (rows := (cutL ls i).map (·.1)) (w := n) (fun r hr => by
    obtain ⟨l, hl, rfl⟩ := List.mem_map.mp hr
    exact (k l ((cutL_sub ls i).subset hl)).len) j
  have pm := (((cutL_perm ls i hi).map (·.1)).map castR).map fnR
  rw [List.map_cons, List.map_cons, List.map_cons] at pm
  constructor
  · refine (a _).mp ((minor_perm pm).mpr (minor_more ((b _).mpr (Nat.le_refl _))))
  · cases hr : rkE (ls.map (·.1)) n with
    | zero => omega
    | succ r =>
      have := (a (r + 1)).mpr (by omega)
      have := (b r).mp (minor_less ((minor_perm pm).mp this))
      omega
theorem minor_neg {k : Nat} {p q : Rw} {A : List Rw} {cs : List Nat} (h : ∀ k, q k = -p k) (m : Minor k (p :: A) cs) : Minor k (q :: A) cs := by
  have eq : q = fun k => (fun _ => (0 : Rat)) k + -1 * p k := by
    funext k
    rw [h]
    grind
  obtain ⟨S, R, T, a, b, c, d, e⟩ := m
  by_cases hm : p ∈ S
  · obtain ⟨S1, S2, rfl⟩ := List.append_of_mem hm
    refine ⟨S1 ++ q :: S2, R, T, ?_, b, by simpa using c, d, ?_⟩
    · have z : (p :: (S1 ++ S2 ++ R)).Perm (p :: A) := by
        refine List.Perm.trans ?_ a
        have := (perm_mid S1 S2 p).symm.append_right R
        simpa using this
      have z2 := (z.cons_inv).cons q
      refine List.Perm.trans ?_ z2
      have := (perm_mid S1 S2 q).append_right R
      simpa using this
    · have l := det_lin (-1) (fun _ => (0 : Rat)) p S1 S2 T
      have z0 : det (S1 ++ (fun _ => (0 : Rat)) :: S2) T = 0 := det_zrow (z := fun _ => (0 : Rat)) (fun _ => rfl) (List.mem_append_right _ List.mem_cons_self)
      rw [← eq, z0] at l
      have fin : ∀ x : Rat, x ≠ 0 → 0 + -1 * x ≠ 0 := fun x h => by grind
      rw [l]
      exact fin _ e
  · have m2 : p ∈ R := by
      have := a.symm.subset (List.mem_cons_self (a := p) (l := A))
      rcases List.mem_append.mp this with h | h
      · exact absurd h hm
      · exact h
    obtain ⟨R1, R2, rfl⟩ := List.append_of_mem m2
    refine ⟨S, R1 ++ q :: R2, T, ?_, b, c, d, e⟩
    have z : (p :: (S ++ (R1 ++ R2))).Perm (p :: A) := by
      refine List.Perm.trans ?_ a
      have := (perm_mid (S ++ R1) R2 p).symm
      simpa using this
    have z2 := (z.cons_inv).cons q
    refine List.Perm.trans ?_ z2
    have := perm_mid (S ++ R1) R2 q
    simpa using this
theorem fn_neg {l : List Int} (k : Nat) : fnR (castR (l.map fun x => -x)) k = -fnR (castR l) k := by
  show (castR (l.map fun x => -x)).getD k 0 = -(castR l).getD k 0
  unfold castR
  by_cases hk : k < l.length
  · rw [gD_lt _ _ _ (by simpa using hk), gD_lt _ _ _ (by simpa using hk)]
    simp
  · rw [gD_ge _ _ _ (by simpa using hk), gD_ge _ _ _ (by simpa using hk)]
    grind
theorem set_perm {α : Type} (l : List α) (i : Nat) (x : α) (h : i < l.length) : (l.set i x).Perm (x :: cutL l i) := by
  rw [List.set_eq_take_append_cons_drop, if_pos h]
  exact perm_mid _ _ _
/-- a row turned changes no rank -/
theorem rk_turn {w i : Nat} {rows : List (List Int)} (hl : ∀ r ∈ rows, r.length = w) (hi : i < rows.length) : rkE (rows.set i (rows[i].map fun x => -x)) w = rkE rows w := by
  have hl2 : ∀ r ∈ rows.set i (rows[i].map fun x => -x), r.length = w := fun r hr => by
    rcases List.mem_or_eq_of_mem_set hr with hr | hr
    · exact hl r hr
    · rw [hr, List.length_map]; exact hl _ (List.getElem_mem hi)
  apply le_all
  intro j
  rw [← rk_minor hl2, ← rk_minor hl]
  have p1 := ((set_perm rows i (rows[i].map fun x => -x) hi).map castR).map fnR
  have p2 := ((cutL_perm rows i hi).map castR).map fnR
  rw [List.map_cons, List.map_cons] at p1 p2
  rw [minor_perm p1, minor_perm p2]
  exact ⟨fun m => minor_neg (fun k => by rw [fn_neg]; grind) m, fun m => minor_neg (fun k => fn_neg k) m⟩

end W_k03

set_option maxHeartbeats 400000
namespace W_k03
open PySem PySem.Spec PyProof.Rows L2 DL
-- at 03
/-! ### one book tried, all -/
theorem dEq_nilTq {k : Nat} {xs : List D} (e : okD k (.tuple xs)) (hk : k ≤ 64) : dEq (.tuple xs) (.tuple []) = some (.bool xs.isEmpty) := by
  unfold dEq
  rw [if_pos ⟨shaped_ok e hk, rfl⟩]
  cases xs <;> simp [PyData.eqv, PyData.eqvAll]
theorem log_len {k : Nat} (h : k ≤ 6) : (k : Int).natAbs.log2 < 63 := by
  have : k = 0 ∨ k = 1 ∨ k = 2 ∨ k = 3 ∨ k = 4 ∨ k = 5 ∨ k = 6 := by omega
  rcases this with rfl | rfl | rfl | rfl | rfl | rfl | rfl <;> decide
section
variable {h : Hs} {E : DL.EP} {Q : Val → Hs → Prop} {n m B w : Nat} {ls : List Ln}
theorem right_wp {i : Nat} (k : PageOk n 4 ls) (hn : n ≤ 4) (h6 : ls.length ≤ 6) (hb : (∀ x t, (x :: t) <:+ (elimM (ls.map lineR) (List.range n)).2 → ∃ S, (∀ q ∈ backM n t, Bd S q) ∧ bitsQ 5 x.1 + S ≤ 1500) ∧ ∀ q ∈ meetP n ls, Bd 4231 q) (d : DeckAt i h) (q : ∀ h', Dk i h h' → Q (.d (.bool true)) h') : wpR (F__law_right [.r i, .d (pageD n ls)] h) Q E := by
  have lt := d.lt
  have r1 := fun h => law_rank_ok (h := h) (rows := ls.map (·.1)) (w := n) (b := 4) (fun r hr => by
    obtain ⟨l, hl, rfl⟩ := List.mem_map.mp hr
    exact (k.line l hl).len) (fun r hr x hx => by
    obtain ⟨l, hl, rfl⟩ := List.mem_map.mp hr
    exact (k.line l hl).bits x (List.mem_append_left _ hx)) (by simpa using h6) (by omega) (by omega)
  have r2 := fun h => law_rank_ok (h := h) (rows := ls.map rowL) (w := n + 1) (b := 4) (fun r hr => by
    obtain ⟨l, hl, rfl⟩ := List.mem_map.mp hr
    simp [rowL, (k.line l hl).len]) (fun r hr x hx => by
    obtain ⟨l, hl, rfl⟩ := List.mem_map.mp hr
    exact (k.line l hl).bits x hx) (by simpa using h6) (by omega) (by omega)
  have pr := fun h => rank_ok (h := h) k (by omega) (by omega)
  have pa := fun h => at_once_ok (h := h) k (by omega) (by omega)
  have e2 : ((n + 1 : Nat) : Int) = (n : Int) + 1 := by omega
  rw [e2] at r2
  unfold F__law_right G__law_right
  rw [wpR_mkF]
  refine ⟨rfl, ?_⟩
  have pd : pageD n ls = .tuple [.int n, .tuple (ls.map lineD)] := rfl
  have l0 : ∀ l : Ln, dIx (lineD l) (.int 0) = some (.tuple (l.1.map .int)) := fun _ => rfl
  have l1 : ∀ l : Ln, dIx (lineD l) (.int 1) = some (.int l.2) := fun _ => rfl
  simp only [startE, List.map_cons, List.map_nil, List.length_cons, List.length_nil, List.cons_append, List.nil_append, List.replicate]
  generalize hdue : rkE (ls.map (·.1)) n = due at *
  generalize hmet : rkE (ls.map rowL) (n + 1) = met at *
  refine wpS_cut (fun ρ h' => h' = h ∧ ρ = [some (.r i), some (.d (pageD n ls)), some (.d (.int n)), some (.d (.tuple (ls.map lineD))), none, none, none, none, none]) ?_ ?_
  · rw [pd]
    simp
  rintro ρ h1 ⟨rfl, rfl⟩
  refine wpS_cut (fun ρ h' => h' = h1 ∧ ρ = [some (.r i), some (.d (pageD n ls)), some (.d (.int n)), some (.d (.tuple (ls.map lineD))), some (.d (.int due)), none, none, none, none]) ?_ ?_
  · simp
    refine wp_lc_map lineD (fun l => rowI2 l.1) rfl (Chk_nil _) (sz_le (by omega)) (fun l hl => by
      have e : dList (.tuple (l.1.map .int)) = some (rowI2 l.1) := rfl
      simp [l0, e]) ?_
    have em : (ls.map fun l => rowI2 l.1) = (ls.map (·.1)).map rowI2 := by simp [Function.comp_def]
    rw [em]
    generalize (ls.map (·.1)).map rowI2 = RL at *
    simp [r1]
  rintro ρ h2 ⟨rfl, rfl⟩
  refine wpS_cut (fun ρ h' => h' = h2 ∧ ρ = [some (.r i), some (.d (pageD n ls)), some (.d (.int n)), some (.d (.tuple (ls.map lineD))), some (.d (.int due)), some (.d (.bool (decide (met = due)))), none, none, none]) ?_ ?_
  · simp
    refine wp_lc_map lineD (fun l => rowI2 (rowL l)) rfl (Chk_nil _) (sz_le (by omega)) (fun l hl => by
      have len := (k.line l hl).len
      have e : dList (.tuple (l.1.map .int)) = some (.list (l.1.map .int)) := rfl
      have ad : dAdd (.list (l.1.map .int)) (.list [.int l.2]) = some (rowI2 (rowL l)) := by
        show (if _ then _ else _) = _
        rw [if_pos (sz_le (by simp; omega))]
        simp [rowI2, rowL]
      simp [l0, l1, e, sz_le, ad]) ?_
    have em : (ls.map fun l => rowI2 (rowL l)) = (ls.map rowL).map rowI2 := by simp [Function.comp_def]
    rw [em]
    generalize (ls.map rowL).map rowI2 = RL at *
    have cst : ((met : Int) = (due : Int)) ↔ met = due := by omega
    simp [r2, dEq_int, cst]
  rintro ρ h3 ⟨rfl, rfl⟩
  have s4 := fun h => same_ok (h := h) (.list [.int due, .int due, .bool (decide (met = due)), .bool (decide (met = due))]) (by
    refine ⟨by simp, fun x hx => ?_⟩
    simp only [List.mem_cons, List.not_mem_nil, or_false] at hx
    rcases hx with rfl | rfl | rfl | rfl <;> exact True.intro)
  have s2 := fun h => same_ok (h := h) (.list [.int due, .bool (decide (met = due))]) (by
    refine ⟨by simp, fun x hx => ?_⟩
    simp only [List.mem_cons, List.not_mem_nil, or_false] at hx
    rcases hx with rfl | rfl <;> exact True.intro)
  generalize hmb : decide (met = due) = mb at *
  rw [wpS_sSeq]
  simp [pr, pa, byPi, sz_le, s4, -wpS_sSeq]
  refine wpS_cut (fun ρ h' => h' = h3 ∧ ρ = [some (.r i), some (.d (pageD n ls)), some (.d (.int n)), some (.d (.tuple (ls.map lineD))), some (.d (.int due)), some (.d (.bool mb)), none, none, none]) ?_ ?_
  · by_cases hm : met = due
    · have mt : mb = true := by rw [← hmb]; exact decide_eq_true hm
      have lm := fun h => law_meeting_ok (h := h) k.line hn h6 hb.1
      have sp : SpotOk n 4 4231 (meetP n ls) := ⟨back_len n _, hb.2, by omega⟩
      have ro := fun h => row_of_ok (h := h) k sp
      rw [met_row k.line (by rw [hmet, hdue]; exact hm)] at ro
      have dm : dMul (.tuple [.int 0]) (.int ls.length) = some (intsD (List.replicate ls.length 0)) := by
        show (if _ then _ else _) = _
        rw [if_pos ⟨log_len h6, by omega, by decide⟩]
        simp [intsD, flatten_one]
      have sz := fun h => same_ok (h := h) (intsD (List.replicate ls.length 0)) ⟨by simp; omega, fun x hx => by
        obtain ⟨y, _, rfl⟩ := List.mem_map.mp hx
        exact True.intro⟩
      generalize intsD (List.replicate ls.length 0) = zs at *
      simp [mt, lm, ro, sz_le, dm, sz]
    · have mf : mb = false := by rw [← hmb]; exact decide_eq_false hm
      simp [mf]
  rintro ρ h4 ⟨rfl, rfl⟩
  have okl := (okD_lines (by omega : n ≤ 4000) (by omega) k.line).1
  have ne := dEq_nilTq okl (by omega)
  have tk : ∀ h' : Hs, h'.length = h4.length → h'.take h4.length = h' := fun h' e => List.take_of_length_le (by omega)
  by_cases hz : ls = []
  · subst hz
    simp at ne
    simp [ne]
    exact q _ (Dk.refl d)
  · have lpos : 0 < ls.length := List.length_pos_iff.mpr hz
    simp [ne, hz]
    refine take_wp d (by omega) (log_small (by omega)) fun t h5 t0 t1 d5 => ?_
    obtain ⟨j, rfl⟩ : ∃ j : Nat, t = (j : Int) := ⟨t.toNat, by omega⟩
    have jl : j < ls.length := by omega
    have wo := fun h => without_ok (h := h) (i := j) k jl
    have kc := k.cut j
    have rc := rk_cut k.line jl
    have cl := (cutL_sub ls j).length_le
    have pc := fun h => rank_ok (h := h) kc (by omega) (by omega)
    have tu := fun h => turned_ok (h := h) (i := j) k jl
    have kt := k.turn jl
    have pt := fun h => rank_ok (h := h) kt (by omega) (by simp; omega)
    have at_ := fun h => at_once_ok (h := h) kt (by omega) (by simp; omega)
    have m1 : (ls.set j (turnL ls[j])).map (fun l : Ln => l.1) = (ls.map fun l : Ln => l.1).set j (((ls.map fun l : Ln => l.1)[j]'(by simpa using jl)).map fun x => -x) := by
      rw [List.map_set]; simp [turnL]
    have m2 : (ls.set j (turnL ls[j])).map rowL = (ls.map rowL).set j (((ls.map rowL)[j]'(by simpa using jl)).map fun x => -x) := by
      rw [List.map_set]; simp [rowL_turn]
    have t1 := rk_turn (rows := ls.map (·.1)) (w := n) (i := j) (fun r hr => by
      obtain ⟨l, hl, rfl⟩ := List.mem_map.mp hr
      exact (k.line l hl).len) (by simpa using jl)
    have t2 := rk_turn (rows := ls.map rowL) (w := n + 1) (i := j) (fun r hr => by
      obtain ⟨l, hl, rfl⟩ := List.mem_map.mp hr
      simp [rowL, (k.line l hl).len]) (by simpa using jl)
    rw [← m1, hdue] at t1
    rw [← m2, hmet] at t2
    rw [t1] at pt
    rw [t1, t2, hmb] at at_
    rw [hdue] at rc
    generalize rkE ((cutL ls j).map (·.1)) n = less at *
    have di : dIn false (.int (less : Int)) (.list [.int ((due : Int) - 1), .int (due : Int)]) = some (.bool true) := by
      have c : less = due ∨ ((less : Int) = (due : Int) - 1 ∧ less ≠ due) := by omega
      have sh : SeqAt.shaped (.list [.int ((due : Int) - 1), .int (due : Int)]) = true := shaped_ok (k := 3) ⟨by simp, fun x hx => by
        simp only [List.mem_cons, List.not_mem_nil, or_false] at hx
        rcases hx with rfl | rfl <;> exact True.intro⟩ (by omega)
      have si : SeqAt.shaped (.int (less : Int)) = true := rfl
      simp only [dIn]
      rw [if_pos ⟨si, sh⟩]
      rcases c with c | ⟨c, _⟩
      · rw [c]; simp [inD, PyData.eqv]
      · rw [c]; simp [inD, PyData.eqv]
    have l5 := d5.len
    simp [wo, pc, sz_le, di, tu, pt, at_, s2, tk _ l5]
    exact q _ d5
end

end W_k03

set_option maxHeartbeats 400000
namespace W_k03
open PySem PySem.Spec PyProof.Rows L2 DL
-- at 03
/-! ### webs drawn -/
def tieQ (n : Nat) (i j : Nat) : Ln := ((List.range n).map (fun k : Nat => ((if k = i then 1 else 0) - (if k = j then 1 else 0) : Int)), 0)
def pairsT (n : Nat) : List (Nat × Nat) := (List.range n).flatMap fun i => (List.range (n - (i + 1))).map fun k => (i, i + 1 + k)
theorem tieQ_facts : ∀ n ∈ [2, 3, 4], (∀ p ∈ pairsT n, (tieQ n p.1 p.2).1.length = n ∧ (∃ x ∈ (tieQ n p.1 p.2).1, x ≠ 0) ∧ ∀ x ∈ rowL (tieQ n p.1 p.2), x.natAbs < 2 ^ 4) ∧ ((pairsT n).map fun p => ground (rowL (tieQ n p.1 p.2))).Nodup ∧ (pairsT n).length ≤ 6 := by decide +kernel
def preW (n i : Nat) : List (Nat × Nat) := (List.range i).flatMap fun i => (List.range (n - (i + 1))).map fun k => (i, i + 1 + k)
theorem preW_succ (n i : Nat) : preW n (i + 1) = preW n i ++ (List.range (n - (i + 1))).map fun k => (i, i + 1 + k) := by
  unfold preW
  rw [List.range_succ, List.flatMap_append]; simp
def tieP (n : Nat) (p : Nat × Nat) : Ln := tieQ n p.1 p.2
section
variable {h : Hs} {E : DL.EP} {Q : Val → Hs → Prop} {n : Nat}
/-- the ties taken so far -/
def WebMid (i n lp : Nat) (h : Hs) (ps : List (Nat × Nat)) (ρ : DL.Env) (h' : Hs) : Prop := ∃ (ts : List (Nat × Nat)) (x3 x4 : Option Val), ρ = [some (.r i), some (.d (.int n)), some (.r lp), x3, x4, none] ∧ ts.Sublist ps ∧ lp ≠ i ∧ h.length ≤ lp ∧ h'[lp]? = some (.lst (ts.map fun p => lineD (tieP n p))) ∧ Dl i h h'
theorem law_web_wp {i : Nat} (d : DeckAt i h) (q : ∀ n ls h', 2 ≤ n → n ≤ 4 → PageOk n 4 ls → ls.length ≤ 6 → (∀ l ∈ ls, l.2 = 0) → Dk i h h' → Q (.d (pageD n ls)) h') : wpR (F__law_web [.r i] h) Q E := by
  have lt := d.lt
  unfold F__law_web G__law_web
  rw [wpR_mkF]
  refine ⟨rfl, ?_⟩
  simp only [startE, List.map_cons, List.map_nil, List.length_cons, List.length_nil, List.cons_append, List.nil_append, List.replicate]
  refine wpS_cut (fun ρ h' => ∃ n lp, 2 ≤ n ∧ n ≤ 4 ∧ WebMid i n lp h (preW n 0) ρ h') ?_ ?_
  · simp
    refine take_wp (m := 3) d (by decide) (by decide) fun t h1 t0 t1 d1 => ?_
    obtain ⟨m, rfl⟩ : ∃ m : Nat, t = (m : Int) := ⟨t.toNat, by omega⟩
    have l1 := d1.len
    simp [sz_le]
    refine ⟨2 + m, by omega, by omega, h1.length, [], none, none, by simp, by simp [preW], by omega, by omega, by simp, (Dl.of d1).push _⟩
  rintro ρ h1 ⟨n, lp, n2, n4, hm⟩
  have sn : smallI (n : Int) = true := small_nat (k := n) (by omega)
  refine wpS_cut (fun ρ h' => WebMid i n lp h (preW n n) ρ h') ?_ ?_
  · obtain ⟨ts, x3, x4, rfl, sub, li, lh, at1, d1⟩ := id hm
    simp [sn]
    refine wp_for0 (fun a ρ h' => WebMid i n lp h (preW n a) ρ h') (fun _ _ _ _ => Chk_nil _) hm ?_ ?_
    · rintro a dd ρ h2 hd ⟨ts, x3, x4, rfl, sub, li, lh, at1, d1⟩
      obtain ⟨ha, rfl⟩ := rng_get hd
      have sa : smallI ((a : Int) + 1) = true := small_nat (k := a + 1) (by omega)
      have e1 : ((n : Int) - ((a : Int) + 1)).toNat = n - (a + 1) := by omega
      rw [preW_succ]
      simp [sa, sn, e1]
      refine wp_for0 (fun k ρ h' => ∃ (ts : List (Nat × Nat)) (x4 : Option Val), ρ = [some (.r i), some (.d (.int n)), some (.r lp), some (.d (.int a)), x4, none] ∧ ts.Sublist (preW n a ++ (List.range k).map fun k => (a, a + 1 + k)) ∧ h'[lp]? = some (.lst (ts.map fun p => lineD (tieP n p))) ∧ Dl i h h') (fun _ _ _ _ => Chk_nil _) ⟨ts, _, rfl, by simpa using sub, at1, d1⟩ ?_ ?_
      · rintro k dd ρ h3 hd ⟨ts, y4, rfl, sub, at2, d2⟩
        obtain ⟨hk, rfl⟩ : k < n - (a + 1) ∧ dd = .int ((a + 1 + k : Nat) : Int) := by
          unfold rng at hd
          rw [List.getElem?_map] at hd
          by_cases hk : k < n - (a + 1)
          · rw [List.getElem?_range hk] at hd
            refine ⟨hk, ?_⟩
            have : dd = .int ((a : Int) + 1 + (k : Nat)) := by simpa using hd.symm
            rw [this]
            congr 1
          · rw [List.getElem?_eq_none (by simpa using hk)] at hd
            cases hd
        have e2 : preW n a ++ (List.range (k + 1)).map (fun k => (a, a + 1 + k)) = (preW n a ++ (List.range k).map fun k => (a, a + 1 + k)) ++ [(a, a + 1 + k)] := by
          rw [List.range_succ]; simp
        rw [e2]
        simp
        refine take_wp (m := 4) d2.deck (by decide) (by decide) fun t h4 t0 t1 d3 => ?_
        have d3' := d2.step d3
        have at3 := (d3.oth _ li).trans at2
        by_cases ht : 0 < t
        · have eqi : ∀ k l : Nat, dEq (.int (k : Int)) (.int (l : Int)) = some (.bool (decide (k = l))) := fun k l => by rw [dEq_int]; simp; omega
          have rg : rng 0 n = (List.range n).map fun k : Nat => PyData.int (k : Int) := by simp [rng]
          have p6 : ts.length ≤ 1000 := by
            have h1 := sub.length_le
            have h2 : (preW n a).length ≤ 16 := by
              have z : ∀ n ∈ List.range 5, ∀ a ∈ List.range 5, (preW n a).length ≤ 16 := by decide
              exact z n (by simp; omega) a (by simp; omega)
            simp at h1
            omega
          have gl : ts.length < sizeLine := Nat.lt_of_le_of_lt p6 (by rw [sizeLine_eq]; omega)
          have lp4 : lp < h4.length := (List.getElem?_eq_some_iff.mp at3).1
          have eq2 : ∀ c : Nat, dEq (.int (c : Int)) (.int ((a : Int) + 1 + (k : Int))) = some (.bool (decide (c = a + 1 + k))) := fun c => by
            have := eqi c (a + 1 + k)
            rw [← this]
            congr 2
          simp [ht, at3, sn, rg]
          refine wp_lc_map (fun k : Nat => .int (k : Int)) (fun c : Nat => .int ((if c = a then 1 else 0) - (if c = a + 1 + k then 1 else 0))) rfl (Chk_nil _) (sz_le (by simp; omega)) (fun c hc => by simp [eqi, eq2, dInt]) ?_
          have e3 : PyData.tuple [.tuple ((List.range n).map fun c : Nat => PyData.int ((if c = a then 1 else 0) - (if c = a + 1 + k then 1 else 0))), .int 0] = lineD (tieP n (a, a + 1 + k)) := by simp [lineD, tieP, tieQ, Function.comp_def]
          simp [sz_le, e3, at3, gAppend, gl]
          refine ⟨ts ++ [(a, a + 1 + k)], by rw [← List.append_assoc]; exact sub.append (List.Sublist.refl _), by rw [List.getElem?_set_self lp4]; simp, d3'.set lt lh _⟩
        · simp [ht]
          exact ⟨ts, by rw [← List.append_assoc]; exact sub.trans (List.sublist_append_left _ _), at3, d3'⟩
      · rintro ρ h3 ⟨ts, y4, rfl, sub, at2, d2⟩
        have : (rng ((a : Int) + 1) (n - (a + 1))).length = n - (a + 1) := by simp [rng]
        rw [this] at sub
        exact ⟨ts, _, _, rfl, sub, li, lh, at2, d2⟩
    · rintro ρ h2 hm2
      rw [rng_len] at hm2
      exact hm2
  rintro ρ h2 ⟨ts, x3, x4, rfl, sub, li, lh, at1, d1⟩
  have vt : vDs [.r lp] h2 = some [.list (ts.map fun p => lineD (tieP n p))] := by simp [vDs, vD, at1]
  have nn : n ∈ [2, 3, 4] := by
    have : n = 2 ∨ n = 3 ∨ n = 4 := by omega
    simpa using this
  obtain ⟨f1, f2, f3⟩ := tieQ_facts n nn
  have pe : preW n n = pairsT n := rfl
  rw [pe] at sub
  have l6 : ts.length ≤ 6 := Nat.le_trans sub.length_le f3
  have em : (ts.map fun p => lineD (tieP n p)) = (ts.map (tieP n)).map lineD := by simp [Function.comp_def]
  rw [em] at vt
  have nd : ((ts.map (tieP n)).map fun l => ground (rowL l)).Nodup := by
    rw [List.map_map]
    exact (sub.map _).nodup f2
  have fin := q n (ts.map (tieP n)) (h2.take h.length) n2 n4 ⟨by omega, by omega, by simp; omega, fun l hl => by
    obtain ⟨p, hp, rfl⟩ := List.mem_map.mp hl
    obtain ⟨a, b, c⟩ := f1 p (sub.subset hp)
    exact ⟨a, b, c⟩, nd, by omega⟩ (by simpa using l6) (fun l hl => by
    obtain ⟨p, hp, rfl⟩ := List.mem_map.mp hl
    rfl) (d1.cut lt)
  generalize ts.map (tieP n) = ls at *
  simp [vt, sz_le]
  exact fin
end

end W_k03

set_option maxHeartbeats 400000
namespace W_k03
open PySem PySem.Spec PyProof.Rows L2 DL
-- at 03
/-! ### the law -/
theorem law_true (ns : List Int) (hl : ns.length ≤ 63) (hb : ∀ z ∈ ns, PySem.Builtin.Int.intBits z ≤ 1048576) : ∃ hs, F_law [.s ns] [] = .ok (.d (.bool true)) hs := by
  refine ex_hs ?_
  unfold F_law G_law
  rw [wpR_mkF]
  refine ⟨rfl, ?_⟩
  have vl : vS (.s ns) [] = some (.list (ns.map .int)) := rfl
  obtain ⟨c, hc, _, ec⟩ := turns ns 12 (by omega)
  simp [startE, vl] at ec ⊢
  simp [ec, small_nat (show c ≤ 100000 by omega)]
  refine wp_for0 (fun _ ρ _ => ∃ x1 x2 x3, ρ = [some (.s ns), x1, x2, x3]) (fun _ _ _ _ => Chk_nil _) ⟨none, none, none, rfl⟩ ?_ ?_
  · rintro j dd ρ h hd ⟨x1, x2, x3, rfl⟩
    obtain ⟨hj, rfl⟩ := rng_get hd
    try simp
    refine deck_wp (by omega) fun h1 d1 _ _ => ?_
    try simp
    refine page_wp d1 fun n ls h2 hn pk l6 d2 => ?_
    try simp
    refine right_wp pk (by omega) l6 (three_bits pk.line hn) d2.deck fun h3 d3 => ?_
    try simp
    refine through_wp pk hn l6 d3.deck fun ls2 h4 pk2 l62 d4 => ?_
    try simp
    refine right_wp pk2 (by omega) l62 (three_bits pk2.line hn) d4.deck fun h5 d5 => ?_
    try simp
    by_cases h2' : j < 2
    · have h3' : ((j : Int) < 2) = (j < 2) := by simp only [eq_iff_iff]; omega
      try simp [h3', h2']
      refine law_web_wp d5.deck fun m ls3 h6 m2 m4 pk3 l63 z0 d6 => ?_
      try simp
      refine right_wp pk3 m4 l63 (zero_bits pk3.line m4 z0) d6.deck fun h7 d7 => ?_
      try simp
    · have h3' : ((j : Int) < 2) = (j < 2) := by simp only [eq_iff_iff]; omega
      try simp [h3', h2']
  · rintro ρ h ⟨x1, x2, x3, rfl⟩
    try simp

end W_k03

set_option maxHeartbeats 4000000
open PySem PySem.W PySem.Calls PyProof.Rows
theorem PySem.Challenge.cw_sidebooks_k03_whole_rank_and_at_once_holds : PySem.Challenge.rw_sidebooks_k03_whole_rank_and_at_once.Holds := by
  w_on; o_law
  refine HandSHeadRun.head_imp (r := OpenLaw.row PySem.Challenge.rw_sidebooks_k03_whole_rank_and_at_once) (q := view (PySem.W.OpenLaw.row PySem.Challenge.rw_sidebooks_k03_whole_rank_and_at_once).prog [0, 69]) (H := W_k03.hk) (ob := W_k03.ob) (M := 8000) (loose := W_k03.nmL) (d := HandSHeadRun.topDef (PySem.W.OpenLaw.row PySem.Challenge.rw_sidebooks_k03_whole_rank_and_at_once).prog 69) (kwd := []) W_k03.ob_eq W_k03.runTop (by kernel_rfl) (by kernel_rfl) (by kernel_rfl) (by rfl) (by first | assumption | decide +kernel) (by decide +kernel) ⟨rfl, rfl, rfl, rfl, rfl, by decide +kernel⟩ ?hw ?hc
  case hw => w_witness2
  case hc =>
    refine DL.walk_dl (l := PySem.Challenge.rw_sidebooks_k03_whole_rank_and_at_once) (k := 16) (x := "script") (pa := W_k03.A_law) (bd := W_k03.B_law) (sc := W_k03.Z_law) (F := W_k03.F_law) rfl (by kernel_rfl) ⟨rfl, by decide, by decide⟩ (fun K f fd FD s v => L2.FunD.bindsA (ps := ["script"]) FD (fun _ _ _ _ _ _ us hl => match us, hl with | [_], _ => rfl) s [v] rfl) ?_ (fun ns hl hb => W_k03.law_true ns hl hb)
    intro w mg h Y G
    obtain ⟨K, KX, c⟩ := Y
    exact ⟨K, KX, fun base => W_k03.fn_law (W_k03.top_ok KX G c)⟩
