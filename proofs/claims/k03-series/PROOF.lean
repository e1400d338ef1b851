import PyProof.Rows.All
import Wide.All
import OpenK.AllK
import Wide.FinOn
import KE.KStateDown
import HandS.ForMost
import HandS.ForExc
import HandS.Defaults
import HandS.Wide
import HandS.Gcd
import HandS.ExcField
import KE.KExcSuper
import KE.KxStill
import HandS.IsInst
import HandS.Text
import HandS.TupAny
import HandS.Style
import HandS.WideBits
import HandS.Iter
import HandS.Comp
import HandS.CallSlots
import KE.KExcIs
import HandS.ExcIs
import HandS.TryMany
import HandS.HeadHook2
import HandS.HeadEnd
import HandS.Words
import HandS.EndBits
import Lean
import HandS.Head0
import HandS.Head1
import HandS.Head2
import HandS.Head3
import PySem.Challenge.RW_trueruns_k03_series

/-! PD1 -/
set_option Elab.async false
set_option linter.all false
set_option maxRecDepth 100000
set_option maxHeartbeats 4000000
/-! PD: plain data, and how they stand in the heap. -/
namespace PD
open PySem PySem.Spec PyProof.Rows L2

/-- plain data -/
inductive D where
  | non | bl (b : Bool) | int (i : Int) | str (s : Str)
  | tup (ds : List D) | lst (ds : List D)
  | dct (ks : List Key) (vs : List D)
  | obj (c : Str) (fs : List Str) (vs : List D)

/-- an exception: its class, its fields -/
structure XD where
  cls : Str
  fs : List (Str × D)
/-- an argument, or what a slot holds: plain data that stands still, or the list (dict) number n of the store -/
inductive Val where
  | fz (d : D) | loc (n : Nat) | exn (x : XD)
/-- what a def changes in place -/
inductive Cont where
  | lst (ds : List D) | dct (ks : List Key) (vs : List D) | fz (d : D)
abbrev Store := List Cont
abbrev Slots := List (Option Val)

def Cont.d : Cont → D
  | .lst ds => .lst ds
  | .dct ks vs => .dct ks vs
  | .fz d => d
def Cont.live : Cont → Bool
  | .fz _ => false
  | _ => true

/-! ### the heap of what stands still -/
def isD : HO → Bool
  | .dK _ => true
  | _ => false
/-- F stands in H (dicts may be locked there) -/
def Le (F H : Hp) : Prop := ∀ a o, F a = some o → H a = some o ∨ (isD o = true ∧ ∃ ob, H a = some (.frz ob o))
theorem Le.refl (F : Hp) : Le F F := fun _ _ h => .inl h
theorem Le.same {F G H : Hp} (h : Same F G) (l : Le G H) : Le F H := fun a o e => l a o (h a o e)
theorem Le.trans {F G H : Hp} (h : Le F G) (l : Le G H) : Le F H := fun a o e => by
  rcases h a o e with q | ⟨d, ob, q⟩
  · exact l a o q
  · rcases l a _ q with r | ⟨d2, _⟩
    · exact .inr ⟨d, ob, r⟩
    · cases d2
theorem Le.up {F H H' : Hp} (l : Le F H) (h : Same H H') : Le F H' := fun a o e => by
  rcases l a o e with q | ⟨d, ob, q⟩
  · exact .inl (h a o q)
  · exact .inr ⟨d, ob, h a _ q⟩
theorem Le.rdL {F H : Hp} (l : Le F H) {a : Addr} {xs : List V} (r : Rd F a (.lst xs)) : Rd H a (.lst xs) := by
  rcases r with r | ⟨o, r⟩
  · rcases l a _ r with q | ⟨d, _⟩
    · exact .inl q
    · cases d
  · rcases l a _ r with q | ⟨d, _⟩
    · exact .inr ⟨o, q⟩
    · cases d
theorem Le.rdT {F H : Hp} (l : Le F H) {a : Addr} {xs : List V} (r : Rd F a (.tup xs)) : Rd H a (.tup xs) := by
  rcases r with r | ⟨o, r⟩
  · rcases l a _ r with q | ⟨d, _⟩
    · exact .inl q
    · cases d
  · rcases l a _ r with q | ⟨d, _⟩
    · exact .inr ⟨o, q⟩
    · cases d
theorem Le.sqL {K : PySem.W.Frag} {F H : Hp} (l : Le F H) {a : Addr} {xs : List V} (r : SqL K F a xs) : SqL K H a xs := by
  rcases r with r | r
  · exact .inl (l.rdL r)
  · exact .inr r
theorem Le.sqT {K : PySem.W.Frag} {F H : Hp} (l : Le F H) {a : Addr} {xs : List V} (r : SqT K F a xs) : SqT K H a xs := by
  rcases r with r | r
  · exact .inl (l.rdT r)
  · exact .inr r
theorem Same.le {F H : Hp} (h : Same F H) : Le F H := fun a o e => .inl (h a o e)
theorem Le.free {F H : Hp} (l : Le F H) {p : Addr} (h : H p = none) : F p = none := by
  cases q : F p with
  | none => rfl
  | some o =>
    rcases l p o q with r | ⟨_, ob, r⟩
    · rw [h] at r; cases r
    · rw [h] at r; cases r
theorem Same.upd {H : Hp} {p : Addr} {o : HO} (h : H p = none) : Same H (upd H p o) := fun b u e => by
  rw [upd_ne (ne_of_none e h)]; exact e

/-! ### what stands for a datum -/
structure RC where
  K : PySem.W.Frag
  mg : Str → Option Value

mutual
inductive Rep (R : RC) (F : Hp) : V → D → Prop
  | non : Rep R F .non .non
  | bl (b : Bool) : Rep R F (.bl b) (.bl b)
  | int (i : Int) : Rep R F (.int i) (.int i)
  | str (x : Str) : Rep R F (.str x) (.str x)
  | tup {a : Addr} {xs : List V} {ds : List D} : SqT R.K F a xs → RepL R F xs ds → Rep R F (.ref a) (.tup ds)
  | lst {a : Addr} {xs : List V} {ds : List D} : SqL R.K F a xs → RepL R F xs ds → Rep R F (.ref a) (.lst ds)
  | dct {a : Addr} {kvs : List (Key × V)} {ks : List Key} {xs : List V} {ds : List D} : F a = some (.dK kvs) → kvs.map (·.1) = ks → kvs.map (·.2) = xs → RepL R F xs ds → Rep R F (.ref a) (.dct ks ds)
  | obj {a C dx : Addr} {c : Str} {fvs : List (Str × V)} {fs : List Str} {xs : List V} {ds : List D} : R.mg c = some (.ref C) → F a = some (.ins C dx fvs) → fvs.map (·.1) = fs → fvs.map (·.2) = xs → RepL R F xs ds → Rep R F (.ref a) (.obj c fs ds)
inductive RepL (R : RC) (F : Hp) : List V → List D → Prop
  | nil : RepL R F [] []
  | cons {v : V} {vs : List V} {d : D} {ds : List D} : Rep R F v d → RepL R F vs ds → RepL R F (v :: vs) (d :: ds)
end

section
variable {R : RC} {F F' H : Hp}
theorem SqL.mono {K : PySem.W.Frag} {a : Addr} {xs : List V} (h : Same F F') (r : SqL K F a xs) : SqL K F' a xs := h.seq r
theorem SqT.mono {K : PySem.W.Frag} {a : Addr} {xs : List V} (h : Same F F') (r : SqT K F a xs) : SqT K F' a xs := by
  rcases r with (r | ⟨o, r⟩) | r
  · exact .inl (.inl (h _ _ r))
  · exact .inl (.inr ⟨o, h _ _ r⟩)
  · exact .inr r
mutual
theorem Rep.mono (h : Same F F') : ∀ {d : D} {v : V}, Rep R F v d → Rep R F' v d
  | .non, _, .non => .non
  | .bl _, _, .bl b => .bl b
  | .int _, _, .int i => .int i
  | .str _, _, .str x => .str x
  | .tup _, _, .tup s l => .tup (SqT.mono h s) (RepL.mono h l)
  | .lst _, _, .lst s l => .lst (SqL.mono h s) (RepL.mono h l)
  | .dct _ _, _, .dct e k x l => .dct (h _ _ e) k x (RepL.mono h l)
  | .obj _ _ _, _, .obj m e k x l => .obj m (h _ _ e) k x (RepL.mono h l)
theorem RepL.mono (h : Same F F') : ∀ {ds : List D} {vs : List V}, RepL R F vs ds → RepL R F' vs ds
  | [], _, .nil => .nil
  | _ :: _, _, .cons r l => .cons (Rep.mono h r) (RepL.mono h l)
end
theorem RepL.length : ∀ {vs : List V} {ds : List D}, RepL R F vs ds → vs.length = ds.length
  | _, _, .nil => rfl
  | _, _, .cons _ l => congrArg Nat.succ (RepL.length l)
theorem RepL.append : ∀ {vs ws : List V} {ds es : List D}, RepL R F vs ds → RepL R F ws es → RepL R F (vs ++ ws) (ds ++ es)
  | _, _, _, _, .nil, s => s
  | _, _, _, _, .cons r l, s => .cons r (RepL.append l s)
theorem RepL.get : ∀ {vs : List V} {ds : List D} {i : Nat} {d : D}, RepL R F vs ds → ds[i]? = some d → ∃ v, vs[i]? = some v ∧ Rep R F v d
  | _, _, i, _, .nil, e => by simp at e
  | _, _, 0, _, .cons r _, e => by simp at e; subst e; exact ⟨_, rfl, r⟩
  | _, _, i + 1, d, .cons _ l, e => by
    obtain ⟨v, h1, h2⟩ := RepL.get (i := i) (d := d) l (by simpa using e)
    exact ⟨v, by simpa using h1, h2⟩
theorem RepL.get' : ∀ {vs : List V} {ds : List D} {i : Nat} {v : V}, RepL R F vs ds → vs[i]? = some v → ∃ d, ds[i]? = some d ∧ Rep R F v d
  | _, _, i, _, .nil, e => by simp at e
  | _, _, 0, _, .cons r _, e => by simp at e; subst e; exact ⟨_, rfl, r⟩
  | _, _, i + 1, d, .cons _ l, e => by
    obtain ⟨v, h1, h2⟩ := RepL.get' (i := i) (v := d) l (by simpa using e)
    exact ⟨v, by simpa using h1, h2⟩
theorem RepL.set : ∀ {vs : List V} {ds : List D} {v : V} {d : D} (i : Nat), RepL R F vs ds → Rep R F v d → RepL R F (vs.set i v) (ds.set i d)
  | _, _, _, _, _, .nil, _ => .nil
  | _, _, _, _, 0, .cons _ l, r => .cons r l
  | _, _, _, _, i + 1, .cons q l, r => .cons q (RepL.set i l r)
theorem RepL.take : ∀ {vs : List V} {ds : List D} (n : Nat), RepL R F vs ds → RepL R F (vs.take n) (ds.take n)
  | _, _, 0, _ => .nil
  | _, _, _ + 1, .nil => .nil
  | _, _, n + 1, .cons r t => .cons r (RepL.take n t)
theorem RepL.drop : ∀ {vs : List V} {ds : List D} (n : Nat), RepL R F vs ds → RepL R F (vs.drop n) (ds.drop n)
  | _, _, 0, r => r
  | _, _, _ + 1, .nil => .nil
  | _, _, n + 1, .cons _ t => RepL.drop n t
theorem RepL.reverse : ∀ {vs : List V} {ds : List D}, RepL R F vs ds → RepL R F vs.reverse ds.reverse
  | _, _, .nil => .nil
  | _, _, .cons r l => by
    rw [List.reverse_cons, List.reverse_cons]
    exact (RepL.reverse l).append (.cons r .nil)
theorem RepL.replicate {vs : List V} {ds : List D} (r : RepL R F vs ds) : ∀ n : Nat, RepL R F (List.replicate n vs).flatten (List.replicate n ds).flatten
  | 0 => .nil
  | n + 1 => by
    rw [List.replicate_succ, List.replicate_succ, List.flatten_cons, List.flatten_cons]
    exact r.append (RepL.replicate r n)
end

/-! ### the store -/
/-- what stands at a for a content -/
def ContR (R : RC) (F H : Hp) (a : Addr) : Cont → Prop
  | .lst ds => F a = none ∧ ∃ xs, H a = some (.lst xs) ∧ RepL R F xs ds
  | .dct ks ds => F a = none ∧ ∃ kvs : List (Key × V), H a = some (.dK kvs) ∧ kvs.map (·.1) = ks ∧ RepL R F (kvs.map (·.2)) ds
  | .fz d => Rep R F (.ref a) d
/-- an exception: its class, its own dict -/
def XR (R : RC) (F : Hp) (x : XD) (cls : Value) (dd : Option Addr) : Prop :=
  (∃ C, R.mg x.cls = some (.ref C) ∧ cls = .ref C) ∧ ((x.fs = [] ∧ dd = none) ∨
    ∃ d fvs, dd = some d ∧ F d = some (.xd fvs) ∧ fvs.map (·.1) = x.fs.map (·.1) ∧ RepL R F (fvs.map (·.2)) (x.fs.map (·.2)))
theorem XR.mono {R : RC} {F F' : Hp} {x : XD} {cls : Value} {dd : Option Addr} (h : Same F F') (r : XR R F x cls dd) : XR R F' x cls dd := by
  obtain ⟨r1, r2 | ⟨d, fvs, e, f, k, l⟩⟩ := r
  · exact ⟨r1, .inl r2⟩
  · exact ⟨r1, .inr ⟨d, fvs, e, h _ _ f, k, l.mono h⟩⟩
/-- the exception that a suite holds: its address, class, dict -/
abbrev ExH := Option (Addr × Value × Option Addr)
def ValR (R : RC) (X : ExH) (F : Hp) (A : List Addr) (x : V) : Val → Prop
  | .fz d => Rep R F x d
  | .loc n => ∃ a, A[n]? = some a ∧ x = .ref a
  | .exn e => ∃ a cls dd, X = some (a, cls, dd) ∧ x = .ref a ∧ XR R F e cls dd
theorem ValR.mono {R : RC} {X : ExH} {F F' : Hp} {A A' : List Addr} {x : V} {v : Val} (h : Same F F') (hA : A <+: A') (r : ValR R X F A x v) : ValR R X F' A' x v := by
  cases v with
  | fz d => exact Rep.mono h r
  | exn e =>
    obtain ⟨a, cls, dd, e1, e2, r⟩ := r
    exact ⟨a, cls, dd, e1, e2, r.mono h⟩
  | loc n =>
    obtain ⟨a, e, q⟩ := r
    obtain ⟨t, rfl⟩ := hA
    refine ⟨a, ?_, q⟩
    have hl : n < A.length := by
      rcases Nat.lt_or_ge n A.length with h | h
      · exact h
      · rw [List.getElem?_eq_none h] at e; cases e
    rw [List.getElem?_append_left hl]; exact e

/-- the fixed part of a def's run: the heap and what stood still at the entry, the addresses of the lists that it may change for its caller, the locked dicts -/
structure Bs where
  R : RC
  F0 : Hp
  H0 : Hp
  io : List Addr
  lk : List Addr
  ex : ExH
/-- the changing part -/
structure Gh where
  F : Hp
  A : List Addr

def SlotR (R : RC) (X : ExH) (g : Gh) : Option V → Option Val → Prop
  | o, some v => ∃ x, o = some x ∧ ValR R X g.F g.A x v
  | _, none => True

structure ER (B : Bs) (g : Gh) (H : Hp) (σ : L2.St) (ρ : Slots) (st : Store) : Prop where
  same0 : Same B.F0 g.F
  le : Le g.F H
  fresh : ∀ b, g.F b ≠ none → B.F0 b ≠ none ∨ B.H0 b = none
  keep : ∀ b o, B.H0 b = some o → b ∉ B.io → b ∉ B.lk → H b = some o
  lkd : ∀ b ∈ B.lk, g.F b ≠ none ∧ ∃ ob u, H b = some (.frz ob u) ∧ ∀ o, B.H0 b = some o → b ∉ B.io → o = u
  len : g.A.length = st.length
  nodup : g.A.Nodup
  io : B.io <+: g.A
  iolive : ∀ (i : Nat) (c : Cont), i < B.io.length → st[i]? = some c → c.live = true
  own : ∀ (i : Nat) (a : Addr), B.io.length ≤ i → g.A[i]? = some a → B.H0 a = none
  there : ∀ (i : Nat) (a : Addr), g.A[i]? = some a → H a ≠ none
  conts : ∀ (i : Nat) (a : Addr) (c : Cont), g.A[i]? = some a → st[i]? = some c → ContR B.R g.F H a c
  slen : σ.length = ρ.length
  slots : ∀ (i : Nat) (o : Option V) (v : Option Val), σ[i]? = some o → ρ[i]? = some v → SlotR B.R B.ex g o v

/-- the ghost grows -/
structure Gh.le (g g' : Gh) : Prop where
  F : Same g.F g'.F
  A : g.A <+: g'.A
theorem Gh.le.refl (g : Gh) : g.le g := ⟨Same.refl _, List.prefix_refl _⟩
theorem Gh.le.trans {a b c : Gh} (h : a.le b) (k : b.le c) : a.le c := ⟨h.F.trans k.F, h.A.trans k.A⟩
theorem ValR.up {R : RC} {X : ExH} {g g' : Gh} {x : V} {v : Val} (l : g.le g') (r : ValR R X g.F g.A x v) : ValR R X g'.F g'.A x v := r.mono l.F l.A
theorem SlotR.up {R : RC} {X : ExH} {g g' : Gh} {o : Option V} {v : Option Val} (l : g.le g') (r : SlotR R X g o v) : SlotR R X g' o v := by
  cases v with
  | none => trivial
  | some v =>
    obtain ⟨x, e, q⟩ := r
    exact ⟨x, e, q.up l⟩
theorem ContR.F {R : RC} {F F' H H' : Hp} {a : Addr} {c : Cont} (h : Same F F') (r : ContR R F H a c) (ha : c.live = true → F' a = none) (hH : c.live = true → H' a = H a) : ContR R F' H' a c := by
  cases c with
  | lst ds =>
    obtain ⟨_, xs, e, l⟩ := r
    exact ⟨ha rfl, xs, (hH rfl).trans e, l.mono h⟩
  | dct ks ds =>
    obtain ⟨_, kvs, e, k, l⟩ := r
    exact ⟨ha rfl, kvs, (hH rfl).trans e, k, l.mono h⟩
  | fz d => exact Rep.mono h r
theorem ContR.there {R : RC} {F H : Hp} {a : Addr} {c : Cont} (r : ContR R F H a c) (hc : c.live = true) : H a ≠ none := by
  cases c with
  | lst ds => obtain ⟨_, xs, e, _⟩ := r; rw [e]; intro z; cases z
  | dct ks ds => obtain ⟨_, xs, e, _⟩ := r; rw [e]; intro z; cases z
  | fz d => cases hc
theorem ContR.out {R : RC} {F H : Hp} {a : Addr} {c : Cont} (r : ContR R F H a c) (hc : c.live = true) : F a = none := by
  cases c with
  | lst ds => exact r.1
  | dct ks ds => exact r.1
  | fz d => cases hc
end PD

/-! PDS -/
set_option Elab.async false
set_option linter.all false
set_option maxRecDepth 100000
set_option maxHeartbeats 4000000
/-! PD: an own exception whose __init__ says super().__init__('..') and self.f = f. -/
namespace PySem
namespace SupX
open PySem.W PySem.Calls PyProof.Rows PySem.HandSPX
def iPar (pn : Str) (a1 a2 : Option Expr) (q1 q2 : Pos) : Arguments := { posonlyargs := [], args := [{ arg := "self", annotation := a1, pos := q1 }, { arg := pn, annotation := a2, pos := q2 }], vararg := none, kwonlyargs := [], kw_defaults := [], kwarg := none, defaults := [] }
def iBody (f pn m : Str) (kk : Nat) (p0 p1 p2 p3 p4 p5 p6 p7 p8 p9 : Pos) : List Stmt :=
  [.Expr (.Call (.Attribute (.Call (.Name "super" p0) [] [] p1) "__init__" p2) [.Constant (.str m) kk p3] [] p4) p5, .Assign [.Attribute (.Name "self" p6) f p7] (.Name pn p8) p9]
structure ScopeOk (sc : Scope) (pn : Str) : Prop where
  kind : sc.kind = .function
  gen : sc.isGenerator = false
  co : sc.isCoroutine = false
  slf : sc.names.lookup ("self" : Str) = some .local
  par : sc.names.lookup pn = some .local
  sup : sc.names.lookup ("super" : Str) = some .globalImplicit
  cls : sc.names.lookup ("__class__" : Str) = some .free
  nocell : ∀ x ∈ sc.names, x.2 ≠ .cell
structure SupTxt (prog : Program) (K : Frag) (mg : Str → Option Value) (C fI : Addr) (c f : Str) : Prop where
  gC : mg c = some (.ref C)
  cls : ∃ nm q N bs bm sn sub ab col dd k0 k1 k2 k3 k5, K.lookup C = some (excClassObj nm q C N bs bm true sn sub ab col dd k0 k1 k2 k3 k5 "ValueError.__new__") ∧ refsVE bm = true
  exi : excInitIn K C [.type "ValueError", .type "Exception", .type "BaseException", .type "object"] "ValueError.__new__" = true
  sa : findIn K (.ref C) "__setattr__" = some (some (.builtin "object.__setattr__"))
  noN : findIn K (.ref C) f = some none
  iC : findIn K (.ref C) "__init__" = some (some (.ref fI))
  tC : typeIn K (.ref fI) = some (.type "function")
  kC : keepIn K (.ref C) = true
  exC : subIn K (.ref C) (.type "BaseException") = some true
  veC : subIn K (.ref C) (.type "ValueError") = some true
  tyC : typeIn K (.ref C) = some (.type "type")
  mroC : mroIn K C (.ref C) = some true
  st : nsIn K cStatics "thirdparty.any" = some none
  sup : ks_superIn K C C "__init__" = some (some (.builtin "ValueError.__init__"))
  top : (prog.main.scope.names.lookup ("super" : Str)).isSome = false
  fn : ∃ (oc : Value) (od : Option Addr) (qual : Str) (doc pm : Value) (an : Option Addr) (cda cc : Addr) (ct : Value) (osl : Array (Option Value)) (pn m : Str) (kk : Nat) (a1 a2 : Option Expr) (q1 q2 p0 p1 p2 p3 p4 p5 p6 p7 p8 p9 : Pos) (sc : Scope)
      (ccl : Value) (cdd : Option Addr) (vs : Array Value) (ccs : Array (Option Value)) (file : Str) (tf : Tok) (cl : Value) (cld : Option Addr) (csl : Array (Option Value)),
    K.lookup fI = some ⟨oc, od, .func (ksFn "__init__" qual (iPar pn a1 a2 q1 q2) (iBody f pn m kk p0 p1 p2 p3 p4 p5 p6 p7 p8 p9) sc .none .none doc pm an (.ref cda) ct cc), osl⟩ ∧ codeIn K (.ref cda) qual = true ∧ ScopeOk sc pn ∧
    K.lookup cda = some ⟨ccl, cdd, .fields vs, ccs⟩ ∧ vs[2]? = some (.str file tf) ∧ ((prog.main.file : Str) == file) = true ∧ K.lookup cc = some ⟨cl, cld, .cell (some (.ref C)), csl⟩ ∧ (pn == ("self" : Str)) = false ∧ (pn == ("__debug__" : Str)) = false ∧ (p2.endLine == p4.line) = true
theorem one_size (v : Value) : [v].length ≤ sizeLine := by
  rw [sizeLine_eq]
  exact (by decide : 1 ≤ 16777216)
/-- what __init__ leaves of a fresh exception at x -/
structure InitEnd (h₀ h' : Heap) (x C dx t1 : Addr) (f : Str) (v : Value) : Prop where
  keep : ∀ b o, h₀.get? b = some o → h'.get? b = some o
  obj : h'.get? x = some { cls := .ref C, dict := some dx, data := .fields #[.ref t1, .none, .none, .none, .bool false, .none] }
  dbig : h₀.objs.size ≤ dx
  dne : dx ≠ x
  ns : h'.Ns1 dx (fun y => if y = f then some v else none)
/-- a made one -/
structure OwnMade (h h' : Heap) (e C d : Addr) (f : Str) (v : Value) : Prop where
  keep : ∀ b o, h.get? b = some o → h'.get? b = some o
  new : h.objs.size ≤ e
  obj : ∃ oe vs, h'.get? e = some oe ∧ oe.cls = .ref C ∧ oe.dict = some d ∧ oe.data = .fields vs ∧ vs[1]? = some .none
  dbig : h.objs.size ≤ d
  dne : d ≠ e
  ns : h'.Ns1 d (fun y => if y = f then some v else none)
section
variable {prog : Program} {w : World} {A : Around} {E : Value → Shared → Prop} {R : Result → Shared → Prop} {s : Shared} {K : Frag} {mg mb : Str → Option Value} {C fI : Addr} {c f : Str}
theorem bind_par {s : Shared} {pn name qual : Str} {a1 a2 : Option Expr} {q1 q2 : Pos} {body : List Stmt} {sc : Scope} {doc pm cdv ct : Value} {an : Option Addr} {cc : Addr} {x v : Value} (h : (pn == ("self" : Str)) = false) :
    BindsTo s (ksFn name qual (iPar pn a1 a2 q1 q2) body sc .none .none doc pm an cdv ct cc) ⟨[x, v], []⟩ [("self", x), (pn, v)] := by
  refine BindsTo.of_eq ?_
  have e1 : List.lookup pn [(("self" : Str), x), (pn, v)] = some v := by simp [List.lookup, h]
  have e2 : List.lookup ("self" : Str) [(("self" : Str), x), (pn, v)] = some x := by simp [List.lookup]
  unfold bindArgs
  simp [iPar, seqItems?, e1, e2]
  rfl

theorem sup_node {body : List Stmt} {q : Str} {scope : Scope} {p0 p1 : Pos} {attr : Str} {whole : Sem Value} {fd : FuncData} {ar : Arg} {vs : Array Value} {file : Str} {tf : Tok} {oc ccl cl : Value} {od cdd cld : Option Addr} {osl ccs csl : Array (Option Value)} {cdD : ClassData} {Q : Value → Shared → Prop}
    {h₀ : Heap} {L x D g0 cda cc : Addr} {m : Str → Option Value} {news : List (Addr × Obj)} {ox : Obj} {odx : Option Obj}
    (F : Fr h₀ L s.heap m) (X₀ : K.In h₀) (N : News h₀ L s.heap news) (G : h₀.Ns mainGlobals mg) (G2 : h₀.Ns builtinsNs mb) (hmb : mb ("super" : Str) = bootBuiltins "super")
    (hf : K.lookup g0 = some ⟨oc, od, .func fd, osl⟩) (hp : (fd.params.posonlyargs ++ fd.params.args).head? = some ar) (hv : m ar.arg = some (.ref x)) (I : InstAt s.heap x ox C odx)
    (hcode : K.lookup cda = some ⟨ccl, cdd, .fields vs, ccs⟩) (hvs : vs[2]? = some (.str file tf)) (hfile : ((prog.main.file : Str) == file) = true)
    (hcell : K.lookup cc = some ⟨cl, cld, .cell (some (.ref D)), csl⟩) (hD : clsIn K D = some cdD) (hsub : mroIn K C (.ref D) = some true) (hsuper : mg ("super" : Str) = none)
    (hat : (attr == ("__class__" : Str)) = false) (hks : scope.names.lookup ("super" : Str) = some .globalImplicit) (hkc : scope.names.lookup ("__class__" : Str) = some .free) (hka : scope.names.lookup ar.arg = some .local) (hk : scope.kind = .function)
    (htop : (prog.main.scope.names.lookup ("super" : Str)).isSome = false) (hboot : bootBuiltins "super" = some (.type "super"))
    (h : ∀ so h', Fr h₀ L h' m → News h₀ L h' ((so, ks_superObj D x C) :: news) → Q (.ref so) { s with heap := h' }) :
    _root_.PySem.wpAt (model prog w) A (.func body (ksEnv q scope L g0 (.ref cda) cc)) (attributeBase (.Call (.Name "super" p0) [] [] p1) attr (ksEnv q scope L g0 (.ref cda) cc) whole) Q E s := by
  have X : K.In s.heap := X₀.keeps F.keep
  obtain ⟨hh, gg, dd, tt, os⟩ := s
  obtain ⟨oD, hD1, hD2⟩ : ∃ oD, hh.get? D = some oD ∧ oD.data = .cls cdD := by
    unfold clsIn at hD
    split at hD
    · cases hD
      exact ⟨_, X _ _ (by assumption), rfl⟩
    · cases hD
  refine ks_wpAt_super_base (env := ksEnv q scope L g0 (.ref cda) cc) hks hkc hat rfl (X _ _ hf) rfl hp rfl (X _ _ hcode) rfl hvs hfile htop ?_
  refine ks_loadName_global hk hks (loadGlobal_builtin (env := ksEnv q scope L g0 (.ref cda) cc) (G.keeps F.keep) hsuper (G2.keeps F.keep) (hmb.trans hboot) ⟨rfl, ?_⟩)
  refine wpAny_loadName_free hk hkc rfl ⟨_, X _ _ hcell, rfl⟩ (wpAny_loadName_local hk hka F.ns hv (ks_wpAny_isType_cls hD1 hD2 ⟨rfl, ?_⟩))
  refine ks_wpAny_call_super hD1 hD2 I.at_ I.cls (fun c e => ?_) (looks_mroIn X hsub) (fun h' e k => ?_)
  · have z := I.no
    unfold notCls at z
    rw [e] at z
    cases z
  · obtain ⟨F', N', _⟩ := ks_newsPush (s := ⟨hh, gg, dd, tt, os⟩) F N rfl e k
    exact h _ _ F' N'
theorem call_line {o : Expr} {name : Str} {ap pos : Pos} {args : List Expr} {env : Env} (h : (ap.endLine == pos.line) = true) (hfew : methodCallForm (args.length + ([] : List Keyword).length) (backTo pos (starEach args env)) (backToKw pos (keywordEach [] env)) = true) :
    eval (.Call (.Attribute o name ap) args [] pos) env = (do
      let ov ← attributeBase o name env (eval o env)
      standAt ap.atName
      let (g, first) ← holding [ov] (getMethod ov name (do return (← importBound o env).getD true))
      callWith pos g first (backTo pos (starEach args env)) []) := by
  have hpos : methodCallPos true o env ap pos = pure pos := by unfold methodCallPos; simp [h]
  rw [arm_eval_Call]
  unfold methodCall
  rw [hfew, hpos]
  rfl
theorem sup_init (T : SupTxt prog K mg C fI c f) {h₀ : Heap} {x t0 : Addr} {v : Value} (X₀ : K.In h₀) (G : h₀.Ns mainGlobals mg) (G2 : h₀.Ns builtinsNs mb) (hmb : mb ("super" : Str) = bootBuiltins "super") (hsuper : mg ("super" : Str) = none)
    (k0 : ∀ b o, h₀.get? b = some o → s.heap.get? b = some o) (hL : h₀.objs.size ≤ s.heap.objs.size) (hx0 : h₀.get? x = none) (hlim : s.heap.NoLimit) (hx : s.heap.get? x = some (excO C t0)) (hroom : A.depth < recursionLimit)
    (hq : ∀ h' tk dx t1, InitEnd h₀ h' x C dx t1 f v → R (.ok (.ret .none)) { s with heap := h', toks := tk }) :
    codeAny (model prog w) A (.call (.ref fI) ⟨[.ref x, v], []⟩) R s := by
  obtain ⟨oc, od, qual, doc, pm, an, cda, cc, ct, osl, pn, mm, kk, a1, a2, q1, q2, p0, p1, p2, p3, p4, p5, p6, p7, p8, p9, sc, ccl, cdd, vs, ccs, file, tf, cl, cld, csl, ho, hcd, SC, hcode, hvs, hfile, hcell, hpn, hpd, hline⟩ := T.fn
  obtain ⟨nm, q, N0, bs, bm, sn, sub, ab, col, dd, k0', k1, k2, k3, k5, hC, hbm⟩ := T.cls
  have hcl : clsIn K C = some { name := nm, bases := bs, mro := .ref C :: bm, ns := N0, qualname := q, hasDict := true, slotNames := sn, subclasses := sub, abstract := ab, collection := col, hasDel := false } := by unfold clsIn; rw [hC] <;> rfl
  have X : K.In s.heap := X₀.keeps k0
  refine ks_codeAny_call_defAt (fd := ksFn "__init__" qual (iPar pn a1 a2 q1 q2) (iBody f pn mm kk p0 p1 p2 p3 p4 p5 p6 p7 p8 p9) sc .none .none doc pm an (.ref cda) ct cc) (body := iBody f pn mm kk p0 p1 p2 p3 p4 p5 p6 p7 p8 p9) (binds := [("self", .ref x), (pn, v)]) hroom (X _ _ ho) rfl hlim (codeRec_of X hcd) rfl (bind_par hpn) SC.nocell (fun y hy => ?_) (fun h₁ hns hk₁ => ?_) SC.co SC.gen SC.kind
  · rcases List.mem_cons.mp hy with rfl | hy
    · exact SC.slf
    · rcases List.mem_cons.mp hy with rfl | hy
      · exact SC.par
      · cases hy
  have hxL : x ≠ s.heap.objs.size := Nat.ne_of_lt (Heap.lt_size hx)
  have F : Fr h₀ s.heap.objs.size h₁ (fun y => ([(("self" : Str), Value.ref x), (pn, v)]).reverse.lookup y) := ⟨hns, fun b o e => hk₁ b o (k0 b o e), hL⟩
  have N : News h₀ s.heap.objs.size h₁ [(x, excO C t0)] := fun p hp => by
    have e : p = (x, excO C t0) := by simpa using hp
    subst e
    exact ⟨hk₁ _ _ hx, hxL, hx0⟩
  have mself : (fun y => ([(("self" : Str), Value.ref x), (pn, v)]).reverse.lookup y) ("self" : Str) = some (.ref x) := by
    have h2 : (("self" : Str) == pn) = false := by
      rw [Bool.eq_false_iff] at hpn ⊢
      intro z
      exact hpn (by rw [beq_iff_eq] at z ⊢; exact z.symm)
    simp [List.lookup, h2]
  have mpn : (fun y => ([(("self" : Str), Value.ref x), (pn, v)]).reverse.lookup y) pn = some v := by simp [List.lookup]
  refine ks_wpAt_execs_cons (ks_wpAt_Expr_any (ks_wpAt_MethodCall ?_ (call_line hline rfl)) (show (sc.kind == .module && _) = false by rw [SC.kind]; rfl) rfl)
  have J1 : InstAt h₁ x (excO C t0) C none := ⟨hk₁ _ _ hx, rfl, rfl, trivial⟩
  refine sup_node (s := ⟨h₁, s.gens, s.drawn, s.toks + 2, s.os⟩) (scope := sc) (q := qual) (g0 := fI) F X₀ N G G2 hmb ho rfl mself J1 hcode hvs hfile hcell hcl T.mroC hsuper (by decide +kernel) SC.sup SC.cls SC.slf SC.kind T.top (by decide +kernel) fun so h2 F2 N2 => ?_
  have J2 : InstAt h2 x (excO C t0) C none := ⟨(N2 (x, excO C t0) (by simp)).1, rfl, rfl, trivial⟩
  refine kxs_method (s := ⟨h2, s.gens, s.drawn, s.toks + 2, s.os⟩) kxs_ValueError F2 X₀ N2 (List.mem_cons_self) J2 T.st T.sup T.veC (by decide +kernel) fun u h3 F3 N3 _ => ?_
  refine kxs_callWith1 N3 (List.mem_cons_self) ?_ rfl rfl
  refine spliced_more (wpAny_Constant_str (spliced_none ⟨(N3 _ List.mem_cons_self).1, ?_⟩)) rfl
  have atx := (N3 (x, excO C t0) (by simp)).1
  have nu : u ≠ x := fun z => by
    have z2 := (N3 (u, kxs_mw "ValueError.__init__" x) (by simp)).1
    rw [z, atx] at z2
    cases z2
  have nso : so ≠ x := fun z => by
    have z2 := (N3 (so, ks_superObj C x C) (by simp)).1
    rw [z, atx] at z2
    cases z2
  · refine kxs_call (t := t0) (dv := none) (c2 := .none) F3 X₀ N3 PySem.F.excBase_ValueError T.exi (List.mem_cons_self) (.tail nu (.tail nso (.head fun p hp => by cases hp))) (one_size _) fun t' h4 F4 N4 _ => ?_
    have hx4 : h4.get? x = some (excObj C t' none .none) := (N4 (x, excObj C t' none .none) (by simp)).1
    have X4 : K.In h4 := X₀.keeps F4.keep
    refine wpAt_of_wpAny (wpAny_execs_cons (plainObj_wpAny_Assign_Attribute ?_ rfl))
    refine wpAny_Name (wpAny_loadName_local SC.kind SC.par F4.ns mpn (wpAny_Name (wpAny_loadName_local SC.kind SC.slf F4.ns mself ?_) (by decide +kernel))) hpd
    refine set_plain X4 (ox := excObj C t' none .none) (od := none) ⟨hx4, rfl, rfl, trivial⟩ T.sa ?_
    refine exc_osa X4 hx4 hcl (show refsVE (.ref C :: bm) = true from hbm) rfl T.noN fun h5 tk5 dx k5' dn dne hx5 hn5 => ?_
    refine wpAny_execs_nil ?_
    refine hq h5 tk5 dx t' ⟨fun b o e => k5' b o (fun z => by rw [z, hx0] at e; cases e) (F4.keep b o e), hx5, Nat.le_trans ?_ dn, dne, hn5⟩
    exact Nat.le_trans F4.above (Nat.le_of_lt F4.ns.lt)

theorem sup_made (T : SupTxt prog K mg C fI c f) {v : Value} (X : K.In s.heap) (G : s.heap.Ns mainGlobals mg) (G2 : s.heap.Ns builtinsNs mb) (hmb : mb ("super" : Str) = bootBuiltins "super") (hsuper : mg ("super" : Str) = none) (hlim : s.heap.NoLimit) (hroom : A.depth + 1 < recursionLimit)
    (hq : ∀ h' tk e d, OwnMade s.heap h' e C d f v → R (.ok (.ret (.ref e))) { s with heap := h', toks := tk }) :
    codeAny (model prog w) A (.call (.ref C) ⟨[v], []⟩) R s := by
  obtain ⟨nm, q, N, bs, bm, sn, sub, ab, col, dd, k0, k1, k2, k3, k5, hC, hbm⟩ := T.cls
  obtain ⟨hp, gs, dr, tk, os⟩ := s
  have up : ∀ b o, hp.get? b = some o → ((hp.push (kdv_tup [v])).push (excO C hp.objs.size)).get? b = some o := fun b o e => Heap.get?_push_of_some _ (Heap.get?_push_of_some _ e)
  have got : ((hp.push (kdv_tup [v])).push (excO C hp.objs.size)).get? (hp.objs.size + 1) = some (excO C hp.objs.size) := by heap_get
  have fresh : hp.get? (hp.objs.size + 1) = none := by
    cases e : hp.get? (hp.objs.size + 1) with
    | none => rfl
    | some o => exact absurd (Nat.lt_of_succ_lt (Heap.lt_size e)) (Nat.lt_irrefl _)
  refine call_own PySem.F.excBase_ValueError (fun X => refsVE_contains X bm hbm) (X _ _ hC) (looks_findIn X T.iC) (fun self => bind_fn X self T.tC) (one_size v) ?_
  refine sup_init (s := ⟨(hp.push (kdv_tup [v])).push (excO C hp.objs.size), gs, dr, tk, os⟩) (h₀ := hp) T X G G2 hmb hsuper up (by simp only [Heap.size_push]; omega) fresh (hlim.keeps up) got (show A.depth + 1 < recursionLimit from hroom) fun h' tk' dx t1 ⟨k', hx, dn, dne, hns⟩ => ?_
  exact ⟨rfl, hq h' tk' (hp.objs.size + 1) dx ⟨k', Nat.le_succ _, ⟨_, _, hx, rfl, rfl, rfl, rfl⟩, dn, dne, hns⟩⟩
end
end SupX
end PySem
namespace PD
open PySem PySem.Spec PyProof.Rows L2
theorem relO_one {v : V} {v' : Value} (r : RelV v v') (f g : Str) : RelO (List.lookup g [(f, v)]) (if g = f then some v' else none) := by
  by_cases hw : g = f
  · subst hw
    rw [if_pos rfl]
    have q : List.lookup g [(g, v)] = some v := by simp [List.lookup]
    rw [q]
    exact r
  · rw [if_neg hw]
    have qw : (g == f) = false := by simpa using hw
    have q2 : List.lookup g [(f, v)] = none := by simp [List.lookup, qw]
    rw [q2]
    trivial
section
variable {X : Cx} {C fI : Addr} {c f : Str}
def tMkSup (C : Addr) (f : Str) (ta : TA) : L2.St → Hp → XK → Prop := fun σ H Q => ta σ H fun vs H1 => ∃ v, vs = [v] ∧ ∀ d, H1 d = none → Q (.ref C) (some d) (upd H1 d (.xd [(f, v)]))
theorem pmk_sup {a : Expr} {ta : TA} {p pos : Pos} {k : Nat} (T : PySem.SupX.SupTxt X.prog X.K X.mg C fI c f) (hsup : X.mg ("super" : Str) = none) (hr : Room k X.A) (ha : PA X [a] ta) (hg : Gl X c) (hdb : (c == ("__debug__" : Str)) = false)
    (he : starEach (a :: []) X.env = (false, eval a X.env) :: starEach [] X.env) :
    PMk X (.Call (.Name c p) [a] [] pos) (tMkSup C f ta) := by
  intro pins s σ H Q I h
  refine wpAny_Call_Name_kw (ld_glob I hg T.gC ?_ hdb)
  refine PySem.W.callWith_K (h₀ := X.base) I.ok.mod.kin T.kC (thn (ha.run pos pins s σ H _ I h) fun us s1 hh => ?_) he rfl
  obtain ⟨vs, H1, I1, r1, v, ev, q1⟩ := hh
  subst ev
  refine ⟨I1.kIn, ?_⟩
  cases r1 with
  | cons rv rn =>
    rename_i v' us'
    cases rn
    show wpAny _ _ (call (.ref C) [v']) _ _ _
    have hlim := I1.nolimit
    obtain ⟨mb, hmb, hbb⟩ := I1.ok.mod.blt
    have kb : ∀ b o, X.base.get? b = some o → s1.heap.get? b = some o := I1.bk
    have G := I1.ok.mod.glob.keeps kb
    have G2 := hmb.keeps kb
    obtain ⟨hp, gs, dr, tk, os⟩ := s1
    refine wpAny_call (PySem.SupX.sup_made T I1.kIn G G2 (hbb _ (by decide +kernel)) hsup hlim (by have := hr.dp; omega) fun h' tk' e d M => ?_)
    show MkP X pins σ Q (.ref e) ⟨h', gs, dr, tk', os⟩
    obtain ⟨oe, fv, hoe, hc, hd, hdat, h1⟩ := M.obj
    have hns := M.ns
    obtain ⟨G', g1, g2⟩ := restrict h' fun b => decide (b ≠ e)
    have gk : ∀ b, b ≠ e → G'.get? b = h'.get? b := fun b hb => g1 b (decide_eq_true hb)
    have ge : G'.get? e = none := g2 e (by simp)
    have old : ∀ b o, hp.get? b = some o → G'.get? b = some o := fun b o q => (gk b (Nat.ne_of_lt (Nat.lt_of_lt_of_le (Heap.lt_size q) M.new))).trans (M.keep b o q)
    have ob : ObjOk X.prog X.w (upd H1 d (.xd [(f, v)])) G' d (.xd [(f, v)]) :=
      ⟨_, hns.at (fun o q => (gk d M.dne).trans q), fun g => relO_one rv f g⟩
    have J : L2.Inv X pins σ (upd H1 d (.xd [(f, v)])) ⟨G', gs, dr, tk', os⟩ := I1.laid (t' := tk') old M.dbig ob
    refine ⟨e, oe, fv, ⟨G', gs, dr, tk', os⟩, _, .ref C, some d, rfl, J, fun b o q => ?_, ge, hoe, ⟨hc, hd⟩, hdat, h1, ?_, rfl, I1.bare, raises_own T.exC T.tyC, q1 d (I1.hok.fresh M.dbig)⟩
    · by_cases hb : b = e
      · have q' : G'.get? b = some o := q
        rw [hb, ge] at q'; cases q'
      · exact (gk b hb).symm.trans q
    · rw [upd_ne (Ne.symm M.dne)]
      exact I1.hok.fresh M.new
end
end PD

/-! PD2 -/
set_option Elab.async false
set_option linter.all false
set_option maxRecDepth 100000
set_option maxHeartbeats 4000000
/-! PD: the small language and what it means. -/
namespace PD
open PySem PySem.Spec PyProof.Rows L2

/-! ### syntax -/
inductive Bop where | add | sub | mul | fdv | mod | pow
inductive Cop where | eq | ne | lt | le | gt | ge | inn | nin | is_ | isn
inductive Bfn where | len | abs | min2 | max2 | int | tuple | list | gcd
inductive Mth where | bitlen
inductive TyN where | ty (n : String) | own (c : Str)
  deriving DecidableEq
inductive Tg where | nm (i : Nat) | tp (is : List Nat)

mutual
inductive Ex where
  | var (i : Nat) | lit (d : D) | glo (j : Nat) | none_
  | bin (o : Bop) (a b : Ex) | cmp (o : Cop) (a b : Ex) | chain (o o' : Cop) (a b c : Ex)
  | neg (a : Ex) | not_ (a : Ex) | and_ (a b : Ex) | or_ (a b : Ex) | ife (c a b : Ex) | tru (a : Ex)
  | tup (es : Exs) | lst (es : Exs) | idx (a i : Ex) | slc (a lo hi : Ex)
  | call (j : Nat) (es : Exs) | bfn (f : Bfn) (es : Exs) | mth (m : Mth) (a : Ex) (es : Exs)
  | isi (a : Ex) (ts : List TyN) (tp : Bool) | isx (i : Nat) (ts : List Str) (tp : Bool) | xfld (i : Nat) (f : Str)
  | pop (i : Nat)
  | lc (own : List Nat) (tg : Tg) (it : It) (c elt : Ex)
inductive Exs where
  | nil | cons (e : Ex) (es : Exs)
inductive It where
  | rng1 (a : Ex) | rng2 (a b : Ex) | seq (a : Ex)
end
mutual
inductive St where
  | asg (t : Tg) (e : Ex) | six (i : Nat) (k e : Ex) | app (i : Nat) (e : Ex) | exp (e : Ex)
  | if_ (c : Ex) (a b : Sts) | whl (c : Ex) (b : Sts) | for_ (t : Tg) (it : It) (b : Sts)
  | ret (e : Ex) | retl (e : Ex) | dead | retn | pass | brk | cnt
  | rais (c : Str) | raisf (c f : Str) (e : Ex)
  | try_ (b : Sts) (hs : Hds)
inductive Sts where
  | nil | cons (s : St) (ss : Sts)
inductive Hds where
  | nil | cons (cs : List Str) (tp : Bool) (as_ : Option Nat) (b : Sts) (hs : Hds)
end

def Ex.isNone : Ex → Bool
  | .none_ => true
  | _ => false
def Exs.len : Exs → Nat
  | .nil => 0
  | .cons _ es => es.len + 1
/-! ### results -/
inductive Res (α : Type) where
  | ok (a : α) (st : Store) | exc (x : XD) (st : Store) | stuck
def Res.bind {α β : Type} (r : Res α) (k : α → Store → Res β) : Res β := match r with
  | .ok a st => k a st
  | .exc x st => .exc x st
  | .stuck => .stuck
def Res.nox {α : Type} (r : Res α) : Res α := match r with
  | .exc _ _ => .stuck
  | r => r
inductive SR where
  | nx (ρ : Slots) (st : Store) | rt (d : D) (st : Store) | rtl (ds : List D) (st : Store) | bk (ρ : Slots) (st : Store) | ct (ρ : Slots) (st : Store) | exc (x : XD) (ρ : Slots) (st : Store) | stuck
inductive Arg where
  | fz (d : D) | mu (c : Cont)
inductive FRes where
  | ok (d : D) (cs : List Cont) | okl (ds : List D) (cs : List Cont) | exc (x : XD) (cs : List Cont) | stuck
structure FnI where
  muts : List Bool
  dfl : List D
  f : List Arg → FRes
structure Gam where
  io : Nat
  con : List D
  fns : List FnI
  exm : Str → Str → Option Bool
  xfl : Str → Str → Bool

/-! ### values -/
def LIM : Nat := 16777216
def dr (st : Store) : Val → Option D
  | .fz d => some d
  | .loc n => match st[n]? with
    | some c => some c.d
    | none => none
  | .exn _ => none
/-- the value is handed on: what it holds stands still from now on -/
def fr (io : Nat) (v : Val) (st : Store) : Res D := match v with
  | .fz d => .ok d st
  | .loc n => match st[n]? with
    | some (.fz d) => .ok d st
    | some c => if io ≤ n then .ok c.d (st.set n (.fz c.d)) else .stuck
    | none => .stuck
  | .exn _ => .stuck
def frs (io : Nat) : List Val → Store → Res (List D)
  | [], st => .ok [] st
  | v :: vs, st => (fr io v st).bind fun d st => (frs io vs st).bind fun ds st => .ok (d :: ds) st
def pick {α : Type} (o : Option α) (k : α → Res β) : Res β := match o with
  | some a => k a
  | none => .stuck

/-! ### operations -/
inductive OpD where | d (d : D) | l (ds : List D) | no
def opRes (r : OpD) (st : Store) : Res Val := match r with
  | .d d => .ok (.fz d) st
  | .l ds => .ok (.loc st.length) (st ++ [.lst ds])
  | .no => .stuck
def mok (i j : Int) : Bool := decide (i.natAbs.log2 + j.natAbs.log2 < 134217000)
def bopS : Bop → D → D → OpD
  | .add, .int i, .int j => .d (.int (i + j))
  | .add, .str x, .str y => if x.length + y.length ≤ LIM then .d (.str (x ++ y)) else .no
  | .add, .lst xs, .lst ys => if xs.length + ys.length ≤ LIM then .l (xs ++ ys) else .no
  | .add, .tup xs, .tup ys => if xs.length + ys.length ≤ LIM then .d (.tup (xs ++ ys)) else .no
  | .sub, .int i, .int j => .d (.int (i - j))
  | .mul, .int i, .int j => if mok i j then .d (.int (i * j)) else .no
  | .fdv, .int i, .int j => if j = 0 ∨ Builtin.divisionGoesByPylong i j = true then .no else .d (.int (i.fdiv j))
  | .mod, .int i, .int j => if j = 0 then .no else .d (.int (i.fmod j))
  | .pow, .int i, .int j => if 0 ≤ j ∧ (i.natAbs.log2 + 1) * j.toNat < 134217000 then .d (.int (i ^ j.toNat)) else .no
  | _, _, _ => .no
mutual
def pyOf : D → Option PyData
  | .non => some .none
  | .bl b => some (.bool b)
  | .int i => some (.int i)
  | .str s => some (.str s)
  | .tup ds => match pyOfs ds with
    | some ps => some (.tuple ps)
    | none => none
  | .lst ds => match pyOfs ds with
    | some ps => some (.list ps)
    | none => none
  | .dct _ _ => none
  | .obj _ _ _ => none
def pyOfs : List D → Option (List PyData)
  | [] => some []
  | d :: ds => match pyOf d with
    | some p => (match pyOfs ds with
      | some ps => some (p :: ps)
      | none => none)
    | none => none
end
def eqS : D → D → Option Bool
  | .int i, .int j => some (i == j)
  | .str x, .str y => some (x == y)
  | .bl x, .bl y => some (x == y)
  | .non, .non => some true
  | a, b => match pyOf a, pyOf b with
    | some p, some q => if SeqAt.shaped p && SeqAt.shaped q then some (PyData.eqv p q) else none
    | _, _ => none
def isS : D → D → Option Bool
  | .non, .non => some true
  | _, .non => some false
  | .bl x, .bl y => some (x == y)
  | _, _ => none
def cmpS : Cop → D → D → Option Bool
  | .eq, a, b => eqS a b
  | .ne, a, b => match eqS a b with
    | some r => some (!r)
    | none => none
  | .lt, .int i, .int j => some (decide (i < j))
  | .le, .int i, .int j => some (decide (i ≤ j))
  | .gt, .int i, .int j => some (decide (j < i))
  | .ge, .int i, .int j => some (decide (j ≤ i))
  | .lt, .str x, .str y => some (decide (x.cps.toList < y.cps.toList))
  | .le, .str x, .str y => some (!decide (y.cps.toList < x.cps.toList))
  | .is_, a, b => isS a b
  | .isn, a, b => match isS a b with
    | some r => some (!r)
    | none => none
  | _, _, _ => none
def truS : D → Option Bool
  | .non => some false
  | .bl b => some b
  | .int i => some (i != 0)
  | .str s => if s.length ≤ LIM then some ((s.length : Int) != 0) else none
  | .lst ds => some (!ds.isEmpty)
  | .tup ds => some (!ds.isEmpty)
  | _ => none
def sgn (c : Nat) : Str := ⟨#[c]⟩
def idxS : D → D → Option D
  | .lst ds, .int i => atI ds i
  | .tup ds, .int i => atI ds i
  | .str s, .int i => if s.length ≤ LIM then (atI s.cps.toList i).map fun c => .str (sgn c) else none
  | _, _ => none
def cutD (xs : List D) (lo hi : Option Int) : List D := (xs.drop (HT.sIx xs.length 0 lo)).take (HT.sIx xs.length xs.length hi - HT.sIx xs.length 0 lo)
def slcS (d : D) (lo hi : Option Int) : OpD := match d with
  | .lst ds => .l (cutD ds lo hi)
  | .tup ds => .d (.tup (cutD ds lo hi))
  | .str s => if s.length ≤ LIM then .d (.str (cutS s lo hi)) else .no
  | _ => .no
def bndV : Bool → Val → Option (Option Int)
  | true, _ => some none
  | false, .fz (.int i) => some (some i)
  | _, _ => none
def bfnS : Bfn → List D → OpD
  | .len, [.lst ds] => .d (.int ds.length)
  | .len, [.tup ds] => .d (.int ds.length)
  | .len, [.str s] => if s.length ≤ LIM then .d (.int s.length) else .no
  | .abs, [.int i] => .d (.int (if i < 0 then -i else i))
  | .min2, [.int i, .int j] => .d (.int (if j < i then j else i))
  | .max2, [.int i, .int j] => .d (.int (if j > i then j else i))
  | .int, [.int i] => .d (.int i)
  | .int, [.bl b] => .d (.int (if b then 1 else 0))
  | .tuple, [.lst ds] => .d (.tup ds)
  | .tuple, [.tup ds] => .d (.tup ds)
  | .list, [.lst ds] => .l ds
  | .list, [.tup ds] => .l ds
  | .gcd, [.int i, .int j] => .d (.int ((Nat.gcd i.natAbs j.natAbs : Nat) : Int))
  | _, _ => .no
def mthS : Mth → D → List D → OpD
  | .bitlen, .int i, [] => .d (.int (Builtin.Int.intBits i : Nat))
  | _, _, _ => .no
/-- the name of a datum's type -/
def tyS : D → Option String
  | .non => some "NoneType"
  | .bl _ => some "bool"
  | .int _ => some "int"
  | .str _ => some "str"
  | .tup _ => some "tuple"
  | .lst _ => some "list"
  | .dct _ _ => some "dict"
  | .obj _ _ _ => none
def isiOne (exm : Str → Str → Option Bool) (d : D) (t : TyN) : Option Bool := match t with
  | .ty n => (match tyS d with
    | some u => kitB u n
    | none => none)
  | .own _ => none
def isiS (exm : Str → Str → Option Bool) (d : D) : List TyN → Option Bool
  | [] => some false
  | t :: ts => match isiOne exm d t with
    | some true => some true
    | some false => isiS exm d ts
    | none => none
def isxS (exm : Str → Str → Option Bool) (c : Str) : List Str → Option Bool
  | [] => some false
  | t :: ts => match exm c t with
    | some true => some true
    | some false => isxS exm c ts
    | none => none

/-! ### what is walked -/
inductive Iter where | rng (lo : Int) (n : Nat) | lst (v : Val) | tup (ds : List D) | str (s : Str)
def Iter.size (st : Store) : Iter → Option Nat
  | .rng _ n => some n
  | .lst v => (match dr st v with
    | some (.lst ds) => some ds.length
    | _ => none)
  | .tup ds => some ds.length
  | .str s => some s.cps.size
def Iter.at (st : Store) (i : Nat) : Iter → Option D
  | .rng lo _ => some (.int (lo + i))
  | .lst v => (match dr st v with
    | some (.lst ds) => ds[i]?
    | _ => none)
  | .tup ds => ds[i]?
  | .str s => (s.cps[i]?).map fun c => .str (sgn c)
def seqI (v : Val) : D → Option Iter
  | .lst _ => some (.lst v)
  | .tup ds => some (.tup ds)
  | .str s => some (.str s)
  | _ => none
def rngOk (i : Int) : Bool := decide (-(2 ^ 62) ≤ i) && decide (i < 2 ^ 62)
def rngS (a b : D) : Option Iter := match a, b with
  | .int i, .int j => if rngOk i && rngOk j then some (.rng i (j - i).toNat) else none
  | _, _ => none

/-! ### targets -/
def setAll : List Nat → List D → Slots → Option Slots
  | [], [], ρ => some ρ
  | i :: is, d :: ds, ρ => setAll is ds (ρ.set i (some (.fz d)))
  | _, _, _ => none
def asgT (t : Tg) (v : Val) (ρ : Slots) (st : Store) : Option Slots := match t with
  | .nm i => some (ρ.set i (some v))
  | .tp is => match v with
    | .fz (.tup ds) => setAll is ds ρ
    | _ => none
def wipeS (ρ : Slots) : List Nat → Slots
  | [] => ρ
  | v :: vs => (wipeS ρ vs).set v none

/-! ### calls -/
/-- arguments: what a def changes for its caller must be a live list of the caller's -/
def frA (io : Nat) : List Bool → List Val → Store → Res (List (Sum D Nat))
  | _, [], st => .ok [] st
  | [], v :: vs, st => (fr io v st).bind fun d st => (frA io [] vs st).bind fun as st => .ok (.inl d :: as) st
  | false :: ms, v :: vs, st => (fr io v st).bind fun d st => (frA io ms vs st).bind fun as st => .ok (.inl d :: as) st
  | true :: ms, v :: vs, st => match v with
    | .loc n => (frA io ms vs st).bind fun as st => .ok (.inr n :: as) st
    | _ => .stuck
def mkA (st : Store) : List (Sum D Nat) → Option (List Arg)
  | [] => some []
  | .inl d :: as => (match mkA st as with
    | some r => some (.fz d :: r)
    | none => none)
  | .inr n :: as => (match st[n]? with
    | some c => if c.live then (match mkA st as with
      | some r => some (.mu c :: r)
      | none => none) else none
    | none => none)
def locsA : List (Sum D Nat) → List Nat
  | [] => []
  | .inl _ :: as => locsA as
  | .inr n :: as => n :: locsA as
def putBack : List Nat → List Cont → Store → Option Store
  | [], [], st => some st
  | n :: ns, c :: cs, st => if c.live then putBack ns cs (st.set n c) else none
  | _, _, _ => none
def noDup : List Nat → Bool
  | [] => true
  | n :: ns => !ns.contains n && noDup ns
def callS (io : Nat) (fi : FnI) (vs : List Val) (st : Store) : Res Val :=
  (frA io fi.muts vs st).bind fun as st => if noDup (locsA as) then
    pick (mkA st as) fun args => match fi.f (args ++ fi.dfl.map .fz) with
      | .ok d cs => pick (putBack (locsA as) cs st) fun st => .ok (.fz d) st
      | .okl ds cs => pick (putBack (locsA as) cs st) fun st => .ok (.loc st.length) (st ++ [.lst ds])
      | .exc x cs => pick (putBack (locsA as) cs st) fun st => .exc x st
      | .stuck => .stuck
  else .stuck

/-! ### expressions -/
def lcLoop (I : Iter) (body : D → Store → Res (List D)) : Nat → Nat → List D → Store → Res (List D)
  | 0, i, acc, st => if I.size st = some i then .ok acc st else .stuck
  | k + 1, i, acc, st => if I.size st = some (i + (k + 1)) then pick (I.at st i) fun d => (body d st).bind fun ds st' => lcLoop I body k (i + 1) (acc ++ ds) st' else .stuck

def lcEnd (ds : List D) (st : Store) : Res Val := .ok (.loc st.length) (st ++ [.lst ds])
def lcPut (io : Nat) (v : Val) (st : Store) : Res (List D) := (fr io v st).bind fun d st => .ok [d] st
def lcTurn (b : Val) (kt kf : Res (List D)) : Res (List D) := match b with
  | .fz (.bl true) => kt
  | .fz (.bl false) => kf
  | _ => .stuck
mutual
def ev (G : Gam) : Ex → Slots → Store → Res Val
  | .var i, ρ, st => match ρ[i]? with
    | some (some v) => .ok v st
    | _ => .stuck
  | .lit d, _, st => .ok (.fz d) st
  | .none_, _, st => .ok (.fz .non) st
  | .glo j, _, st => pick G.con[j]? fun d => .ok (.fz d) st
  | .bin o a b, ρ, st => (ev G a ρ st).bind fun x st => (ev G b ρ st).bind fun y st => pick (dr st x) fun dx => pick (dr st y) fun dy => opRes (bopS o dx dy) st
  | .cmp o a b, ρ, st => (ev G a ρ st).bind fun x st => (ev G b ρ st).bind fun y st => pick (dr st x) fun dx => pick (dr st y) fun dy => pick (cmpS o dx dy) fun r => .ok (.fz (.bl r)) st
  | .chain o o' a b c, ρ, st => (ev G a ρ st).bind fun x st => (ev G b ρ st).bind fun y st => pick (dr st x) fun dx => pick (dr st y) fun dy => pick (cmpS o dx dy) fun r =>
      if r then (ev G c ρ st).bind fun z st => pick (dr st y) fun dy => pick (dr st z) fun dz => pick (cmpS o' dy dz) fun r => .ok (.fz (.bl r)) st else .ok (.fz (.bl false)) st
  | .neg a, ρ, st => (ev G a ρ st).bind fun x st => match x with
    | .fz (.int i) => .ok (.fz (.int (-i))) st
    | _ => .stuck
  | .not_ a, ρ, st => (ev G a ρ st).bind fun x st => match x with
    | .fz (.bl b) => .ok (.fz (.bl (!b))) st
    | _ => .stuck
  | .and_ a b, ρ, st => (ev G a ρ st).bind fun x st => match x with
    | .fz (.bl true) => ev G b ρ st
    | .fz (.bl false) => .ok (.fz (.bl false)) st
    | _ => .stuck
  | .or_ a b, ρ, st => (ev G a ρ st).bind fun x st => match x with
    | .fz (.bl true) => .ok (.fz (.bl true)) st
    | .fz (.bl false) => ev G b ρ st
    | _ => .stuck
  | .ife c a b, ρ, st => (ev G c ρ st).bind fun x st => match x with
    | .fz (.bl true) => ev G a ρ st
    | .fz (.bl false) => ev G b ρ st
    | _ => .stuck
  | .tru a, ρ, st => (ev G a ρ st).bind fun x st => pick (dr st x) fun d => pick (truS d) fun r => .ok (.fz (.bl r)) st
  | .tup es, ρ, st => (evs G es ρ st).bind fun vs st => (frs G.io vs st).bind fun ds st => if ds.length ≤ LIM then .ok (.fz (.tup ds)) st else .stuck
  | .lst es, ρ, st => (evs G es ρ st).bind fun vs st => (frs G.io vs st).bind fun ds st => if ds.length ≤ LIM then .ok (.loc st.length) (st ++ [.lst ds]) else .stuck
  | .idx a i, ρ, st => (ev G a ρ st).bind fun x st => (ev G i ρ st).bind fun y st => pick (dr st x) fun dx => pick (dr st y) fun dy => pick (idxS dx dy) fun d => .ok (.fz d) st
  | .slc a lo hi, ρ, st => (ev G a ρ st).bind fun x st => ((ev G lo ρ st).bind fun l st => pick (bndV lo.isNone l) fun b => .ok b st).bind fun bl st =>
      ((ev G hi ρ st).bind fun h st => pick (bndV hi.isNone h) fun b => .ok b st).bind fun bh st => pick (dr st x) fun dx => opRes (slcS dx bl bh) st
  | .call j es, ρ, st => pick G.fns[j]? fun fi => (evs G es ρ st).bind fun vs st => callS G.io fi vs st
  | .bfn f es, ρ, st => (evs G es ρ st).bind fun vs st => pick (vs.mapM (dr st)) fun ds => opRes (bfnS f ds) st
  | .mth m a es, ρ, st => (ev G a ρ st).bind fun x st => (evs G es ρ st).bind fun vs st => pick (dr st x) fun d => pick (vs.mapM (dr st)) fun ds => opRes (mthS m d ds) st
  | .isi a ts _, ρ, st => (ev G a ρ st).bind fun x st => pick (dr st x) fun d => pick (isiS G.exm d ts) fun r => .ok (.fz (.bl r)) st
  | .isx i ts _, ρ, st => match ρ[i]? with
    | some (some (.exn x)) => pick (isxS G.exm x.cls ts) fun r => .ok (.fz (.bl r)) st
    | _ => .stuck
  | .xfld i f, ρ, st => match ρ[i]? with
    | some (some (.exn x)) => if G.xfl x.cls f = true then pick (x.fs.lookup f) fun d => .ok (.fz d) st else .stuck
    | _ => .stuck
  | .pop i, ρ, st => match ρ[i]? with
    | some (some (.loc n)) => (match st[n]? with
      | some (.lst ds) => pick ds.getLast? fun d => .ok (.fz d) (st.set n (.lst ds.dropLast))
      | _ => .stuck)
    | _ => .stuck
  | .lc own tg it c elt, ρ, st => (evI G it ρ st).bind fun I st => pick (I.size st) fun n => if n ≤ LIM then
      (lcLoop I (fun d st => pick (asgT tg (.fz d) (wipeS ρ own) st) fun ρ' => (ev G c ρ' st).nox.bind fun b st => lcTurn b ((ev G elt ρ' st).nox.bind fun v st => lcPut G.io v st) (.ok [] st)) n 0 [] st).bind lcEnd else .stuck
def evs (G : Gam) : Exs → Slots → Store → Res (List Val)
  | .nil, _, st => .ok [] st
  | .cons e es, ρ, st => (ev G e ρ st).bind fun v st => (evs G es ρ st).bind fun vs st => .ok (v :: vs) st
def evI (G : Gam) : It → Slots → Store → Res Iter
  | .rng1 a, ρ, st => (ev G a ρ st).bind fun x st => pick (dr st x) fun d => pick (rngS (.int 0) d) fun I => .ok I st
  | .rng2 a b, ρ, st => (ev G a ρ st).bind fun x st => (ev G b ρ st).bind fun y st => pick (dr st x) fun d => pick (dr st y) fun e => pick (rngS d e) fun I => .ok I st
  | .seq a, ρ, st => (ev G a ρ st).bind fun x st => pick (dr st x) fun d => pick (seqI x d) fun I => .ok I st
end

/-! ### statements -/
def Res.sr {α : Type} (r : Res α) (ρ : Slots) (k : α → Store → SR) : SR := match r with
  | .ok a st => k a st
  | .exc x st => .exc x ρ st
  | .stuck => .stuck
def SR.bind (r : SR) (k : Slots → Store → SR) : SR := match r with
  | .nx ρ st => k ρ st
  | r => r
def pickS {α : Type} (o : Option α) (k : α → SR) : SR := match o with
  | some a => k a
  | none => .stuck
def forLoop (I : Iter) (body : D → Slots → Store → SR) : Nat → Nat → Slots → Store → SR
  | 0, i, ρ, st => if I.size st = some i then .nx ρ st else .stuck
  | k + 1, i, ρ, st => if I.size st = some (i + (k + 1)) then pickS (I.at st i) fun d => match body d ρ st with
    | .nx ρ' st' => forLoop I body k (i + 1) ρ' st'
    | .ct ρ' st' => forLoop I body k (i + 1) ρ' st'
    | .bk ρ' st' => .nx ρ' st'
    | r => r else .stuck
/-- a while, n turns at most (none: not ended) -/
def whileN (c : Slots → Store → Res Val) (body : Slots → Store → SR) : Nat → Slots → Store → Option SR
  | 0, _, _ => none
  | n + 1, ρ, st => match c ρ st with
    | .ok (.fz (.bl true)) st => (match body ρ st with
      | .nx ρ' st' => whileN c body n ρ' st'
      | .ct ρ' st' => whileN c body n ρ' st'
      | .bk ρ' st' => some (.nx ρ' st')
      | r => some r)
    | .ok (.fz (.bl false)) st => some (.nx ρ st)
    | .exc x st => some (.exc x ρ st)
    | _ => some .stuck
open Classical in
noncomputable def whileS (c : Slots → Store → Res Val) (body : Slots → Store → SR) (ρ : Slots) (st : Store) : SR :=
  if h : ∃ n r, whileN c body n ρ st = some r then (Classical.choose_spec h).choose else .stuck
/-- the clause that takes it -/
def hitS (exm : Str → Str → Option Bool) (c : Str) (cs : List Str) : Option Bool := isxS exm c cs

def begH (as_ : Option Nat) (x : XD) (ρ : Slots) : Slots := match as_ with
  | none => ρ
  | some i => ρ.set i (some (.exn x))
def goneH (as_ : Option Nat) (ρ : Slots) : Slots := match as_ with
  | none => ρ
  | some i => ρ.set i none
def noExn : Slots → Bool
  | [] => true
  | some (.exn _) :: _ => false
  | _ :: ρ => noExn ρ
/-- behind an except suite: its name is gone -/
def endH (as_ : Option Nat) : SR → SR
  | .nx ρ st => if noExn (goneH as_ ρ) = true then .nx (goneH as_ ρ) st else .stuck
  | .bk ρ st => if noExn (goneH as_ ρ) = true then .bk (goneH as_ ρ) st else .stuck
  | .ct ρ st => if noExn (goneH as_ ρ) = true then .ct (goneH as_ ρ) st else .stuck
  | .rt d st => .rt d st
  | .rtl ds st => .rtl ds st
  | _ => .stuck
mutual
noncomputable def ex (G : Gam) : St → Slots → Store → SR
  | .asg t e, ρ, st => (ev G e ρ st).sr ρ fun v st => pickS (asgT t v ρ st) fun ρ => .nx ρ st
  | .six i k e, ρ, st => (ev G e ρ st).sr ρ fun v st => match ρ[i]? with
    | some (some (.loc n)) => (ev G k ρ st).sr ρ fun y st => (fr G.io v st).sr ρ fun d st => (match dr st y, st[n]? with
      | some (.int j), some (.lst ds) => pickS (ixN ds.length j) fun m => .nx ρ (st.set n (.lst (ds.set m d)))
      | _, _ => .stuck)
    | _ => .stuck
  | .app i e, ρ, st => match ρ[i]? with
    | some (some (.loc n)) => (match st[n]? with
      | some (.lst _) => (ev G e ρ st).sr ρ fun v st => (fr G.io v st).sr ρ fun d st => (match st[n]? with
        | some (.lst ds) => if ds.length < LIM then .nx ρ (st.set n (.lst (ds ++ [d]))) else .stuck
        | _ => .stuck)
      | _ => .stuck)
    | _ => .stuck
  | .exp e, ρ, st => (ev G e ρ st).sr ρ fun _ st => .nx ρ st
  | .if_ c a b, ρ, st => (ev G c ρ st).sr ρ fun x st => match x with
    | .fz (.bl true) => exs G a ρ st
    | .fz (.bl false) => exs G b ρ st
    | _ => .stuck
  | .whl c b, ρ, st => whileS (ev G c) (exs G b) ρ st
  | .for_ t it b, ρ, st => (evI G it ρ st).sr ρ fun I st => pickS (I.size st) fun n => forLoop I (fun d ρ st => pickS (asgT t (.fz d) ρ st) fun ρ => exs G b ρ st) n 0 ρ st
  | .ret e, ρ, st => (ev G e ρ st).sr ρ fun v st => (fr G.io v st).sr ρ fun d st => .rt d st
  | .retl e, ρ, st => (ev G e ρ st).sr ρ fun v st => match v with
    | .loc n => if G.io ≤ n then (match st[n]? with
      | some (.lst ds) => .rtl ds st
      | _ => .stuck) else .stuck
    | _ => .stuck
  | .dead, _, _ => .stuck
  | .retn, _, st => .rt .non st
  | .pass, ρ, st => .nx ρ st
  | .brk, ρ, st => .bk ρ st
  | .cnt, ρ, st => .ct ρ st
  | .rais c, ρ, st => .exc ⟨c, []⟩ ρ st
  | .raisf c f e, ρ, st => (ev G e ρ st).sr ρ fun v st => (fr G.io v st).sr ρ fun d st => .exc ⟨c, [(f, d)]⟩ ρ st
  | .try_ b hs, ρ, st => match exs G b ρ st with
    | .exc x ρ st => exh G hs x ρ st
    | r => r
noncomputable def exs (G : Gam) : Sts → Slots → Store → SR
  | .nil, ρ, st => .nx ρ st
  | .cons s ss, ρ, st => (ex G s ρ st).bind fun ρ st => exs G ss ρ st
noncomputable def exh (G : Gam) : Hds → XD → Slots → Store → SR
  | .nil, x, ρ, st => .exc x ρ st
  | .cons cs _ as_ b hs, x, ρ, st => match hitS G.exm x.cls cs with
    | some true => endH as_ (exs G b (begH as_ x ρ) st)
    | some false => exh G hs x ρ st
    | none => .stuck
end

/-! ### a def -/
structure Def where
  n : Nat
  body : Sts
def contsOf : List Arg → List Cont
  | [] => []
  | .mu c :: as => c :: contsOf as
  | .fz _ :: as => contsOf as
def slotsOf : Nat → List Arg → Slots
  | _, [] => []
  | i, .mu _ :: as => some (.loc i) :: slotsOf (i + 1) as
  | i, .fz d :: as => some (.fz d) :: slotsOf i as
noncomputable def runDef (G : Gam) (d : Def) (args : List Arg) : FRes :=
  match exs { G with io := (contsOf args).length } d.body (slotsOf 0 args ++ List.replicate (d.n - args.length) none) (contsOf args) with
  | .nx _ st => .ok .non (st.take (contsOf args).length)
  | .rt d st => .ok d (st.take (contsOf args).length)
  | .rtl ds st => .okl ds (st.take (contsOf args).length)
  | .exc x _ st => .exc x (st.take (contsOf args).length)
  | _ => .stuck
end PD

/-! PD3 -/
set_option Elab.async false
set_option linter.all false
set_option maxRecDepth 100000
set_option maxHeartbeats 4000000
/-! PD: the state's relation kept by the store's deeds. -/
namespace PD
open PySem PySem.Spec PyProof.Rows L2

/-- a step of the ghost and the heap -/
structure Step (g : Gh) (H : Hp) (g' : Gh) (H' : Hp) : Prop where
  le : g.le g'
  frame : ∀ b o, H b = some o → b ∉ g.A → H' b = some o
  freshF : ∀ b, g'.F b ≠ none → g.F b ≠ none ∨ H b = none ∨ b ∈ g.A
  freshA : ∀ b, b ∈ g'.A → b ∈ g.A ∨ H b = none
theorem Step.refl (g : Gh) (H : Hp) : Step g H g H := ⟨Gh.le.refl g, fun _ _ e _ => e, fun _ h => .inl h, fun _ h => .inl h⟩
theorem Step.trans {g0 g1 g2 : Gh} {H0 H1 H2 : Hp} (a : Step g0 H0 g1 H1) (b : Step g1 H1 g2 H2) : Step g0 H0 g2 H2 where
  le := a.le.trans b.le
  frame := fun c o e h => by
    refine b.frame c o (a.frame c o e h) fun hc => ?_
    rcases a.freshA c hc with q | q
    · exact h q
    · rw [e] at q; cases q
  freshF := fun c h => by
    rcases b.freshF c h with q | q | q
    · exact a.freshF c q
    · cases e : H0 c with
      | none => exact .inr (.inl rfl)
      | some o =>
        by_cases hc : c ∈ g0.A
        · exact .inr (.inr hc)
        · rw [a.frame c o e hc] at q; cases q
    · rcases a.freshA c q with r | r
      · exact .inr (.inr r)
      · exact .inr (.inl r)
  freshA := fun c h => by
    rcases b.freshA c h with q | q
    · exact a.freshA c q
    · cases e : H0 c with
      | none => exact .inr rfl
      | some o =>
        by_cases hc : c ∈ g0.A
        · exact .inl hc
        · rw [a.frame c o e hc] at q; cases q

section
variable {B : Bs} {g : Gh} {H : Hp} {σ : L2.St} {ρ : Slots} {st : Store}

theorem getA {A : List Addr} (h : A.Nodup) {i j : Nat} {a : Addr} (e1 : A[i]? = some a) (e2 : A[j]? = some a) : i = j := by
  have h1 := (List.getElem?_eq_some_iff.mp e1)
  have h2 := (List.getElem?_eq_some_iff.mp e2)
  obtain ⟨l1, q1⟩ := h1
  obtain ⟨l2, q2⟩ := h2
  exact (List.getElem_inj h).mp (q1.trans q2.symm)

theorem ER.fresh0 (r : ER B g H σ ρ st) {p : Addr} (h : H p = none) : g.F p = none ∧ p ∉ g.A ∧ B.H0 p = none ∧ p ∉ B.lk := by
  have h1 : g.F p = none := r.le.free h
  have h2 : p ∉ g.A := fun hp => by
    obtain ⟨i, hi⟩ := List.getElem?_of_mem hp
    exact r.there i p hi h
  have h3 : p ∉ B.lk := fun hp => (r.lkd p hp).1 h1
  refine ⟨h1, h2, ?_, h3⟩
  cases e : B.H0 p with
  | none => rfl
  | some o =>
    have := r.keep p o e (fun hp => h2 (r.io.subset hp)) h3
    rw [h] at this; cases this

/-- b is a list that may be changed now -/
def Live (g : Gh) (st : Store) (b : Addr) : Prop := ∃ (i : Nat) (c : Cont), g.A[i]? = some b ∧ st[i]? = some c ∧ c.live = true
theorem ContR.mut {R : RC} {F H : Hp} {a : Addr} {c : Cont} (r : ContR R F H a c) (hc : c.live = true) : (∃ xs, H a = some (.lst xs)) ∨ ∃ kvs, H a = some (.dK kvs) := by
  cases c with
  | lst ds => obtain ⟨_, xs, e, _⟩ := r; exact .inl ⟨xs, e⟩
  | dct ks ds => obtain ⟨_, xs, e, _⟩ := r; exact .inr ⟨xs, e⟩
  | fz d => cases hc

/-- the state goes on: the ghost's F and A grow, the heap changes at live lists alone -/
theorem ER.next (r : ER B g H σ ρ st) {g' : Gh} {H' : Hp} {st' : Store} (hle : g.le g') (le : Le g'.F H')
    (fresh : ∀ b, g'.F b ≠ none → g.F b ≠ none ∨ B.H0 b = none) (keep : ∀ b o, H b = some o → Live g st b ∨ H' b = some o)
    (hlen : g'.A.length = st'.length) (hnd : g'.A.Nodup) (hlive : ∀ (i : Nat) (c : Cont), i < B.io.length → st'[i]? = some c → c.live = true)
    (hown : ∀ (i : Nat) (a : Addr), g.A.length ≤ i → g'.A[i]? = some a → B.H0 a = none)
    (hthere : ∀ (i : Nat) (a : Addr), g'.A[i]? = some a → H' a ≠ none)
    (hc : ∀ (i : Nat) (a : Addr) (c : Cont), g'.A[i]? = some a → st'[i]? = some c → ContR B.R g'.F H' a c) : ER B g' H' σ ρ st' where
  same0 := r.same0.trans hle.F
  le := le
  fresh := fun b h => by
    rcases fresh b h with q | q
    · exact r.fresh b q
    · exact .inr q
  keep := fun b o e hio hlk => by
    have h1 := r.keep b o e hio hlk
    rcases keep b o h1 with ⟨i, c, hA, hs, hl⟩ | q
    · by_cases hi : i < B.io.length
      · obtain ⟨t, ht⟩ := r.io
        have : B.io[i]? = some b := by
          rw [← ht, List.getElem?_append_left hi] at hA; exact hA
        exact absurd (List.mem_of_getElem? this) hio
      · have := r.own i b (by omega) hA
        rw [e] at this; cases this
    · exact q
  lkd := fun b hb => by
    obtain ⟨h1, ob, u, h2, h3⟩ := r.lkd b hb
    refine ⟨fun z => ?_, ob, u, ?_, h3⟩
    · cases e : g.F b with
      | none => exact h1 e
      | some o => rw [hle.F b o e] at z; cases z
    · rcases keep b _ h2 with ⟨i, c, hA, hs, hl⟩ | q
      · rcases (r.conts i b c hA hs).mut hl with ⟨xs, z⟩ | ⟨xs, z⟩
        · rw [h2] at z; cases z
        · rw [h2] at z; cases z
      · exact q
  len := hlen
  nodup := hnd
  io := r.io.trans hle.A
  iolive := hlive
  own := fun i a hi e => by
    by_cases h : i < g.A.length
    · obtain ⟨t, ht⟩ := hle.A
      rw [← ht, List.getElem?_append_left h] at e
      exact r.own i a hi e
    · exact hown i a (by omega) e
  there := hthere
  conts := hc
  slen := r.slen
  slots := fun i o v e1 e2 => (r.slots i o v e1 e2).up hle

/-- nothing but what stands still grows: a new object that stands still at p -/
theorem ER.lay (r : ER B g H σ ρ st) {p : Addr} {o : HO} (h : H p = none) : ER B ⟨upd g.F p o, g.A⟩ (upd H p o) σ ρ st ∧ Step g H ⟨upd g.F p o, g.A⟩ (upd H p o) := by
  obtain ⟨h1, h2, h3, h4⟩ := r.fresh0 h
  have hF : Same g.F (upd g.F p o) := Same.upd h1
  have hH : Same H (upd H p o) := Same.upd h
  have neA : ∀ (i : Nat) (a : Addr), g.A[i]? = some a → a ≠ p := fun i a e z => h2 (by rw [← z]; exact List.mem_of_getElem? e)
  refine ⟨r.next ⟨hF, List.prefix_refl _⟩ (fun a u e => ?_) (fun b hb => ?_) (fun b u e => .inr (hH b u e)) r.len r.nodup r.iolive (fun i a hi e => ?_) (fun i a e => ?_) fun i a c e1 e2 => ?_, ⟨⟨hF, List.prefix_refl _⟩, fun b u e _ => hH b u e, fun b hb => ?_, fun b hb => .inl hb⟩⟩
  · by_cases ha : a = p
    · subst ha
      have e' : upd g.F a o a = some u := e
      rw [upd_same] at e'
      exact .inl (by rw [upd_same]; exact e')
    · have e' : upd g.F p o a = some u := e
      rw [upd_ne ha] at e'
      rw [upd_ne ha]
      exact r.le a u e'
  · by_cases ha : b = p
    · exact .inr (by rw [ha]; exact h3)
    · have hb' : upd g.F p o b ≠ none := hb
      rw [upd_ne ha] at hb'
      exact .inl hb'
  · have := (List.getElem?_eq_some_iff.mp e).1
    exact absurd this (by simp only; omega)
  · have := r.there i a e
    rw [upd_ne (neA i a e)]; exact this
  · refine (r.conts i a c e1 e2).F hF (fun hl => ?_) (fun _ => upd_ne (neA i a e1))
    show upd g.F p o a = none
    rw [upd_ne (neA i a e1)]
    exact (r.conts i a c e1 e2).out hl
  · by_cases ha : b = p
    · exact .inr (.inl (by rw [ha]; exact h))
    · have hb' : upd g.F p o b ≠ none := hb
      rw [upd_ne ha] at hb'
      exact .inl hb'

/-- a new list or dict of the store at p -/
theorem ER.alloc (r : ER B g H σ ρ st) {p : Addr} {o : HO} {c : Cont} (h : H p = none) (hl : c.live = true) (hc : ∀ H', H' p = some o → ContR B.R g.F H' p c) :
    ER B ⟨g.F, g.A ++ [p]⟩ (upd H p o) σ ρ (st ++ [c]) ∧ Step g H ⟨g.F, g.A ++ [p]⟩ (upd H p o) := by
  obtain ⟨h1, h2, h3, h4⟩ := r.fresh0 h
  have hH : Same H (upd H p o) := Same.upd h
  have neA : ∀ (i : Nat) (a : Addr), g.A[i]? = some a → a ≠ p := fun i a e z => h2 (by rw [← z]; exact List.mem_of_getElem? e)
  have lastA : ∀ (i : Nat) (a : Addr), (g.A ++ [p])[i]? = some a → g.A[i]? = some a ∨ (i = g.A.length ∧ a = p) := fun i a e => by
    by_cases hi : i < g.A.length
    · rw [List.getElem?_append_left hi] at e; exact .inl e
    · rw [List.getElem?_append_right (by omega)] at e
      have hi2 : i - g.A.length = 0 := by
        have := (List.getElem?_eq_some_iff.mp e).1
        simp at this; omega
      rw [hi2] at e
      simp at e
      exact .inr ⟨by omega, e.symm⟩
  refine ⟨r.next ⟨Same.refl _, List.prefix_append _ _⟩ (fun a u e => ?_) (fun b hb => .inl hb) (fun b u e => .inr (hH b u e)) ?_ ?_ (fun i c' hi e => ?_) (fun i a hi e => ?_) (fun i a e => ?_) fun i a c' e1 e2 => ?_, ⟨⟨Same.refl _, List.prefix_append _ _⟩, fun b u e _ => hH b u e, fun b hb => .inl hb, fun b hb => ?_⟩⟩
  · exact (r.le.up hH) a u e
  · simp [r.len]
  · refine List.nodup_append.mpr ⟨r.nodup, by simp, fun x hx y hy => ?_⟩
    have : y = p := by simpa using hy
    subst this
    intro z; subst z; exact h2 hx
  · by_cases h' : i < st.length
    · rw [List.getElem?_append_left h'] at e
      exact r.iolive i c' hi e
    · rw [List.getElem?_append_right (by omega)] at e
      have := (List.getElem?_eq_some_iff.mp e).1
      simp at this
      have hz : i - st.length = 0 := by omega
      rw [hz] at e
      simp at e
      rw [← e]; exact hl
  · rcases lastA i a e with q | ⟨_, q⟩
    · have := (List.getElem?_eq_some_iff.mp q).1
      exact absurd this (by omega)
    · rw [q]; exact h3
  · rcases lastA i a e with q | ⟨_, q⟩
    · rw [upd_ne (neA i a q)]; exact r.there i a q
    · rw [q, upd_same]; intro z; cases z
  · rcases lastA i a e1 with q | ⟨qi, q⟩
    · have hi : i < st.length := by
        have := (List.getElem?_eq_some_iff.mp q).1
        rw [r.len] at this; exact this
      rw [List.getElem?_append_left hi] at e2
      exact (r.conts i a c' q e2).F (Same.refl _) (fun hl' => (r.conts i a c' q e2).out hl') (fun _ => upd_ne (neA i a q))
    · have hi : i = st.length := by rw [qi, r.len]
      subst hi
      rw [List.getElem?_append_right (Nat.le_refl _)] at e2
      simp at e2
      rw [← e2, q]
      exact hc _ upd_same
  · rcases List.mem_append.mp hb with q | q
    · exact .inl q
    · have : b = p := by simpa using q
      exact .inr (by rw [this]; exact h)

theorem setAt {α : Type} {l : List α} {i j : Nat} {x y : α} (h : (l.set i x)[j]? = some y) : (i ≠ j ∧ l[j]? = some y) ∨ (i = j ∧ x = y) := by
  by_cases hij : i = j
  · subst hij
    rw [List.getElem?_set_self'] at h
    cases e : l[i]? with
    | none => rw [e] at h; cases h
    | some z =>
      rw [e] at h
      simp at h
      exact .inr ⟨rfl, h⟩
  · rw [List.getElem?_set_ne hij] at h
    exact .inl ⟨hij, h⟩

/-- a live list of the store is changed -/
theorem ER.put (r : ER B g H σ ρ st) {n : Nat} {a : Addr} {c0 c : Cont} {o : HO} (hA : g.A[n]? = some a) (hs : st[n]? = some c0) (h0 : c0.live = true) (hl : c.live = true) (hc : ∀ H', H' a = some o → ContR B.R g.F H' a c) :
    ER B g (upd H a o) σ ρ (st.set n c) ∧ Step g H g (upd H a o) := by
  have out := (r.conts n a c0 hA hs).out h0
  refine ⟨r.next (Gh.le.refl g) (fun b u e => ?_) (fun b hb => .inl hb) (fun b u e => ?_) (by rw [List.length_set]; exact r.len) r.nodup (fun i c' hi e => ?_) (fun i b hi e => ?_) (fun i b e => ?_) fun i b c' e1 e2 => ?_, ⟨Gh.le.refl g, fun b u e hb => ?_, fun b hb => .inl hb, fun b hb => .inl hb⟩⟩
  · have hb : b ≠ a := fun z => by rw [z, out] at e; cases e
    rw [upd_ne hb]
    exact r.le b u e
  · by_cases hb : b = a
    · subst hb
      exact .inl ⟨n, c0, hA, hs, h0⟩
    · exact .inr (by rw [upd_ne hb]; exact e)
  · rcases setAt e with ⟨_, q⟩ | ⟨_, q⟩
    · exact r.iolive i c' hi q
    · rw [← q]; exact hl
  · have := (List.getElem?_eq_some_iff.mp e).1
    exact absurd this (by omega)
  · by_cases hb : b = a
    · rw [hb, upd_same]; intro z; cases z
    · rw [upd_ne hb]; exact r.there i b e
  · rcases setAt e2 with ⟨hn, q⟩ | ⟨hn, q⟩
    · have hb : b ≠ a := fun z => hn (getA r.nodup hA (by rw [← z]; exact e1))
      exact (r.conts i b c' e1 q).F (Same.refl _) (fun hl' => (r.conts i b c' e1 q).out hl') (fun _ => upd_ne hb)
    · subst hn
      rw [hA] at e1; cases e1
      rw [← q]
      exact hc _ upd_same
  · have hb' : b ≠ a := fun z => hb (by rw [z]; exact List.mem_of_getElem? hA)
    rw [upd_ne hb']; exact e

/-- a live list of the store stands still from now on -/
theorem ER.still (r : ER B g H σ ρ st) {n : Nat} {a : Addr} {c : Cont} (hA : g.A[n]? = some a) (hs : st[n]? = some c) (hl : c.live = true) (hn : B.io.length ≤ n) :
    ∃ F', ER B ⟨F', g.A⟩ H σ ρ (st.set n (.fz c.d)) ∧ Step g H ⟨F', g.A⟩ H ∧ Rep B.R F' (.ref a) c.d := by
  have q := r.conts n a c hA hs
  have out := q.out hl
  have h0 := r.own n a hn hA
  obtain ⟨o, ho⟩ : ∃ o, H a = some o := by
    cases e : H a with
    | none => exact absurd e (r.there n a hA)
    | some o => exact ⟨o, rfl⟩
  have hF : Same g.F (upd g.F a o) := Same.upd out
  have rep : Rep B.R (upd g.F a o) (.ref a) c.d := by
    cases c with
    | lst ds =>
      obtain ⟨_, xs, e, l⟩ := q
      rw [ho] at e; cases e
      exact .lst (SqL.of upd_same) (l.mono hF)
    | dct ks ds =>
      obtain ⟨_, kvs, e, k, l⟩ := q
      rw [ho] at e; cases e
      exact .dct upd_same k rfl (l.mono hF)
    | fz d => cases hl
  have neA : ∀ (i : Nat) (b : Addr), g.A[i]? = some b → i ≠ n → b ≠ a := fun i b e hi z => hi (getA r.nodup (by rw [← z]; exact e) hA)
  refine ⟨upd g.F a o, r.next ⟨hF, List.prefix_refl _⟩ (fun b u e => ?_) (fun b hb => ?_) (fun b u e => .inr e) (by rw [List.length_set]; exact r.len) r.nodup (fun i c' hi e => ?_) (fun i b hi e => ?_) r.there fun i b c' e1 e2 => ?_, ⟨⟨hF, List.prefix_refl _⟩, fun b u e _ => e, fun b hb => ?_, fun b hb => .inl hb⟩, rep⟩
  · have e' : upd g.F a o b = some u := e
    by_cases hb : b = a
    · rw [hb, upd_same] at e'; cases e'
      exact .inl (by rw [hb]; exact ho)
    · rw [upd_ne hb] at e'
      exact r.le b u e'
  · have hb' : upd g.F a o b ≠ none := hb
    by_cases hba : b = a
    · exact .inr (by rw [hba]; exact h0)
    · rw [upd_ne hba] at hb'; exact .inl hb'
  · rcases setAt e with ⟨_, q⟩ | ⟨hz, _⟩
    · exact r.iolive i c' hi q
    · omega
  · have := (List.getElem?_eq_some_iff.mp e).1
    exact absurd this (by simp only; omega)
  · rcases setAt e2 with ⟨hz, q2⟩ | ⟨hz, q2⟩
    · have hb := neA i b e1 (Ne.symm hz)
      refine (r.conts i b c' e1 q2).F hF (fun hl' => ?_) (fun _ => rfl)
      show upd g.F a o b = none
      rw [upd_ne hb]
      exact (r.conts i b c' e1 q2).out hl'
    · subst hz
      have e1' : g.A[n]? = some b := e1
      rw [hA] at e1'; cases e1'
      rw [← q2]
      exact rep
  · have hb' : upd g.F a o b ≠ none := hb
    by_cases hba : b = a
    · exact .inr (.inr (by rw [hba]; exact List.mem_of_getElem? hA))
    · rw [upd_ne hba] at hb'; exact .inl hb'

/-! ### what a value is -/
theorem ER.stAt (r : ER B g H σ ρ st) {n : Nat} {a : Addr} (h : g.A[n]? = some a) : ∃ c, st[n]? = some c := by
  have := (List.getElem?_eq_some_iff.mp h).1
  rw [r.len] at this
  exact ⟨_, List.getElem?_eq_getElem this⟩
theorem ER.atA (r : ER B g H σ ρ st) {n : Nat} {c : Cont} (h : st[n]? = some c) : ∃ a, g.A[n]? = some a := by
  have := (List.getElem?_eq_some_iff.mp h).1
  rw [← r.len] at this
  exact ⟨_, List.getElem?_eq_getElem this⟩
/-- what may be read at a value -/
inductive RdV (R : RC) (F H : Hp) : V → D → Prop
  | rep {x : V} {d : D} : Rep R F x d → RdV R F H x d
  | lst {a : Addr} {xs : List V} {ds : List D} : F a = none → H a = some (.lst xs) → RepL R F xs ds → RdV R F H (.ref a) (.lst ds)
  | dct {a : Addr} {kvs : List (Key × V)} {ks : List Key} {ds : List D} : F a = none → H a = some (.dK kvs) → kvs.map (·.1) = ks → RepL R F (kvs.map (·.2)) ds → RdV R F H (.ref a) (.dct ks ds)
theorem ER.rd (r : ER B g H σ ρ st) {x : V} {v : Val} {d : D} (h : ValR B.R B.ex g.F g.A x v) (e : dr st v = some d) : RdV B.R g.F H x d := by
  cases v with
  | fz d' => cases e; exact .rep h
  | loc n =>
    obtain ⟨a, hA, rfl⟩ := h
    have e' : (match st[n]? with | some c => some c.d | none => none) = some d := e
    cases hs : st[n]? with
    | none => rw [hs] at e'; cases e'
    | some c =>
      rw [hs] at e'
      cases e'
      have q := r.conts n a c hA hs
      cases c with
      | lst ds => obtain ⟨o, xs, hx, l⟩ := q; exact .lst o hx l
      | dct ks ds => obtain ⟨o, kvs, hx, k, l⟩ := q; exact .dct o hx k l
      | fz d => exact .rep q
  | exn x => cases e
theorem RdV.int {R : RC} {F H : Hp} {x : V} {i : Int} (h : RdV R F H x (.int i)) : x = .int i := by
  cases h with
  | rep h => cases h; rfl
theorem RdV.str {R : RC} {F H : Hp} {x : V} {s : Str} (h : RdV R F H x (.str s)) : x = .str s := by
  cases h with
  | rep h => cases h; rfl
theorem RdV.bl {R : RC} {F H : Hp} {x : V} {b : Bool} (h : RdV R F H x (.bl b)) : x = .bl b := by
  cases h with
  | rep h => cases h; rfl
theorem RdV.non {R : RC} {F H : Hp} {x : V} (h : RdV R F H x .non) : x = .non := by
  cases h with
  | rep h => cases h; rfl
theorem RdV.asL {R : RC} {F H : Hp} {x : V} {ds : List D} (l : Le F H) (h : RdV R F H x (.lst ds)) : ∃ a xs, x = .ref a ∧ SqL R.K H a xs ∧ RepL R F xs ds := by
  cases h with
  | rep h => cases h with
    | lst s k => exact ⟨_, _, rfl, l.sqL s, k⟩
  | lst _ h k => exact ⟨_, _, rfl, SqL.of h, k⟩
theorem RdV.asT {R : RC} {F H : Hp} {x : V} {ds : List D} (l : Le F H) (h : RdV R F H x (.tup ds)) : ∃ a xs, x = .ref a ∧ SqT R.K H a xs ∧ RepL R F xs ds := by
  cases h with
  | rep h => cases h with
    | tup s k => exact ⟨_, _, rfl, l.sqT s, k⟩

/-- a value is handed on -/
theorem ER.fr (r : ER B g H σ ρ st) {x : V} {v : Val} {d : D} {st' : Store} (h : ValR B.R B.ex g.F g.A x v) (e : fr B.io.length v st = .ok d st') :
    ∃ F', ER B ⟨F', g.A⟩ H σ ρ st' ∧ Step g H ⟨F', g.A⟩ H ∧ Rep B.R F' x d := by
  cases v with
  | fz d' => cases e; exact ⟨g.F, r, Step.refl _ _, h⟩
  | loc n =>
    obtain ⟨a, hA, rfl⟩ := h
    obtain ⟨c, hs⟩ := r.stAt hA
    have e' : (match st[n]? with | some (.fz d) => Res.ok d st | some c => if B.io.length ≤ n then .ok c.d (st.set n (.fz c.d)) else .stuck | none => .stuck) = .ok d st' := e
    rw [hs] at e'
    have live : c.live = true → (if B.io.length ≤ n then Res.ok c.d (st.set n (.fz c.d)) else .stuck) = .ok d st' → ∃ F', ER B ⟨F', g.A⟩ H σ ρ st' ∧ Step g H ⟨F', g.A⟩ H ∧ Rep B.R F' (.ref a) d := fun hl q => by
      by_cases hn : B.io.length ≤ n
      · rw [if_pos hn] at q
        cases q
        exact r.still hA hs hl hn
      · rw [if_neg hn] at q; cases q
    cases c with
    | lst ds => exact live rfl e'
    | dct ks ds => exact live rfl e'
    | fz d0 =>
      cases e'
      exact ⟨g.F, r, Step.refl _ _, r.conts n a _ hA hs⟩
  | exn x => cases e
theorem fr_no_exc {io : Nat} {v : Val} {st st' : Store} {x : XD} : PD.fr io v st ≠ .exc x st' := by
  intro h
  cases v with
  | fz d => cases h
  | loc n =>
    have e' : (match st[n]? with | some (.fz d) => Res.ok d st | some c => if io ≤ n then .ok c.d (st.set n (.fz c.d)) else .stuck | none => .stuck) = .exc x st' := h
    cases hs : st[n]? with
    | none => rw [hs] at e'; cases e'
    | some c =>
      rw [hs] at e'
      cases c with
      | fz d => cases e'
      | lst ds =>
        by_cases hn : io ≤ n
        · simp only [if_pos hn] at e'; cases e'
        · simp only [if_neg hn] at e'; cases e'
      | dct ks ds =>
        by_cases hn : io ≤ n
        · simp only [if_pos hn] at e'; cases e'
        · simp only [if_neg hn] at e'; cases e'
  | exn x => cases h
end
end PD

/-! PD4 -/
set_option Elab.async false
set_option linter.all false
set_option maxRecDepth 100000
set_option maxHeartbeats 4000000
/-! PD: what must hold behind a result; the operations. -/
namespace PD
open PySem PySem.Spec PyProof.Rows L2

theorem lim_eq : LIM = sizeLine := by rw [sizeLine_eq] <;> rfl

/-- what must hold behind a result: k of a value, W of an exception -/
def Pst (B : Bs) (W : WX) (g : Gh) (H : Hp) (σ : L2.St) (ρ : Slots) {α : Type} (r : Res α) (k : α → Store → Gh → Hp → Prop) : Prop := match r with
  | .ok a st' => ∀ g' H', ER B g' H' σ ρ st' → Step g H g' H' → k a st' g' H'
  | .exc x st' => ∀ g' H' cls dd, ER B g' H' σ ρ st' → Step g H g' H' → XR B.R g'.F x cls dd → W cls dd σ H'
  | .stuck => False
abbrev kV (B : Bs) (Q : VK) : Val → Store → Gh → Hp → Prop := fun v _ g' H' => ∀ x, ValR B.R B.ex g'.F g'.A x v → Q x H'
def tE (B : Bs) (W : WX) (c : Slots → Store → Res Val) : TE := fun σ H Q => ∃ g ρ st, ER B g H σ ρ st ∧ Pst B W g H σ ρ (c ρ st) (kV B Q)
/-- .. of a test -/
def tT (B : Bs) (W : WX) (c : Slots → Store → Res Val) : TT := fun σ H Q => ∃ g ρ st, ER B g H σ ρ st ∧ Pst B W g H σ ρ (c ρ st) fun v _ _ H' => ∃ b, v = .fz (.bl b) ∧ Q b H'
inductive ValsR (R : RC) (X : ExH) (F : Hp) (A : List Addr) : List V → List Val → Prop
  | nil : ValsR R X F A [] []
  | cons {x : V} {xs : List V} {v : Val} {vs : List Val} : ValR R X F A x v → ValsR R X F A xs vs → ValsR R X F A (x :: xs) (v :: vs)
def tA' (B : Bs) (W : WX) (c : Slots → Store → Res (List Val)) : TA := fun σ H Q => ∃ g ρ st, ER B g H σ ρ st ∧ Pst B W g H σ ρ (c ρ st) fun vs _ g' H' => ∀ xs, ValsR B.R B.ex g'.F g'.A xs vs → Q xs H'

section
variable {B : Bs} {W : WX} {g : Gh} {H : Hp} {σ : L2.St} {ρ : Slots} {st : Store} {α β : Type} {Q : VK}

theorem Pst.imp {r : Res α} {k k' : α → Store → Gh → Hp → Prop} (h : Pst B W g H σ ρ r k) (i : ∀ a st' g' H', ER B g' H' σ ρ st' → Step g H g' H' → k a st' g' H' → k' a st' g' H') : Pst B W g H σ ρ r k' := by
  cases r with
  | ok a st' => exact fun g' H' e s => i a st' g' H' e s (h g' H' e s)
  | exc x st' => exact h
  | stuck => exact h
theorem Pst.bind {r : Res α} {f : α → Store → Res β} {k : β → Store → Gh → Hp → Prop} (h : Pst B W g H σ ρ (r.bind f) k) : Pst B W g H σ ρ r (fun a st1 g1 H1 => Pst B W g1 H1 σ ρ (f a st1) k) := by
  cases r with
  | ok a st1 =>
    intro g1 H1 e1 s1
    have h' : Pst B W g H σ ρ (f a st1) k := h
    cases q : f a st1 with
    | ok b st2 =>
      rw [q] at h'
      exact fun g2 H2 e2 s2 => h' g2 H2 e2 (s1.trans s2)
    | exc x st2 =>
      rw [q] at h'
      exact fun g2 H2 cls dd e2 s2 xr => h' g2 H2 cls dd e2 (s1.trans s2) xr
    | stuck =>
      rw [q] at h'
      exact h'
  | exc x st1 => exact h
  | stuck => exact h
theorem Pst.bindE {r : Res α} {f : α → Store → Res β} {k : β → Store → Gh → Hp → Prop} (h : Pst B W g H σ ρ (r.bind f) k) : Pst B W g H σ ρ r (fun a st1 g1 H1 => r = .ok a st1 ∧ Pst B W g1 H1 σ ρ (f a st1) k) := by
  have h2 := h.bind
  cases r with
  | ok a st1 => exact fun g1 H1 e1 s1 => ⟨rfl, h2 g1 H1 e1 s1⟩
  | exc x st1 => exact h2
  | stuck => exact h2
theorem Pst.pick {o : Option α} {f : α → Res β} {k : β → Store → Gh → Hp → Prop} (h : Pst B W g H σ ρ (pick o f) k) : ∃ a, o = some a ∧ Pst B W g H σ ρ (f a) k := by
  cases o with
  | none => exact h.elim
  | some a => exact ⟨a, rfl, h⟩
theorem Pst.ok {a : α} {k : α → Store → Gh → Hp → Prop} (h : Pst B W g H σ ρ (.ok a st) k) (e : ER B g H σ ρ st) : k a st g H := h g H e (Step.refl _ _)
theorem Pst.here {g' : Gh} {H' : Hp} {st' : Store} {a : α} {k : α → Store → Gh → Hp → Prop} (h : Pst B W g H σ ρ (.ok a st') k) (e : ER B g' H' σ ρ st') (s : Step g H g' H') : k a st' g' H' := h g' H' e s

/-! ### new values -/
theorem Pst.same {d : D} {x : V} (h : Pst B W g H σ ρ (.ok (.fz d) st) (kV B Q)) (e : ER B g H σ ρ st) (r : Rep B.R g.F x d) : Q x H := h.ok e x r
theorem Pst.newt {ds : List D} {xs : List V} (h : Pst B W g H σ ρ (.ok (.fz (.tup ds)) st) (kV B Q)) (e : ER B g H σ ρ st) (r : RepL B.R g.F xs ds) {p : Addr} (hp : H p = none) : Q (.ref p) (upd H p (.tup xs)) := by
  obtain ⟨e', s⟩ := e.lay (o := .tup xs) hp
  exact h.here e' s _ (.tup (SqT.of upd_same) (r.mono s.le.F))
theorem Pst.newl {ds : List D} {xs : List V} (h : Pst B W g H σ ρ (.ok (.loc st.length) (st ++ [.lst ds])) (kV B Q)) (e : ER B g H σ ρ st) (r : RepL B.R g.F xs ds) {p : Addr} (hp : H p = none) : Q (.ref p) (upd H p (.lst xs)) := by
  obtain ⟨e', s⟩ := e.alloc (c := .lst ds) (o := .lst xs) hp rfl fun H' hH => ⟨(e.fresh0 hp).1, xs, hH, r⟩
  exact h.here e' s _ ⟨p, by rw [← e.len]; simp, rfl⟩
end

/-! ### operations by values -/
section
variable {X : Cx}
theorem opr_or {f : Value → Value → Sem Value} {r r' : R2} (h : OpR X f r) (h' : OpR X f r') : OpR X f (fun x y H Q => r x y H Q ∨ r' x y H Q) := by
  intro pins s σ H x y v u Q I rx ry q
  rcases q with q | q
  · exact h pins s σ H x y v u Q I rx ry q
  · exact h' pins s σ H x y v u Q I rx ry q
theorem opr_of {f : Value → Value → Sem Value} {r r' : R2} (h : OpR X f r) (i : ∀ x y H Q, r' x y H Q → r x y H Q) : OpR X f r' := fun pins s σ H x y v u Q I rx ry q => h pins s σ H x y v u Q I rx ry (i _ _ _ _ q)
/-- list + list, wherever they stand -/
def rCatL (K : PySem.W.Frag) : R2 := fun x y H Q => ∃ a b xs ys, x = .ref a ∧ y = .ref b ∧ SqL K H a xs ∧ SqL K H b ys ∧ xs.length + ys.length ≤ sizeLine ∧ ∀ p, H p = none → Q (.ref p) (upd H p (.lst (xs ++ ys)))
theorem op_catL : OpR X (binaryOp .Add) (rCatL X.K) := by
  intro pins s σ H x y v u Q I rx ry h
  obtain ⟨a, b, xs, ys, rfl, rfl, ha, hb, hz, q⟩ := h
  cases rx
  cases ry
  obtain ⟨i1, r1, ⟨⟨cls, dd, data, sl⟩, n, ho, hc, hdd, hd⟩, _⟩ := I.list ha
  obtain ⟨i2, r2, ⟨⟨cls2, dd2, data2, sl2⟩, n2, ho2, hc2, hdd2, hd2⟩, _⟩ := I.list hb
  simp only at hc hd hc2 hd2 hdd hdd2
  subst hc hd hc2 hd2 hdd hdd2
  have e : i1.toArray ++ i2.toArray = (i1 ++ i2).toArray := by simp
  refine concat_meets ⟨_, ho, rfl⟩ ⟨_, ho2, rfl⟩ noFill_list_add seq_list_add PySem.F.slot_list_add PySem.F.entry_list_add (PySem.F.args_list_add_2 _ _)
    (list_addW a b i1.toArray i2.toArray n n2 none none sl sl2 (by rw [List.size_toArray, List.size_toArray, ← r1.length, ← r2.length]; exact hz)) ⟨ho, ho2, ?_⟩
  rw [e]
  exact ⟨.ref _, _, I.lnew (t' := s.toks) (r1.append r2) (by rw [List.length_append]; exact hz), rfl, q _ I.fresh⟩
def CMulB (i j : Int) : Prop := mok i j = true
theorem intBits_le (x : Int) : Builtin.Int.intBits x ≤ x.natAbs.log2 + 1 := by
  unfold Builtin.Int.intBits
  split <;> omega
theorem CMulB.ok {i j : Int} (h : CMulB i j) : IntMulOk i j := by
  have h1 := intBits_le i
  have h2 := intBits_le j
  have h3 : i.natAbs.log2 + j.natAbs.log2 < 134217000 := of_decide_eq_true h
  have e : bitsLine = 134217728 := by decide
  unfold IntMulOk
  intro z
  rw [Bool.and_eq_true] at z
  have z2 := z.2
  unfold Builtin.Int.intTooBig at z2
  have z3 := of_decide_eq_true z2
  rw [e] at z3
  omega
theorem op_mulB : OpR X (binaryOp .Mult) (rI CMulB fun i j => .int (i * j)) := opI fun _ _ _ _ _ _ _ hc q => mul_int q hc.ok
def CDivB (i j : Int) : Prop := j ≠ 0 ∧ Builtin.divisionGoesByPylong i j = false
theorem op_fdivB : OpR X (binaryOp .FloorDiv) (rI CDivB fun i j => .int (i.fdiv j)) := opI fun _ _ _ _ _ _ _ hc q => floordiv_int hc.1 q (.inl hc.2)
def CPowB (i j : Int) : Prop := 0 ≤ j ∧ (i.natAbs.log2 + 1) * j.toNat < 134217000
theorem op_powB : OpR X (binaryOp .Pow) (rI CPowB fun i j => .int (i ^ j.toNat)) := opI fun i j _ _ _ _ _ hc q => by
  obtain ⟨h0, h1⟩ := hc
  refine pow_int h0 ?_ q
  have hb := intBits_le i
  have h2 : Builtin.Int.intBits i * j.toNat ≤ (i.natAbs.log2 + 1) * j.toNat := Nat.mul_le_mul_right _ hb
  have h3 : ((Builtin.Int.intBits i * j.toNat : Nat) : Int) ≤ 2 ^ 27 := by
    have : (2 : Int) ^ 27 = 134217728 := by decide
    rw [this]; omega
  have h4 : (j.toNat : Int) = j := Int.toNat_of_nonneg h0
  rw [Int.natCast_mul, h4] at h3
  exact h3
end
def Bop.op : Bop → Operator
  | .add => .Add | .sub => .Sub | .mul => .Mult | .fdv => .FloorDiv | .mod => .Mod | .pow => .Pow
def bopR (K : PySem.W.Frag) : Bop → R2
  | .add => fun x y H Q => (rI0 (fun i j => V.int (i + j))) x y H Q ∨ (∃ i j, x = .str i ∧ y = .str j ∧ i.length + j.length ≤ sizeLine ∧ Q (.str (i ++ j)) H) ∨ rCatL K x y H Q ∨ rCatA K x y H Q
  | .sub => rI0 fun i j => .int (i - j)
  | .mul => rI CMulB fun i j => .int (i * j)
  | .fdv => rI CDivB fun i j => .int (i.fdiv j)
  | .mod => rI (fun _ j => j ≠ 0) fun i j => .int (i.fmod j)
  | .pow => rI CPowB fun i j => .int (i ^ j.toNat)
theorem bop_ok {X : Cx} : ∀ o : Bop, OpR X (binaryOp o.op) (bopR X.K o)
  | .add => opr_or op_add (opr_or op_add_str (opr_or op_catL op_catA))
  | .sub => op_sub
  | .mul => op_mulB
  | .fdv => op_fdivB
  | .mod => op_modN
  | .pow => op_powB
end PD

/-! PD5 -/
set_option Elab.async false
set_option linter.all false
set_option maxRecDepth 100000
set_option maxHeartbeats 4000000
/-! PD: the operations' meanings are the model's. -/
namespace PD
open PySem PySem.Spec PyProof.Rows L2

theorem RdV.tupRep {R : RC} {F H : Hp} {x : V} {ds : List D} (h : RdV R F H x (.tup ds)) : Rep R F x (.tup ds) := by
  cases h with
  | rep h => exact h
mutual
theorem Rep.dp {R : RC} {F H : Hp} (l : Le F H) : ∀ {d : D} {x : V} {p : PyData}, Rep R F x d → pyOf d = some p → Dp R.K H x p
  | .non, _, p, h, e => by cases h; rw [pyOf] at e; cases e; exact .non
  | .bl b, _, p, h, e => by cases h; rw [pyOf] at e; cases e; exact .bl b
  | .int i, _, p, h, e => by cases h; rw [pyOf] at e; cases e; exact .int i
  | .str s, _, p, h, e => by cases h; rw [pyOf] at e; cases e; exact .str s
  | .tup ds, _, p, h, e => by
    cases h with
    | tup s k =>
      rw [pyOf] at e
      cases q : pyOfs ds with
      | none => rw [q] at e; cases e
      | some ps =>
        rw [q] at e; cases e
        exact .tup (l.sqT s) (RepL.dp l k q)
  | .lst ds, _, p, h, e => by
    cases h with
    | lst s k =>
      rw [pyOf] at e
      cases q : pyOfs ds with
      | none => rw [q] at e; cases e
      | some ps =>
        rw [q] at e; cases e
        exact .lst (l.sqL s) (RepL.dp l k q)
  | .dct _ _, _, p, h, e => by rw [pyOf] at e; cases e
  | .obj _ _ _, _, p, h, e => by rw [pyOf] at e; cases e
theorem RepL.dp {R : RC} {F H : Hp} (l : Le F H) : ∀ {ds : List D} {xs : List V} {ps : List PyData}, RepL R F xs ds → pyOfs ds = some ps → DpAll R.K H xs ps
  | [], _, ps, h, e => by cases h; rw [pyOfs] at e; cases e; exact .nil
  | d :: ds, _, ps, h, e => by
    cases h with
    | cons r k =>
      rw [pyOfs] at e
      cases q : pyOf d with
      | none => rw [q] at e; cases e
      | some p =>
        rw [q] at e
        cases q2 : pyOfs ds with
        | none => rw [q2] at e; cases e
        | some ps2 =>
          rw [q2] at e; cases e
          exact .cons (Rep.dp l r q) (RepL.dp l k q2)
end
theorem RdV.dp {R : RC} {F H : Hp} {x : V} {d : D} {p : PyData} (l : Le F H) (h : RdV R F H x d) (e : pyOf d = some p) : Dp R.K H x p := by
  cases h with
  | rep h => exact h.dp l e
  | @lst a xs ds _ hx k =>
    rw [pyOf] at e
    cases q : pyOfs ds with
    | none => rw [q] at e; cases e
    | some ps =>
      rw [q] at e; cases e
      exact .lst (SqL.of hx) (RepL.dp l k q)
  | dct _ _ _ _ => rw [pyOf] at e; cases e

section
variable {B : Bs} {W : WX} {g : Gh} {H : Hp} {σ : L2.St} {ρ : Slots} {st : Store} {Q : VK}

theorem bop_pst (e : ER B g H σ ρ st) (o : Bop) {x y : V} {dx dy : D} (rx : RdV B.R g.F H x dx) (ry : RdV B.R g.F H y dy) (h : Pst B W g H σ ρ (opRes (bopS o dx dy) st) (kV B Q)) : bopR B.R.K o x y H Q := by
  have le := e.le
  cases o with
  | add =>
    cases dx <;> cases dy <;> first
      | exact h.elim
      | skip
    · obtain rfl := rx.int; obtain rfl := ry.int
      exact .inl ⟨_, _, rfl, rfl, h.same e (.int _)⟩
    · obtain rfl := rx.str; obtain rfl := ry.str
      rename_i s t
      have h' : Pst B W g H σ ρ (opRes (if s.length + t.length ≤ LIM then .d (.str (s ++ t)) else .no) st) (kV B Q) := h
      by_cases hz : s.length + t.length ≤ LIM
      · rw [if_pos hz] at h'
        exact .inr (.inl ⟨_, _, rfl, rfl, by rw [← lim_eq]; exact hz, h'.same e (.str _)⟩)
      · rw [if_neg hz] at h'; exact h'.elim
    · rename_i xs ys
      have h' : Pst B W g H σ ρ (opRes (if xs.length + ys.length ≤ LIM then .d (.tup (xs ++ ys)) else .no) st) (kV B Q) := h
      by_cases hz : xs.length + ys.length ≤ LIM
      · rw [if_pos hz] at h'
        have tx := rx.tupRep
        have ty := ry.tupRep
        cases tx with
        | tup sx kx =>
          cases ty with
          | tup sy ky =>
            refine .inr (.inr (.inr ⟨_, _, _, _, rfl, rfl, le.sqT sx, le.sqT sy, ?_, fun z => ?_, fun z1 z2 => ?_, fun _ _ p hp => ?_⟩))
            · rw [kx.length, ky.length, ← lim_eq]; exact hz
            · subst z
              cases kx
              exact h'.same e (.tup sy (by simpa using ky))
            · subst z2
              cases ky
              exact h'.same e (.tup sx (by simpa using kx))
            · exact h'.newt e (kx.append ky) hp
      · rw [if_neg hz] at h'; exact h'.elim
    · rename_i xs ys
      have h' : Pst B W g H σ ρ (opRes (if xs.length + ys.length ≤ LIM then .l (xs ++ ys) else .no) st) (kV B Q) := h
      by_cases hz : xs.length + ys.length ≤ LIM
      · rw [if_pos hz] at h'
        obtain ⟨a, vx, rfl, sx, kx⟩ := rx.asL le
        obtain ⟨b, vy, rfl, sy, ky⟩ := ry.asL le
        refine .inr (.inr (.inl ⟨a, b, vx, vy, rfl, rfl, sx, sy, ?_, fun p hp => ?_⟩))
        · rw [kx.length, ky.length, ← lim_eq]; exact hz
        · exact h'.newl e (kx.append ky) hp
      · rw [if_neg hz] at h'; exact h'.elim
  | sub =>
    cases dx <;> cases dy <;> first
      | exact h.elim
      | skip
    obtain rfl := rx.int; obtain rfl := ry.int
    exact ⟨_, _, rfl, rfl, h.same e (.int _)⟩
  | mul =>
    cases dx <;> cases dy <;> first
      | exact h.elim
      | skip
    obtain rfl := rx.int; obtain rfl := ry.int
    rename_i i j
    have h' : Pst B W g H σ ρ (opRes (if mok i j then .d (.int (i * j)) else .no) st) (kV B Q) := h
    by_cases hz : mok i j = true
    · rw [if_pos hz] at h'
      exact ⟨_, _, rfl, rfl, hz, h'.same e (.int _)⟩
    · rw [if_neg hz] at h'; exact h'.elim
  | fdv =>
    cases dx <;> cases dy <;> first
      | exact h.elim
      | skip
    obtain rfl := rx.int; obtain rfl := ry.int
    rename_i i j
    have h' : Pst B W g H σ ρ (opRes (if j = 0 ∨ Builtin.divisionGoesByPylong i j = true then .no else .d (.int (i.fdiv j))) st) (kV B Q) := h
    by_cases hz : j = 0 ∨ Builtin.divisionGoesByPylong i j = true
    · rw [if_pos hz] at h'; exact h'.elim
    · rw [if_neg hz] at h'
      have h1 : j ≠ 0 := fun z => hz (.inl z)
      have h2 : Builtin.divisionGoesByPylong i j = false := by
        cases q : Builtin.divisionGoesByPylong i j with
        | false => rfl
        | true => exact absurd (.inr q) hz
      exact ⟨_, _, rfl, rfl, ⟨h1, h2⟩, h'.same e (.int _)⟩
  | mod =>
    cases dx <;> cases dy <;> first
      | exact h.elim
      | skip
    obtain rfl := rx.int; obtain rfl := ry.int
    rename_i i j
    have h' : Pst B W g H σ ρ (opRes (if j = 0 then .no else .d (.int (i.fmod j))) st) (kV B Q) := h
    by_cases hz : j = 0
    · rw [if_pos hz] at h'; exact h'.elim
    · rw [if_neg hz] at h'
      exact ⟨_, _, rfl, rfl, hz, h'.same e (.int _)⟩
  | pow =>
    cases dx <;> cases dy <;> first
      | exact h.elim
      | skip
    obtain rfl := rx.int; obtain rfl := ry.int
    rename_i i j
    have h' : Pst B W g H σ ρ (opRes (if 0 ≤ j ∧ (i.natAbs.log2 + 1) * j.toNat < 134217000 then .d (.int (i ^ j.toNat)) else .no) st) (kV B Q) := h
    by_cases hz : 0 ≤ j ∧ (i.natAbs.log2 + 1) * j.toNat < 134217000
    · rw [if_pos hz] at h'
      exact ⟨_, _, rfl, rfl, hz, h'.same e (.int _)⟩
    · rw [if_neg hz] at h'; exact h'.elim

/-! ### comparisons -/
def _root_.PD.Cop.op : Cop → CmpOp
  | .eq => .Eq | .ne => .NotEq | .lt => .Lt | .le => .LtE | .gt => .Gt | .ge => .GtE | .inn => .In | .nin => .NotIn | .is_ => .Is | .isn => .IsNot
def copR (K : PySem.W.Frag) : Cop → R2
  | .eq => fun x y H Q => rEq x y H Q ∨ rEqD K x y H Q
  | .ne => fun x y H Q => rNe x y H Q ∨ rNeD K x y H Q
  | .lt => fun x y H Q => (rI0 (fun i j => V.bl (decide (i < j)))) x y H Q ∨ (∃ i j, x = .str i ∧ y = .str j ∧ Q (.bl (decide (i.cps.toList < j.cps.toList))) H)
  | .le => fun x y H Q => (rI0 (fun i j => V.bl (decide (i ≤ j)))) x y H Q ∨ (∃ i j, x = .str i ∧ y = .str j ∧ Q (.bl (!decide (j.cps.toList < i.cps.toList))) H)
  | .gt => rI0 fun i j => .bl (decide (j < i))
  | .ge => rI0 fun i j => .bl (decide (j ≤ i))
  | .is_ => fun x y H Q => (y = .non ∧ Q (.bl (decide (x = .non))) H) ∨ rIsB x y H Q
  | .isn => fun x y H Q => (y = .non ∧ Q (.bl (!decide (x = .non))) H) ∨ rNotB x y H Q
  | .inn => fun _ _ _ _ => False
  | .nin => fun _ _ _ _ => False
theorem cop_ok {X : Cx} (hu : X.A.units + 64 < cLine) : ∀ o : Cop, OpR X (compareOp o.op) (copR X.K o)
  | .eq => opr_or op_eq (op_eqD hu)
  | .ne => opr_or op_ne (op_neD hu)
  | .lt => opr_or op_lt op_lt_str
  | .le => opr_or op_le op_le_str
  | .gt => op_gt
  | .ge => op_ge
  | .is_ => opr_or op_isN op_isBl
  | .isn => opr_or op_notN op_notBl
  | .inn => fun _ _ _ _ _ _ _ _ _ _ _ _ h => h.elim
  | .nin => fun _ _ _ _ _ _ _ _ _ _ _ _ h => h.elim

theorem eqS_ok {R : RC} {F : Hp} (le : Le F H) {x y : V} {dx dy : D} {r : Bool} (rx : RdV R F H x dx) (ry : RdV R F H y dy) (h : eqS dx dy = some r) :
    (scal x y = true ∧ decide (x = y) = r) ∨ ∃ d e, Dp R.K H x d ∧ Dp R.K H y e ∧ SeqAt.shaped d = true ∧ SeqAt.shaped e = true ∧ PyData.eqv d e = r := by
  have gen : (match pyOf dx, pyOf dy with
      | some p, some q => if SeqAt.shaped p && SeqAt.shaped q then some (PyData.eqv p q) else none
      | _, _ => none) = some r → ∃ d e, Dp R.K H x d ∧ Dp R.K H y e ∧ SeqAt.shaped d = true ∧ SeqAt.shaped e = true ∧ PyData.eqv d e = r := fun h => by
    cases q1 : pyOf dx with
    | none => rw [q1] at h; cases h
    | some p =>
      cases q2 : pyOf dy with
      | none => rw [q1, q2] at h; cases h
      | some q =>
        rw [q1, q2] at h
        have h' : (if SeqAt.shaped p && SeqAt.shaped q then some (PyData.eqv p q) else none) = some r := h
        cases q3 : SeqAt.shaped p && SeqAt.shaped q with
        | false => rw [q3] at h'; cases h'
        | true =>
          rw [q3] at h'
          simp only [if_true] at h'
          obtain ⟨z1, z2⟩ := Bool.and_eq_true_iff.mp q3
          exact ⟨p, q, rx.dp le q1, ry.dp le q2, z1, z2, Option.some.inj h'⟩
  cases dx <;> cases dy <;> first
    | (obtain rfl := rx.non; obtain rfl := ry.non; cases h; exact .inl ⟨rfl, by simp⟩)
    | (obtain rfl := rx.bl; obtain rfl := ry.bl
       have h' : (_ == _) = r := Option.some.inj h
       exact .inl ⟨rfl, by rw [dec_bl]; exact h'⟩)
    | (obtain rfl := rx.int; obtain rfl := ry.int
       have h' : (_ == _) = r := Option.some.inj h
       exact .inl ⟨rfl, by rw [dec_int]; exact h'⟩)
    | (obtain rfl := rx.str; obtain rfl := ry.str
       have h' : (_ == _) = r := Option.some.inj h
       exact .inl ⟨rfl, by rw [dec_str]; exact h'⟩)
    | exact .inr (gen h)
theorem RdV.nonD {R : RC} {F : Hp} {x : V} {d : D} (rx : RdV R F H x d) : decide (x = .non) = (match d with | .non => true | _ => false) := by
  cases rx with
  | rep h => cases h <;> rfl
  | lst _ _ _ => rfl
  | dct _ _ _ _ => rfl
theorem isS_ok {R : RC} {F : Hp} {x y : V} {dx dy : D} {r : Bool} (rx : RdV R F H x dx) (ry : RdV R F H y dy) (h : isS dx dy = some r) :
    (y = .non ∧ decide (x = .non) = r) ∨ ∃ a b : Bool, x = .bl a ∧ y = .bl b ∧ decide (a = b) = r := by
  cases dy with
  | non =>
    obtain rfl := ry.non
    refine .inl ⟨rfl, ?_⟩
    rw [rx.nonD]
    cases dx <;> exact Option.some.inj h
  | bl b =>
    obtain rfl := ry.bl
    cases dx with
    | bl a =>
      obtain rfl := rx.bl
      refine .inr ⟨a, b, rfl, rfl, ?_⟩
      have h' : (a == b) = r := Option.some.inj h
      rw [← h']
      cases a <;> cases b <;> rfl
    | _ => cases h
  | _ => cases dx <;> cases h
theorem cop_pst (e : ER B g H σ ρ st) (o : Cop) {x y : V} {dx dy : D} {r : Bool} (rx : RdV B.R g.F H x dx) (ry : RdV B.R g.F H y dy) (h : cmpS o dx dy = some r) (q : Q (.bl r) H) : copR B.R.K o x y H Q := by
  have le := e.le
  cases o with
  | eq =>
    rcases eqS_ok le rx ry h with ⟨h1, h2⟩ | ⟨d, d2, h1, h2, h3, h4, h5⟩
    · exact .inl ⟨h1, by rw [h2]; exact q⟩
    · exact .inr ⟨d, d2, h1, h2, h3, h4, by rw [h5]; exact q⟩
  | ne =>
    have h' : (match eqS dx dy with | some r => some (!r) | none => none) = some r := h
    cases z : eqS dx dy with
    | none => rw [z] at h'; cases h'
    | some r0 =>
      rw [z] at h'
      have h2 : (!r0) = r := Option.some.inj h'
      rcases eqS_ok le rx ry z with ⟨h1, h3⟩ | ⟨d, d2, h1, h3, h4, h5, h6⟩
      · exact .inl ⟨h1, by rw [h3, h2]; exact q⟩
      · exact .inr ⟨d, d2, h1, h3, h4, h5, by rw [h6, h2]; exact q⟩
  | lt =>
    cases dx <;> cases dy <;> first
      | cases h
      | skip
    · obtain rfl := rx.int; obtain rfl := ry.int
      exact .inl ⟨_, _, rfl, rfl, q⟩
    · obtain rfl := rx.str; obtain rfl := ry.str
      exact .inr ⟨_, _, rfl, rfl, q⟩
  | le =>
    cases dx <;> cases dy <;> first
      | cases h
      | skip
    · obtain rfl := rx.int; obtain rfl := ry.int
      exact .inl ⟨_, _, rfl, rfl, q⟩
    · obtain rfl := rx.str; obtain rfl := ry.str
      exact .inr ⟨_, _, rfl, rfl, q⟩
  | gt =>
    cases dx <;> cases dy <;> first
      | cases h
      | skip
    obtain rfl := rx.int; obtain rfl := ry.int
    exact ⟨_, _, rfl, rfl, q⟩
  | ge =>
    cases dx <;> cases dy <;> first
      | cases h
      | skip
    obtain rfl := rx.int; obtain rfl := ry.int
    exact ⟨_, _, rfl, rfl, q⟩
  | inn => cases dx <;> cases dy <;> cases h
  | nin => cases dx <;> cases dy <;> cases h
  | is_ =>
    have h' : isS dx dy = some r := by cases dx <;> cases dy <;> exact h
    rcases isS_ok rx ry h' with ⟨h1, h2⟩ | ⟨a, b, h1, h2, h3⟩
    · exact .inl ⟨h1, by rw [h2]; exact q⟩
    · exact .inr ⟨a, b, h1, h2, by rw [h3]; exact q⟩
  | isn =>
    have h0 : (match isS dx dy with | some r => some (!r) | none => none) = some r := by cases dx <;> cases dy <;> exact h
    cases z : isS dx dy with
    | none => rw [z] at h0; cases h0
    | some r0 =>
      rw [z] at h0
      have h2 : (!r0) = r := Option.some.inj h0
      rcases isS_ok rx ry z with ⟨h1, h3⟩ | ⟨a, b, h1, h3, h4⟩
      · exact .inl ⟨h1, by rw [h3, h2]; exact q⟩
      · exact .inr ⟨a, b, h1, h3, by rw [h4, h2]; exact q⟩
end
end PD

/-! PD6 -/
set_option Elab.async false
set_option linter.all false
set_option maxRecDepth 100000
set_option maxHeartbeats 4000000
/-! PD: items, slices, built-in functions, kinds. -/
namespace PD
open PySem PySem.Spec PyProof.Rows L2

section
variable {B : Bs} {W : WX} {g : Gh} {H : Hp} {σ : L2.St} {ρ : Slots} {st : Store} {Q : VK}

theorem RepL.atI {R : RC} {F : Hp} {xs : List V} {ds : List D} {i : Int} {d : D} (l : RepL R F xs ds) (h : L2.atI ds i = some d) : ∃ v, L2.atI xs i = some v ∧ Rep R F v d := by
  unfold L2.atI at h ⊢
  rw [← l.length] at h
  cases e : ixN xs.length i with
  | none => rw [e] at h; cases h
  | some j =>
    rw [e] at h
    exact l.get h
theorem idx_pst (e : ER B g H σ ρ st) {x y : V} {dx dy d : D} (rx : RdV B.R g.F H x dx) (ry : RdV B.R g.F H y dy) (h : idxS dx dy = some d) (q : ∀ z, Rep B.R g.F z d → Q z H) : rIx B.R.K x y H Q := by
  have le := e.le
  cases dx <;> cases dy <;> first
    | cases h
    | skip
  · obtain rfl := rx.str; obtain rfl := ry.int
    rename_i s i
    have h' : (if s.length ≤ LIM then (L2.atI s.cps.toList i).map fun c => D.str (sgn c) else none) = some d := h
    by_cases hz : s.length ≤ LIM
    · rw [if_pos hz] at h'
      cases z : L2.atI s.cps.toList i with
      | none => rw [z] at h'; cases h'
      | some c =>
        rw [z] at h'
        cases h'
        exact .inr (.inr ⟨_, _, c, rfl, rfl, by rw [← lim_eq]; exact hz, z, q _ (.str _)⟩)
    · rw [if_neg hz] at h'; cases h'
  · obtain rfl := ry.int
    cases rx.tupRep with
    | tup s k =>
      obtain ⟨v, hv, rv⟩ := k.atI h
      exact .inr (.inl ⟨_, _, _, v, rfl, rfl, le.sqT s, hv, q _ rv⟩)
  · obtain rfl := ry.int
    obtain ⟨a, xs, rfl, s, k⟩ := rx.asL le
    obtain ⟨v, hv, rv⟩ := k.atI h
    exact .inl ⟨_, _, _, v, rfl, rfl, s, hv, q _ rv⟩

/-! ### slices -/
def rSlc (K : PySem.W.Frag) : V → Option Int → Option Int → Hp → VK → Prop := fun x lo hi H Q => rSlL K x lo hi H Q ∨ rSlA K x lo hi H Q ∨ rSlS x lo hi H Q
theorem sl_any {X : Cx} : L2.SlR X (rSlc X.K) := L2.SlR.or sl_list (L2.SlR.or sl_tupA sl_str)
theorem RepL.cut {R : RC} {F : Hp} {xs : List V} {ds : List D} {lo hi : Option Int} (l : RepL R F xs ds) : RepL R F (cutV xs lo hi) (cutD ds lo hi) := by
  unfold cutV cutD
  rw [l.length]
  exact (l.drop _).take _
theorem cutD_all {ds : List D} {lo hi : Option Int} (h : HT.sIx ds.length 0 lo = 0 ∧ HT.sIx ds.length ds.length hi = ds.length) : cutD ds lo hi = ds := by
  unfold cutD
  rw [h.1, h.2]
  simp
theorem slc_pst (e : ER B g H σ ρ st) {x : V} {dx : D} {lo hi : Option Int} (rx : RdV B.R g.F H x dx) (h : Pst B W g H σ ρ (opRes (slcS dx lo hi) st) (kV B Q)) : rSlc B.R.K x lo hi H Q := by
  have le := e.le
  cases dx with
  | lst ds =>
    obtain ⟨a, xs, rfl, s, k⟩ := rx.asL le
    exact .inl ⟨a, xs, rfl, s, fun p hp => Pst.newl (ds := cutD ds lo hi) h e k.cut hp⟩
  | tup ds =>
    cases rx.tupRep with
    | tup s k =>
      refine .inr (.inl ⟨_, _, rfl, le.sqT s, fun z => ?_, fun z p hp => Pst.newt (ds := cutD ds lo hi) h e k.cut hp⟩)
      rw [k.length] at z
      have h' : Pst B W g H σ ρ (.ok (.fz (.tup (cutD ds lo hi))) st) (kV B Q) := h
      rw [cutD_all z] at h'
      exact h'.same e (.tup s k)
  | str s =>
    obtain rfl := rx.str
    have h' : Pst B W g H σ ρ (opRes (if s.length ≤ LIM then .d (.str (cutS s lo hi)) else .no) st) (kV B Q) := h
    by_cases hz : s.length ≤ LIM
    · rw [if_pos hz] at h'
      exact .inr (.inr ⟨s, rfl, by rw [← lim_eq]; exact hz, h'.same e (.str _)⟩)
    · rw [if_neg hz] at h'; exact h'.elim
  | _ => exact h.elim

/-! ### built-in functions -/
inductive RdL (R : RC) (F H : Hp) : List V → List D → Prop
  | nil : RdL R F H [] []
  | cons {x : V} {xs : List V} {d : D} {ds : List D} : RdV R F H x d → RdL R F H xs ds → RdL R F H (x :: xs) (d :: ds)
theorem ER.rds (r : ER B g H σ ρ st) : ∀ {xs : List V} {vs : List Val} {ds : List D}, ValsR B.R B.ex g.F g.A xs vs → vs.mapM (dr st) = some ds → RdL B.R g.F H xs ds
  | _, [], ds, .nil, e => by
    have : some ([] : List D) = some ds := by simpa using e
    cases this
    exact .nil
  | _, v :: vs, ds, .cons h t, e => by
    rw [List.mapM_cons] at e
    cases q : dr st v with
    | none => rw [q] at e; cases e
    | some d =>
      rw [q] at e
      cases q2 : vs.mapM (dr st) with
      | none => rw [q2] at e; cases e
      | some ds2 =>
        rw [q2] at e
        have : some (d :: ds2) = some ds := e
        cases this
        exact .cons (r.rd h q) (ER.rds r t q2)
theorem callr_or {X : Cx} {f : Value} {r r' : List V → Hp → VK → Prop} (h : CallR X f r) (h' : CallR X f r') : CallR X f (fun xs H Q => r xs H Q ∨ r' xs H Q) := by
  intro pins s σ H xs us Q I rx q
  rcases q with q | q
  · exact h pins s σ H xs us Q I rx q
  · exact h' pins s σ H xs us Q I rx q
def Bfn.fv : Bfn → Value
  | .len => .builtin "len" | .abs => .builtin "abs" | .min2 => .builtin "min" | .max2 => .builtin "max" | .int => .type "int" | .tuple => .type "tuple" | .list => .type "list" | .gcd => .builtin "math.gcd"
def bfnR (K : PySem.W.Frag) : Bfn → List V → Hp → VK → Prop
  | .len => fun xs H Q => (∃ p ys, xs = [.ref p] ∧ (SqL K H p ys ∨ SqT K H p ys) ∧ Q (.int ys.length) H) ∨ ∃ z, xs = [.str z] ∧ z.length ≤ sizeLine ∧ Q (.int z.length) H
  | .abs => fun xs H Q => ∃ i, xs = [.int i] ∧ Q (.int (if i < 0 then -i else i)) H
  | .min2 => fun xs H Q => ∃ i j, xs = [.int i, .int j] ∧ Q (.int (if j < i then j else i)) H
  | .max2 => fun xs H Q => ∃ i j, xs = [.int i, .int j] ∧ Q (.int (if j > i then j else i)) H
  | .int => fun xs H Q => (∃ i, xs = [.int i] ∧ Q (.int i) H) ∨ ∃ k, xs = [.bl k] ∧ Q (.int (if k then 1 else 0)) H
  | .tuple => fun xs H Q => ∃ p ys, xs = [.ref p] ∧ ((SqL K H p ys ∧ ∀ l, H l = none → Q (.ref l) (upd H l (.tup ys))) ∨ (SqT K H p ys ∧ Q (.ref p) H))
  | .list => fun xs H Q => ∃ p ys, xs = [.ref p] ∧ (SqL K H p ys ∨ SqT K H p ys) ∧ ∀ l, H l = none → Q (.ref l) (upd H l (.lst ys))
  | .gcd => rGcd
def Bfn.calm : Bfn → Bool
  | .min2 => true | .max2 => true | _ => false
theorem bfn_ok {X : Cx} : ∀ f : Bfn, (f.calm = true → X.calm = true) → CallR X f.fv (bfnR X.K f)
  | .len, _ => callr_or call_len_seq call_len_str
  | .abs, _ => call_abs
  | .min2, h => call_min2 (h rfl)
  | .max2, h => call_max2 (h rfl)
  | .int, _ => call_int1
  | .tuple, _ => call_tuple_of
  | .list, _ => call_list_of
  | .gcd, _ => cr_gcd
theorem bfn_pst (e : ER B g H σ ρ st) (f : Bfn) {xs : List V} {ds : List D} (r : RdL B.R g.F H xs ds) (h : Pst B W g H σ ρ (opRes (bfnS f ds) st) (kV B Q)) : bfnR B.R.K f xs H Q := by
  have le := e.le
  cases f with
  | len =>
    cases r with
    | nil => exact h.elim
    | @cons x xs d ds rd t =>
      cases t with
      | cons _ _ => cases d <;> exact h.elim
      | nil =>
        cases d <;> first
          | exact h.elim
          | skip
        · obtain rfl := rd.str
          rename_i s
          have h' : Pst B W g H σ ρ (opRes (if s.length ≤ LIM then .d (.int s.length) else .no) st) (kV B Q) := h
          by_cases hz : s.length ≤ LIM
          · rw [if_pos hz] at h'
            exact .inr ⟨_, rfl, by rw [← lim_eq]; exact hz, h'.same e (.int _)⟩
          · rw [if_neg hz] at h'; exact h'.elim
        · cases rd.tupRep with
          | tup s k =>
            refine .inl ⟨_, _, rfl, .inr (le.sqT s), ?_⟩
            rw [k.length]
            exact Pst.same h e (.int _)
        · obtain ⟨a, ys, rfl, s, k⟩ := rd.asL le
          refine .inl ⟨_, _, rfl, .inl s, ?_⟩
          rw [k.length]
          exact Pst.same h e (.int _)
  | abs =>
    cases r with
    | nil => exact h.elim
    | @cons x xs d ds rd t =>
      cases t with
      | cons _ _ => cases d <;> exact h.elim
      | nil =>
        cases d <;> first
          | exact h.elim
          | skip
        obtain rfl := rd.int
        exact ⟨_, rfl, Pst.same h e (.int _)⟩
  | min2 =>
    cases r with
    | nil => exact h.elim
    | @cons x xs d ds rd t =>
      cases t with
      | nil => cases d <;> exact h.elim
      | @cons x2 xs2 d2 ds2 rd2 t2 =>
        cases t2 with
        | cons _ _ => cases d <;> cases d2 <;> exact h.elim
        | nil =>
          cases d <;> cases d2 <;> first
            | exact h.elim
            | skip
          obtain rfl := rd.int; obtain rfl := rd2.int
          exact ⟨_, _, rfl, Pst.same h e (.int _)⟩
  | max2 =>
    cases r with
    | nil => exact h.elim
    | @cons x xs d ds rd t =>
      cases t with
      | nil => cases d <;> exact h.elim
      | @cons x2 xs2 d2 ds2 rd2 t2 =>
        cases t2 with
        | cons _ _ => cases d <;> cases d2 <;> exact h.elim
        | nil =>
          cases d <;> cases d2 <;> first
            | exact h.elim
            | skip
          obtain rfl := rd.int; obtain rfl := rd2.int
          exact ⟨_, _, rfl, Pst.same h e (.int _)⟩
  | gcd =>
    cases r with
    | nil => exact h.elim
    | @cons x xs d ds rd t =>
      cases t with
      | nil => cases d <;> exact h.elim
      | @cons x2 xs2 d2 ds2 rd2 t2 =>
        cases t2 with
        | cons _ _ => cases d <;> cases d2 <;> exact h.elim
        | nil =>
          cases d <;> cases d2 <;> first
            | exact h.elim
            | skip
          obtain rfl := rd.int; obtain rfl := rd2.int
          exact ⟨_, _, rfl, Pst.same h e (.int _)⟩
  | int =>
    cases r with
    | nil => exact h.elim
    | @cons x xs d ds rd t =>
      cases t with
      | cons _ _ => cases d <;> exact h.elim
      | nil =>
        cases d <;> first
          | exact h.elim
          | skip
        · obtain rfl := rd.bl
          exact .inr ⟨_, rfl, Pst.same h e (.int _)⟩
        · obtain rfl := rd.int
          exact .inl ⟨_, rfl, Pst.same h e (.int _)⟩
  | tuple =>
    cases r with
    | nil => exact h.elim
    | @cons x xs d ds rd t =>
      cases t with
      | cons _ _ => cases d <;> exact h.elim
      | nil =>
        cases d <;> first
          | exact h.elim
          | skip
        · cases rd.tupRep with
          | tup s k => exact ⟨_, _, rfl, .inr ⟨le.sqT s, Pst.same h e (.tup s k)⟩⟩
        · obtain ⟨a, ys, rfl, s, k⟩ := rd.asL le
          exact ⟨_, _, rfl, .inl ⟨s, fun p hp => Pst.newt h e k hp⟩⟩
  | list =>
    cases r with
    | nil => exact h.elim
    | @cons x xs d ds rd t =>
      cases t with
      | cons _ _ => cases d <;> exact h.elim
      | nil =>
        cases d <;> first
          | exact h.elim
          | skip
        · cases rd.tupRep with
          | tup s k => exact ⟨_, _, rfl, .inr (le.sqT s), fun p hp => Pst.newl h e k hp⟩
        · obtain ⟨a, ys, rfl, s, k⟩ := rd.asL le
          exact ⟨_, _, rfl, .inl s, fun p hp => Pst.newl h e k hp⟩

/-! ### kinds -/
theorem sqL_ty {K : PySem.W.Frag} {a : Addr} {xs : List V} (h : SqL K H a xs) : TyX K H (.ref a) (.type "list") := by
  rcases h with (h | ⟨o, h⟩) | ⟨o, its, n, h, c, _⟩
  · exact .base (.lst h)
  · exact .base (.frz h)
  · exact .kList h c
theorem sqT_ty {K : PySem.W.Frag} {a : Addr} {xs : List V} (h : SqT K H a xs) : TyX K H (.ref a) (.type "tuple") := by
  rcases h with (h | ⟨o, h⟩) | ⟨o, its, n, h, c, _⟩
  · exact .base (.tup h)
  · exact .fTuple h
  · exact .kTuple h c
theorem RdV.ty {R : RC} {F : Hp} {x : V} {d : D} {u : String} (le : Le F H) (r : RdV R F H x d) (h : tyS d = some u) : TyX R.K H x (.type u) := by
  cases r with
  | rep r =>
    cases r with
    | non => cases h; exact .base .non
    | bl b => cases h; exact .base (.bl b)
    | int i => cases h; exact .base (.int i)
    | str s => cases h; exact .base (.str s)
    | tup s k => cases h; exact sqT_ty (le.sqT s)
    | lst s k => cases h; exact sqL_ty (le.sqL s)
    | dct e _ _ _ =>
      cases h
      rcases le _ _ e with q | ⟨_, ob, q⟩
      · exact .base (.dK q)
      · exact .fDict q
    | obj _ _ _ _ _ => cases h
  | lst _ e _ => cases h; exact .base (.lst e)
  | dct _ e _ _ => cases h; exact .base (.dK e)

/-! ### truth -/
theorem tru_pst {R : RC} {F : Hp} {x : V} {d : D} {b : Bool} (le : Le F H) (r : RdV R F H x d) (h : truS d = some b) : TruV R.K x H b := by
  cases d with
  | non => obtain rfl := r.non; cases h; rfl
  | bl b => obtain rfl := r.bl; cases h; rfl
  | int i => obtain rfl := r.int; cases h; rfl
  | str s =>
    obtain rfl := r.str
    have h' : (if s.length ≤ LIM then some ((s.length : Int) != 0) else none) = some b := h
    by_cases hz : s.length ≤ LIM
    · rw [if_pos hz] at h'
      cases h'
      exact ⟨by rw [← lim_eq]; exact hz, rfl⟩
    · rw [if_neg hz] at h'; cases h'
  | tup ds =>
    cases r.tupRep with
    | tup s k =>
      cases h
      refine .inr (.inl ⟨_, le.sqT s, ?_⟩)
      cases k <;> rfl
  | lst ds =>
    obtain ⟨a, xs, rfl, s, k⟩ := r.asL le
    cases h
    refine .inl ⟨_, s, ?_⟩
    cases k <;> rfl
  | dct ks vs => cases h
  | obj c fs vs => cases h
end
end PD

/-! PD7 -/
set_option Elab.async false
set_option linter.all false
set_option maxRecDepth 100000
set_option maxHeartbeats 4000000
/-! PD: the data of a def against the model's text, and the context. -/
namespace PD
open PySem PySem.Spec PyProof.Rows L2

/-! ### what a def's data are held against -/
structure Tab where
  N : List Str
  con : List Str
  fns : List (Str × Nat)
  free : List Str
  gcd : Bool
  exn : List Str
  raf : List (Str × Str)
  lv : Nat
def seen (x : Str) : Bool := !(x == ("__debug__" : Str)) && (!(x == ("__classdict__" : Str)) && (!(x == ("__name__" : Str)) && !(x == ("super" : Str))))
def visB (sc : Scope) (x : Str) : Bool := match sc.names.lookup x with
  | some .local => true
  | some .cell => true
  | some .free => true
  | _ => false
def glB (sc : Scope) (x : Str) : Bool := match sc.names.lookup x with
  | some .globalImplicit => true
  | _ => false
def bopB : Bop → Operator → Bool
  | .add, .Add => true | .sub, .Sub => true | .mul, .Mult => true | .fdv, .FloorDiv => true | .mod, .Mod => true | .pow, .Pow => true
  | _, _ => false
def copB : Cop → CmpOp → Bool
  | .eq, .Eq => true | .ne, .NotEq => true | .lt, .Lt => true | .le, .LtE => true | .gt, .Gt => true | .ge, .GtE => true | .inn, .In => true | .nin, .NotIn => true | .is_, .Is => true | .isn, .IsNot => true
  | _, _ => false
theorem bopB_ok {o : Bop} {op : Operator} (h : bopB o op = true) : op = o.op := by cases o <;> cases op <;> first | rfl | cases h
theorem copB_ok {o : Cop} {op : CmpOp} (h : copB o op = true) : op = o.op := by cases o <;> cases op <;> first | rfl | cases h
def litB : D → Const → Bool
  | .int i, .int j => decide (i = j)
  | .bl b, .bool c => b == c
  | .non, .none => true
  | .str s, .str t => decide (s = t)
  | _, _ => false
/-- neither a star nor a slice -/
def plainE : Expr → Bool
  | .Starred _ _ => false
  | .Slice _ _ _ _ => false
  | .Set _ _ _ => false
  | _ => true
/-- whose test is its value's truth -/
def plainT : Expr → Bool
  | .Name _ _ => true
  | .Call _ _ _ _ => true
  | .Subscript _ _ _ => true
  | .Attribute _ _ _ => true
  | .Constant _ _ _ => true
  | .BinOp _ _ _ _ => true
  | _ => false
def notSuper : Expr → Bool
  | .Call (.Name x _) _ _ _ => !(x == ("super" : Str))
  | _ => true
def Bfn.nm : Bfn → Str
  | .len => "len" | .abs => "abs" | .min2 => "min" | .max2 => "max" | .int => "int" | .tuple => "tuple" | .list => "list" | .gcd => "gcd"
def tyNames : List (Str × String) := [("int", "int"), ("bool", "bool"), ("str", "str"), ("tuple", "tuple"), ("list", "list"), ("dict", "dict")]
def tynB (T : Tab) (sc : Scope) : TyN → Expr → Bool
  | .ty n, .Name x _ => decide ((x, n) ∈ tyNames) && (T.free.contains x && glB sc x)
  | _, _ => false
def tynsB (T : Tab) (sc : Scope) : List TyN → List Expr → Bool
  | [], [] => true
  | t :: ts, e :: es => tynB T sc t e && (plainE e && tynsB T sc ts es)
  | _, _ => false
def locB (sc : Scope) (x : Str) : Bool := match sc.names.lookup x with
  | some .local => true
  | _ => false
def celB (sc : Scope) (x : Str) : Bool := match sc.names.lookup x with
  | some .cell => true
  | _ => false
def nmB (T : Tab) (sc : Scope) (i : Nat) : Expr → Bool
  | .Name x _ => decide (T.N[i]? = some x) && (locB sc x || celB sc x)
  | _ => false
def tgB (T : Tab) (sc : Scope) : Tg → Expr → Bool
  | .nm i, e => nmB T sc i e
  | .tp is, .Tuple es _ _ => decide (is.length = es.length) && (is.zip es).all fun p => nmB T sc p.1 p.2
  | _, _ => false
def ownB (T : Tab) (sc scope : Scope) (own : List Nat) : Bool := blkC T.N sc scope (own.map fun i => ((T.N.getD i Str.empty), i))
/-- the names of the comprehension's target are among its own -/
def tgIn (own : List Nat) : Tg → Bool
  | .nm i => own.contains i
  | .tp is => is.all own.contains

def clsB (T : Tab) (sc : Scope) : Str → Expr → Bool
  | c, .Name x _ => decide (c = x) && (T.exn.contains x && (glB sc x && seen x))
  | _, _ => false
def clssB (T : Tab) (sc : Scope) : List Str → List Expr → Bool
  | [], [] => true
  | c :: cs, e :: es => clsB T sc c e && clssB T sc cs es
  | _, _ => false
mutual
/-- m: a test -/
def chk (T : Tab) (sc : Scope) (calm : Bool) : Ex → Bool → Expr → Bool
  | .var i, m, .Name x _ => decide (T.N[i]? = some x) && (visB sc x && seen x)
  | .lit d, m, .Constant c _ _ => litB d c
  | .glo j, m, .Name x _ => decide (T.con[j]? = some x) && (glB sc x && seen x)
  | .bin o a b, m, .BinOp ea op eb _ => bopB o op && (chk T sc calm a false ea && chk T sc calm b false eb)
  | .cmp o a b, m, .Compare ea [op] [eb] _ => copB o op && (plainE eb && (chk T sc calm a false ea && chk T sc calm b false eb))
  | .chain o o' a b c, m, .Compare ea [op, op'] [eb, ec] _ => copB o op && (copB o' op' && (plainE eb && (plainE ec && (chk T sc calm a false ea && (chk T sc calm b false eb && chk T sc calm c false ec)))))
  | .neg a, m, .UnaryOp .USub ea _ => !m && chk T sc calm a false ea
  | .not_ a, m, .UnaryOp .Not ea _ => chk T sc calm a m ea
  | .and_ a b, m, .BoolOp .And (ea :: eb :: rest) pos => chk T sc calm a m ea && (match rest with
    | [] => chk T sc calm b m eb
    | _ :: _ => chk T sc calm b m (.BoolOp .And (eb :: rest) pos))
  | .or_ a b, m, .BoolOp .Or (ea :: eb :: rest) pos => chk T sc calm a m ea && (match rest with
    | [] => chk T sc calm b m eb
    | _ :: _ => chk T sc calm b m (.BoolOp .Or (eb :: rest) pos))
  | .ife c a b, m, .IfExp ec ea eb _ => !m && (chk T sc calm c true ec && (chk T sc calm a false ea && chk T sc calm b false eb))
  | .tru a, m, e => m && (plainT e && chk T sc calm a false e)
  | .tup es, m, .Tuple ees _ _ => !m && chks T sc calm es ees
  | .lst es, m, .List ees _ => !m && chks T sc calm es ees
  | .idx a i, m, .Subscript ea ei _ => plainE ei && (chk T sc calm a false ea && chk T sc calm i false ei)
  | .slc a lo hi, m, .Subscript ea (.Slice elo ehi none _) _ => !m && (chk T sc calm a false ea && ((match elo with
      | none => lo.isNone
      | some e => chk T sc calm lo false e) && (match ehi with
      | none => hi.isNone
      | some e => chk T sc calm hi false e)))
  | .call j es, m, .Call (.Name x _) ees [] _ => decide (T.fns[j]? = some (x, ees.length)) && (!ees.isEmpty && (glB sc x && (seen x && (calm && chks T sc calm es ees))))
  | .bfn f es, m, .Call (.Name x _) ees [] _ => decide (x = f.nm) && (!ees.isEmpty && (glB sc x && ((match f with
      | .gcd => T.gcd
      | _ => T.free.contains x) && ((!f.calm || calm) && chks T sc calm es ees))))
  | .mth .bitlen a es, m, .Call (.Attribute eo x ap) [] [] cp => !m && (decide (x = "bit_length") && (notSuper eo && ((ap.endLine == cp.line) && (chk T sc calm a false eo && chks T sc calm es []))))
  | .isi a ts tp, m, .Call (.Name x _) [ea, et] [] _ => decide (x = "isinstance") && (T.free.contains x && (glB sc x && (plainE ea && (plainE et && (chk T sc calm a false ea && (match tp, ts, et with
      | false, [t], et => tynB T sc t et
      | true, ts, .Tuple ets _ _ => decide (ts.length ≤ 8 ∧ ts ≠ []) && tynsB T sc ts ets
      | _, _, _ => false))))))
  | .isx i ts tp, m, .Call (.Name x _) [.Name y _, et] [] _ => !calm && (decide (x = "isinstance") && (T.free.contains x && (glB sc x && (decide (T.N[i]? = some y) && (visB sc y && (seen y && (plainE et && (match tp, ts, et with
      | false, [t], et => clsB T sc t et
      | true, ts, .Tuple ets _ _ => decide (ts.length ≤ 8 ∧ ts ≠ []) && clssB T sc ts ets
      | _, _, _ => false))))))))
  | .xfld i f, m, .Attribute (.Name y yp) n p => !m && (!calm && (decide (n = f) && (decide (T.N[i]? = some y) && (visB sc y && (seen y && !(y == ("super" : Str)))))))
  | .lc own tg it c elt, m, .ListComp eelt [⟨etg, eit, ifs, as_⟩] scope _ => !m && (calm && (decide (as_ = 0) && (ownB T sc scope own && (tgB T scope tg etg && (tgIn own tg && (chkI T sc calm it eit && ((match ifs with
      | [] => (match c with
        | .lit (.bl true) => true
        | _ => false)
      | [ec] => chk T scope calm c true ec
      | _ => false) && chk T scope calm elt false eelt)))))))
  | _, _, _ => false
def chks (T : Tab) (sc : Scope) (calm : Bool) : Exs → List Expr → Bool
  | .nil, [] => true
  | .cons a as, e :: es => plainE e && (chk T sc calm a false e && chks T sc calm as es)
  | _, _ => false
def chkI (T : Tab) (sc : Scope) (calm : Bool) : It → Expr → Bool
  | .rng1 a, .Call (.Name x _) [ea] [] _ => decide (x = "range") && (T.free.contains x && (glB sc x && (plainE ea && chk T sc calm a false ea)))
  | .rng2 a b, .Call (.Name x _) [ea, eb] [] _ => decide (x = "range") && (T.free.contains x && (glB sc x && (plainE ea && (plainE eb && (chk T sc calm a false ea && chk T sc calm b false eb)))))
  | .seq a, e => plainE e && chk T sc calm a false e
  | _, _ => false
end
end PD

/-! PD8 -/
set_option Elab.async false
set_option linter.all false
set_option maxRecDepth 100000
set_option maxHeartbeats 4000000
/-! PD: a def's promise, the context, calls. -/
namespace PD
open PySem PySem.Spec PyProof.Rows L2

inductive ArgsR (R : RC) (F H : Hp) : List V → List Arg → List Addr → Prop
  | nil : ArgsR R F H [] [] []
  | fz {x : V} {xs : List V} {d : D} {as : List Arg} {l : List Addr} : Rep R F x d → ArgsR R F H xs as l → ArgsR R F H (x :: xs) (.fz d :: as) l
  | mu {a : Addr} {xs : List V} {c : Cont} {as : List Arg} {l : List Addr} : c.live = true → ContR R F H a c → ArgsR R F H xs as l → ArgsR R F H (.ref a :: xs) (.mu c :: as) (a :: l)
theorem ArgsR.ofL {R : RC} {F H : Hp} : ∀ {ys : List V} {ds : List D}, RepL R F ys ds → ArgsR R F H ys (ds.map .fz) []
  | _, _, .nil => .nil
  | _, _, .cons r t => .fz r (ArgsR.ofL t)
theorem ArgsR.app {R : RC} {F H : Hp} {ys : List V} {ds : List D} (k : RepL R F ys ds) : ∀ {xs : List V} {as : List Arg} {l : List Addr}, ArgsR R F H xs as l → ArgsR R F H (xs ++ ys) (as ++ ds.map .fz) l
  | _, _, _, .nil => ArgsR.ofL k
  | _, _, _, .fz r t => .fz r (ArgsR.app k t)
  | _, _, _, .mu h c t => .mu h c (ArgsR.app k t)
theorem ArgsR.length {R : RC} {F H : Hp} : ∀ {xs : List V} {as : List Arg} {l : List Addr}, ArgsR R F H xs as l → xs.length = as.length
  | _, _, _, .nil => rfl
  | _, _, _, .fz _ t => congrArg Nat.succ (ArgsR.length t)
  | _, _, _, .mu _ _ t => congrArg Nat.succ (ArgsR.length t)
inductive ContsR (R : RC) (F H : Hp) : List Addr → List Cont → Prop
  | nil : ContsR R F H [] []
  | cons {a : Addr} {l : List Addr} {c : Cont} {cs : List Cont} : c.live = true → ContR R F H a c → ContsR R F H l cs → ContsR R F H (a :: l) (c :: cs)
structure PostR (R : RC) (F H F' H' : Hp) (l : List Addr) (cs : List Cont) : Prop where
  same : Same F F'
  le : Le F' H'
  fresh : ∀ b, F' b ≠ none → F b ≠ none ∨ H b = none
  keep : ∀ b o, H b = some o → b ∉ l → H' b = some o
  conts : ContsR R F' H' l cs
/-- what a def promises: it does what f says -/
def spOf (R : RC) (n : Nat) (f : List Arg → FRes) : Sp := fun vs H Q E => ∃ (F : Hp) (args : List Arg) (l : List Addr), args.length = n ∧ Le F H ∧ ArgsR R F H vs args l ∧ l.Nodup ∧ (match f args with
  | .ok d cs => ∀ x F' H', PostR R F H F' H' l cs → Rep R F' x d → Q x H'
  | .okl ds cs => ∀ a xs F' H', PostR R F H F' H' l cs → F' a = none → H a = none → H' a = some (.lst xs) → RepL R F' xs ds → Q (.ref a) H'
  | .exc e cs => ∀ cls dd F' H', PostR R F H F' H' l cs → XR R F' e cls dd → E cls dd H'
  | .stuck => False)
def FnHas (R : RC) (X : Cx) (k : Nat) (x : Str) (n : Nat) (fi : FnI) : Prop :=
  ∃ (f : Addr) (fd : FuncData) (ps : List Str) (ds : List Value) (dvs : List V), X.mg x = some (.ref f) ∧ PySem.W.keepIn X.K (.ref f) = true ∧ Binds X.K fd ps ds ∧ Vals dvs ds ∧
    FnOk X.prog X.w X.K X.mg X.base (L2.CX X.prog X.w) k f fd ps (spOf R ps.length fi.f) ∧ n + dvs.length = ps.length ∧ ∀ F, RepL R F dvs fi.dfl

/-- a scope as the text has it, and as it is where one stands (a comprehension's free names may be cells) -/
structure ScR (sc sc' : Scope) : Prop where
  cl : ∀ x, sc.names.lookup x = some .cell → sc'.names.lookup x = some .cell
  loc : ∀ x, sc.names.lookup x = some .local → sc'.names.lookup x = some .local
  cf : ∀ x, sc.names.lookup x = some .cell ∨ sc.names.lookup x = some .free → sc'.names.lookup x = some .cell ∨ sc'.names.lookup x = some .free
  gl : ∀ x, sc.names.lookup x = some .globalImplicit → sc'.names.lookup x = some .globalImplicit
theorem ScR.refl (sc : Scope) : ScR sc sc := ⟨fun _ h => h, fun _ h => h, fun _ h => h, fun _ h => h⟩
structure Cxt (T : Tab) (sc : Scope) (calm : Bool) (G : Gam) (B : Bs) (X : Cx) (W : WX) : Prop where
  K : X.K = B.R.K
  mg : X.mg = B.R.mg
  N : X.N = T.N
  fn : ∀ x, sc.names.lookup x = some .cell → X.fn x = true
  sc : ScR sc X.env.scope
  nd : T.N.Nodup
  exI : calm = false → ∀ a cls dd, B.ex = some (a, cls, dd) → ∃ oe, Zc cls dd oe ∧ (∃ vs, oe.data = .fields vs) ∧ (a, oe) ∈ X.pn
  calm : calm = true → X.calm = true ∧ Room T.lv X.A
  units : X.A.units + 64 < cLine
  tk : Takes X W
  io : G.io = B.io.length
  con : ∀ (j : Nat) (d : D) (x : Str), G.con[j]? = some d → T.con[j]? = some x → ∃ v u, X.mg x = some u ∧ RelV v u ∧ ∀ F, Rep B.R F v d
  fns : ∀ (j : Nat) (fi : FnI) (x : Str) (n : Nat), G.fns[j]? = some fi → T.fns[j]? = some (x, n) → FnHas B.R X T.lv x n fi
  free : ∀ x ∈ T.free, X.mg x = none
  exn : ∀ x ∈ T.exn, ∃ C, X.mg x = some (.ref C)
  exm : ∀ c t b, G.exm c t = some b → ∃ D C, X.mg c = some (.ref D) ∧ X.mg t = some (.ref C) ∧ PySem.W.kitOne X.K (.ref D) (.ref C) = some b ∧ PySem.W.exmOne X.K (.ref D) (.ref C) = some b ∧ ExcC X.K D
  xf : ∀ c f, G.xfl c f = true → ∃ D, X.mg c = some (.ref D) ∧ XfC X.K D ∧ PySem.W.findIn X.K (.ref D) f = some none
  gcd : T.gcd = true → X.mg "gcd" = some (.builtin "math.gcd")

theorem Cxt.vis {T : Tab} {sc : Scope} {calm : Bool} {G : Gam} {B : Bs} {X : Cx} {W : WX} (C : Cxt T sc calm G B X W) {x : Str} (h : visB sc x = true) : Vis X.env.scope x := by
  unfold visB at h
  split at h
  · exact .inl (C.sc.loc x (by assumption))
  · exact .inr (C.sc.cf x (.inl (by assumption)))
  · exact .inr (C.sc.cf x (.inr (by assumption)))
  · cases h
theorem Cxt.glob {T : Tab} {sc : Scope} {calm : Bool} {G : Gam} {B : Bs} {X : Cx} {W : WX} (C : Cxt T sc calm G B X W) {x : Str} (h : glB sc x = true) : Gl X x := by
  unfold glB at h
  split at h
  · exact C.sc.gl x (by assumption)
  · cases h
theorem celB_ok {sc : Scope} {x : Str} (h : celB sc x = true) : sc.names.lookup x = some .cell := by
  unfold celB at h
  split at h
  · assumption
  · cases h
theorem locB_ok {sc sc' : Scope} (r : ScR sc sc') {x : Str} (h : locB sc x = true) : sc'.names.lookup x = some .local := by
  unfold locB at h
  split at h
  · exact r.loc x (by assumption)
  · cases h
section
variable {B : Bs} {W : WX} {g : Gh} {H : Hp} {σ : L2.St} {ρ : Slots} {st : Store} {Q : VK}
theorem Res.bind_ok {α β : Type} {r : Res α} {k : α → Store → Res β} {b : β} {st' : Store} (h : r.bind k = .ok b st') : ∃ a st1, r = .ok a st1 ∧ k a st1 = .ok b st' := by
  cases r with
  | ok a st1 => exact ⟨a, st1, rfl, h⟩
  | exc x st1 => cases h
  | stuck => cases h
theorem Res.bind_exc {α β : Type} {r : Res α} {k : α → Store → Res β} {x : XD} {st' : Store} (h : r.bind k = .exc x st') : r = .exc x st' ∨ ∃ a st1, r = .ok a st1 ∧ k a st1 = .exc x st' := by
  cases r with
  | ok a st1 => exact .inr ⟨a, st1, rfl, h⟩
  | exc x st1 => cases h; exact .inl rfl
  | stuck => cases h
theorem pick_ok {α β : Type} {o : Option α} {k : α → Res β} {b : β} {st' : Store} (h : pick o k = .ok b st') : ∃ a, o = some a ∧ k a = .ok b st' := by
  cases o with
  | none => cases h
  | some a => exact ⟨a, rfl, h⟩

/-- several values are handed on -/
theorem ER.frs : ∀ {vs : List Val} {xs : List V} {g : Gh} {st : Store} {ds : List D} {st' : Store}, ER B g H σ ρ st → ValsR B.R B.ex g.F g.A xs vs → frs B.io.length vs st = .ok ds st' →
    ∃ F', ER B ⟨F', g.A⟩ H σ ρ st' ∧ Step g H ⟨F', g.A⟩ H ∧ RepL B.R F' xs ds
  | [], _, g, st, ds, st', r, .nil, e => by
    cases e
    exact ⟨g.F, r, Step.refl _ _, .nil⟩
  | v :: vs, _, g, st, ds, st', r, .cons h t, e => by
    obtain ⟨d, st1, e1, e2⟩ := Res.bind_ok (show (PD.fr B.io.length v st).bind _ = _ from e)
    obtain ⟨F1, r1, s1, h1⟩ := r.fr h e1
    obtain ⟨ds2, st2, e3, e4⟩ := Res.bind_ok e2
    have t1 : ∀ {xs : List V} {vs : List Val}, ValsR B.R B.ex g.F g.A xs vs → ValsR B.R B.ex F1 g.A xs vs := fun t => by
      induction t with
      | nil => exact .nil
      | cons a _ ih => exact .cons (a.up (g := g) (g' := ⟨F1, g.A⟩) s1.le) ih
    obtain ⟨F2, r2, s2, h2⟩ := ER.frs r1 (t1 t) e3
    cases e4
    exact ⟨F2, r2, s1.trans s2, .cons (h1.mono s2.le.F) h2⟩
theorem frs_no_exc {io : Nat} : ∀ {vs : List Val} {st st' : Store} {x : XD}, PD.frs io vs st ≠ .exc x st'
  | [], st, st', x, h => by cases h
  | v :: vs, st, st', x, h => by
    rcases Res.bind_exc (show (PD.fr io v st).bind _ = _ from h) with q | ⟨d, st1, _, q⟩
    · exact fr_no_exc q
    · rcases Res.bind_exc q with q | ⟨ds, st2, _, q⟩
      · exact frs_no_exc q
      · cases q
theorem ValsR.up {R : RC} {E : ExH} {g g' : Gh} {xs : List V} {vs : List Val} (l : g.le g') (t : ValsR R E g.F g.A xs vs) : ValsR R E g'.F g'.A xs vs := by
  induction t with
  | nil => exact .nil
  | cons a _ ih => exact .cons (a.up l) ih

/-! ### a call -/
/-- how the prepared arguments stand -/
inductive PrepR (R : RC) (g : Gh) : List V → List (Sum D Nat) → List Addr → Prop
  | nil : PrepR R g [] [] []
  | fz {x : V} {xs : List V} {d : D} {as : List (Sum D Nat)} {l : List Addr} : Rep R g.F x d → PrepR R g xs as l → PrepR R g (x :: xs) (.inl d :: as) l
  | mu {a : Addr} {n : Nat} {xs : List V} {as : List (Sum D Nat)} {l : List Addr} : g.A[n]? = some a → PrepR R g xs as l → PrepR R g (.ref a :: xs) (.inr n :: as) (a :: l)
theorem ER.frA : ∀ {vs : List Val} {ms : List Bool} {xs : List V} {g : Gh} {st : Store} {as : List (Sum D Nat)} {st' : Store}, ER B g H σ ρ st → ValsR B.R B.ex g.F g.A xs vs → frA B.io.length ms vs st = .ok as st' →
    ∃ F' l, ER B ⟨F', g.A⟩ H σ ρ st' ∧ Step g H ⟨F', g.A⟩ H ∧ PrepR B.R ⟨F', g.A⟩ xs as l
  | [], ms, _, g, st, as, st', r, .nil, e => by
    have e' : Res.ok [] st = Res.ok as st' := by
      cases ms with
      | nil => exact e
      | cons m ms => cases m <;> exact e
    cases e'
    exact ⟨g.F, [], r, Step.refl _ _, .nil⟩
  | v :: vs, ms, _, g, st, as, st', r, .cons (x := x) (xs := xs) h t, e => by
    have pure : ∀ ms', ((PD.fr B.io.length v st).bind fun d st => (PD.frA B.io.length ms' vs st).bind fun as st => .ok (.inl d :: as) st) = .ok as st' →
        ∃ F' l, ER B ⟨F', g.A⟩ H σ ρ st' ∧ Step g H ⟨F', g.A⟩ H ∧ PrepR B.R ⟨F', g.A⟩ (x :: xs) as l := fun ms' e => by
      obtain ⟨d, st1, e1, e2⟩ := Res.bind_ok e
      obtain ⟨F1, r1, s1, h1⟩ := r.fr h e1
      obtain ⟨as2, st2, e3, e4⟩ := Res.bind_ok e2
      obtain ⟨F2, l, r2, s2, h2⟩ := ER.frA r1 (t.up (g := g) (g' := ⟨F1, g.A⟩) s1.le) e3
      cases e4
      exact ⟨F2, l, r2, s1.trans s2, .fz (h1.mono s2.le.F) h2⟩
    cases ms with
    | nil => exact pure [] e
    | cons m ms =>
      cases m with
      | false => exact pure ms e
      | true =>
        cases v with
        | fz d => cases e
        | exn y => cases e
        | loc n =>
          obtain ⟨as2, st2, e3, e4⟩ := Res.bind_ok (show (PD.frA B.io.length ms vs st).bind _ = _ from e)
          obtain ⟨F2, l, r2, s2, h2⟩ := ER.frA r t e3
          cases e4
          obtain ⟨a, ha, rfl⟩ := h
          exact ⟨F2, a :: l, r2, s2, .mu ha h2⟩
theorem frA_no_exc {io : Nat} : ∀ {vs : List Val} {ms : List Bool} {st st' : Store} {x : XD}, PD.frA io ms vs st ≠ .exc x st'
  | [], ms, st, st', x, h => by
    cases ms with
    | nil => cases h
    | cons m ms => cases m <;> cases h
  | v :: vs, ms, st, st', x, h => by
    have pure : ∀ ms', ((PD.fr io v st).bind fun d st => (PD.frA io ms' vs st).bind fun as st => .ok (Sum.inl d :: as) st) ≠ .exc x st' := fun ms' h => by
      rcases Res.bind_exc h with q | ⟨d, st1, _, q⟩
      · exact fr_no_exc q
      · rcases Res.bind_exc q with q | ⟨ds, st2, _, q⟩
        · exact frA_no_exc q
        · cases q
    cases ms with
    | nil => exact pure _ h
    | cons m ms =>
      cases m with
      | false => exact pure _ h
      | true =>
        cases v with
        | fz d => cases h
        | exn y => cases h
        | loc n =>
          rcases Res.bind_exc (show (PD.frA io ms vs st).bind _ = _ from h) with q | ⟨ds, st2, _, q⟩
          · exact frA_no_exc q
          · cases q
theorem PrepR.args (r : ER B g H σ ρ st) : ∀ {xs : List V} {as : List (Sum D Nat)} {l : List Addr} {args : List Arg}, PrepR B.R g xs as l → mkA st as = some args → ArgsR B.R g.F H xs args l ∧ ∀ (n : Nat), n ∈ locsA as → ∃ c, st[n]? = some c ∧ c.live = true
  | _, _, _, args, .nil, e => by cases e; exact ⟨.nil, fun n h => by cases h⟩
  | _, _, _, args, .fz (d := d) (as := as) h t, e => by
    have e' : (match mkA st as with | some r => some (Arg.fz d :: r) | none => none) = some args := e
    cases q : mkA st as with
    | none => rw [q] at e'; cases e'
    | some r' =>
      rw [q] at e'; cases e'
      obtain ⟨h1, h2⟩ := PrepR.args r t q
      exact ⟨.fz h h1, h2⟩
  | _, _, _, args, .mu (a := a) (n := n) (as := as) h t, e => by
    obtain ⟨c, hc⟩ := r.stAt h
    have e' : (match st[n]? with | some c => if c.live then (match mkA st as with | some r => some (Arg.mu c :: r) | none => none) else none | none => none) = some args := e
    rw [hc] at e'
    cases hl : c.live with
    | false => simp only [hl] at e'; cases e'
    | true =>
      simp only [hl, if_true] at e'
      cases q : mkA st as with
      | none => rw [q] at e'; cases e'
      | some r' =>
        rw [q] at e'; cases e'
        obtain ⟨h1, h2⟩ := PrepR.args r t q
        refine ⟨.mu hl (r.conts n a c h hc) h1, fun m hm => ?_⟩
        rcases List.mem_cons.mp hm with rfl | hm
        · exact ⟨c, hc, hl⟩
        · exact h2 m hm
theorem PrepR.locs : ∀ {xs : List V} {as : List (Sum D Nat)} {l : List Addr}, PrepR B.R g xs as l → l.length = (locsA as).length ∧ ∀ (i n : Nat), (locsA as)[i]? = some n → l[i]? = g.A[n]? ∧ ∃ a, g.A[n]? = some a
  | _, _, _, .nil => ⟨rfl, fun i n h => by cases i <;> cases h⟩
  | _, _, _, .fz _ t => by
    obtain ⟨h1, h2⟩ := PrepR.locs t
    exact ⟨h1, h2⟩
  | _, _, _, .mu (a := a) (n := n) h t => by
    obtain ⟨h1, h2⟩ := PrepR.locs t
    refine ⟨congrArg Nat.succ h1, fun i m hm => ?_⟩
    cases i with
    | zero =>
      have : n = m := by simpa [locsA] using hm
      subst this
      exact ⟨by simp [h], a, h⟩
    | succ i => exact h2 i m (by simpa [locsA] using hm)
theorem noDup_ok : ∀ {l : List Nat}, noDup l = true → l.Nodup
  | [], _ => List.nodup_nil
  | n :: ns, h => by
    obtain ⟨h1, h2⟩ := Bool.and_eq_true_iff.mp (show (!ns.contains n && noDup ns) = true from h)
    refine List.nodup_cons.mpr ⟨fun hm => ?_, noDup_ok h2⟩
    have : ns.contains n = true := List.contains_iff_mem.mpr hm
    rw [this] at h1; cases h1
theorem PrepR.nodup (r : ER B g H σ ρ st) {xs : List V} {as : List (Sum D Nat)} {l : List Addr} (p : PrepR B.R g xs as l) (h : (locsA as).Nodup) : l.Nodup := by
  obtain ⟨h1, h2⟩ := p.locs
  refine List.pairwise_iff_getElem.mpr fun i j hi hj hij e => ?_
  have hi' : i < (locsA as).length := by omega
  have hj' : j < (locsA as).length := by omega
  obtain ⟨e1, a, ea⟩ := h2 i (locsA as)[i] (List.getElem?_eq_getElem hi')
  obtain ⟨e2, b, eb⟩ := h2 j (locsA as)[j] (List.getElem?_eq_getElem hj')
  rw [List.getElem?_eq_getElem hi, ea] at e1
  rw [List.getElem?_eq_getElem hj, eb] at e2
  have q0 : a = b := by
    have q1 := Option.some.inj e1
    have q2 := Option.some.inj e2
    rw [← q1, ← q2, e]
  subst q0
  exact List.pairwise_iff_getElem.mp h i j hi' hj' hij (getA r.nodup ea eb)
/-- the store behind the call -/
theorem putBack_at : ∀ {ns : List Nat} {cs : List Cont} {st st' : Store}, putBack ns cs st = some st' → ns.Nodup → st'.length = st.length ∧ ns.length = cs.length ∧ (∀ (i : Nat), i ∉ ns → st'[i]? = st[i]?) ∧
    ∀ (k n : Nat), ns[k]? = some n → n < st.length → st'[n]? = cs[k]?
  | [], [], st, st', h, _ => by cases h; exact ⟨rfl, rfl, fun _ _ => rfl, fun k n e => by cases k <;> cases e⟩
  | [], _ :: _, st, st', h, _ => by cases h
  | _ :: _, [], st, st', h, _ => by cases h
  | n :: ns, c :: cs, st, st', h, nd => by
    have h' : (if c.live then putBack ns cs (st.set n c) else none) = some st' := h
    cases hl : c.live with
    | false => simp only [hl] at h'; cases h'
    | true =>
      simp only [hl, if_true] at h'
      obtain ⟨n1, n2⟩ := List.nodup_cons.mp nd
      obtain ⟨q1, q2, q3, q4⟩ := putBack_at h' n2
      refine ⟨by rw [q1, List.length_set], congrArg Nat.succ q2, fun i hi => ?_, fun k m e hm => ?_⟩
      · rw [q3 i fun z => hi (List.mem_cons_of_mem _ z), List.getElem?_set_ne (fun z => hi (by rw [z]; exact List.mem_cons_self))]
      · cases k with
        | zero =>
          have : n = m := by simpa using e
          subst this
          rw [q3 n n1, List.getElem?_set_self (by omega)]
          rfl
        | succ k => exact q4 k m (by simpa using e) (by rw [List.length_set]; exact hm)
theorem ContsR.get {R : RC} {F' H' : Hp} : ∀ {l : List Addr} {cs : List Cont} {k : Nat} {a : Addr} {c : Cont}, ContsR R F' H' l cs → l[k]? = some a → cs[k]? = some c → c.live = true ∧ ContR R F' H' a c
  | _, _, k, _, _, .nil, e, _ => by cases k <;> cases e
  | _, _, 0, _, _, .cons h c _, e, e2 => by simp at e e2; subst e; subst e2; exact ⟨h, c⟩
  | _, _, k + 1, a, c, .cons _ _ t, e, e2 => ContsR.get (k := k) t (by simpa using e) (by simpa using e2)
theorem ER.called (r : ER B g H σ ρ st) {xs : List V} {as : List (Sum D Nat)} {l : List Addr} {cs : List Cont} {F' H' : Hp} {st' : Store} (p : PrepR B.R g xs as l) (nd : (locsA as).Nodup)
    (hlive : ∀ (n : Nat), n ∈ locsA as → ∃ c, st[n]? = some c ∧ c.live = true) (po : PostR B.R g.F H F' H' l cs) (hb : putBack (locsA as) cs st = some st') :
    ER B ⟨F', g.A⟩ H' σ ρ st' ∧ Step g H ⟨F', g.A⟩ H' := by
  obtain ⟨q1, q2, q3, q4⟩ := putBack_at hb nd
  obtain ⟨h1, h2⟩ := p.locs
  have memL : ∀ b, b ∈ l → ∃ n, n ∈ locsA as ∧ g.A[n]? = some b := fun b hb => by
    obtain ⟨i, hi⟩ := List.getElem?_of_mem hb
    have hi' : i < (locsA as).length := by rw [← h1]; exact (List.getElem?_eq_some_iff.mp hi).1
    obtain ⟨e, _⟩ := h2 i (locsA as)[i] (List.getElem?_eq_getElem hi')
    exact ⟨_, List.getElem_mem hi', by rw [← e]; exact hi⟩
  have lMem : ∀ n, n ∈ locsA as → ∃ k a, (locsA as)[k]? = some n ∧ l[k]? = some a ∧ g.A[n]? = some a := fun n hn => by
    obtain ⟨k, hk⟩ := List.getElem?_of_mem hn
    obtain ⟨e, a, ea⟩ := h2 k n hk
    exact ⟨k, a, hk, by rw [e]; exact ea, ea⟩
  refine ⟨r.next ⟨po.same, List.prefix_refl _⟩ po.le (fun b hb => ?_) (fun b o e => ?_) (by rw [q1]; exact r.len) r.nodup (fun i c hi e => ?_) (fun i a hi e => ?_) (fun i a e => ?_) fun i a c e1 e2 => ?_, ⟨⟨po.same, List.prefix_refl _⟩, fun b o e hb => ?_, fun b hb => ?_, fun b hb => .inl hb⟩⟩
  · rcases po.fresh b hb with z | z
    · exact .inl z
    · exact .inr (r.fresh0 z).2.2.1
  · by_cases hl : b ∈ l
    · obtain ⟨n, hn, hA⟩ := memL b hl
      obtain ⟨c, hc, hcl⟩ := hlive n hn
      exact .inl ⟨n, c, hA, hc, hcl⟩
    · exact .inr (po.keep b o e hl)
  · by_cases hm : i ∈ locsA as
    · obtain ⟨k, a, hk, hl, hA⟩ := lMem i hm
      have hi2 : i < st.length := by
        have := (List.getElem?_eq_some_iff.mp hA).1
        rw [r.len] at this; exact this
      rw [q4 k i hk hi2] at e
      exact (po.conts.get hl e).1
    · rw [q3 i hm] at e
      exact r.iolive i c hi e
  · have := (List.getElem?_eq_some_iff.mp e).1
    exact absurd this (by simp only; omega)
  · by_cases hm : i ∈ locsA as
    · obtain ⟨k, a', hk, hl, hA⟩ := lMem i hm
      have e' : g.A[i]? = some a := e
      rw [hA] at e'; cases e'
      have hi2 : i < st.length := by
        have := (List.getElem?_eq_some_iff.mp hA).1
        rw [r.len] at this; exact this
      obtain ⟨c, hc⟩ : ∃ c, cs[k]? = some c := by
        have : k < cs.length := by rw [← q2]; exact (List.getElem?_eq_some_iff.mp hk).1
        exact ⟨_, List.getElem?_eq_getElem this⟩
      obtain ⟨z1, z2⟩ := po.conts.get hl hc
      exact z2.there z1
    · have e' : g.A[i]? = some a := e
      cases q : H a with
      | none => exact absurd q (r.there i a e')
      | some o =>
        have hl : a ∉ l := fun hl => by
          obtain ⟨n, hn, hA⟩ := memL a hl
          exact hm (by rw [getA r.nodup e' hA]; exact hn)
        rw [po.keep a o q hl]; intro z; cases z
  · by_cases hm : i ∈ locsA as
    · obtain ⟨k, a', hk, hl, hA⟩ := lMem i hm
      have e' : g.A[i]? = some a := e1
      rw [hA] at e'; cases e'
      have hi2 : i < st.length := by
        have := (List.getElem?_eq_some_iff.mp hA).1
        rw [r.len] at this; exact this
      rw [q4 k i hk hi2] at e2
      exact (po.conts.get hl e2).2
    · rw [q3 i hm] at e2
      have e' : g.A[i]? = some a := e1
      have hl : a ∉ l := fun hl => by
        obtain ⟨n, hn, hA⟩ := memL a hl
        exact hm (by rw [getA r.nodup e' hA]; exact hn)
      refine (r.conts i a c e' e2).F po.same (fun hc => ?_) (fun _ => ?_)
      · show F' a = none
        cases z : F' a with
        | none => rfl
        | some o =>
          rcases po.fresh a (by rw [z]; intro w; cases w) with w | w
          · exact absurd ((r.conts i a c e' e2).out hc) w
          · exact absurd w (r.there i a e')
      · cases q : H a with
        | none => exact absurd q (r.there i a e')
        | some o => exact po.keep a o q hl
  · have hl : b ∉ l := fun hl => by
      obtain ⟨n, _, hA⟩ := memL b hl
      exact hb (List.mem_of_getElem? hA)
    exact po.keep b o e hl
  · rcases po.fresh b hb with z | z
    · exact .inl z
    · exact .inr (.inl z)
/-- a list that was made beside becomes the store's -/
theorem ER.adopt (r : ER B g H σ ρ st) {p : Addr} {xs : List V} {ds : List D} (h : H p = some (.lst xs)) (k : RepL B.R g.F xs ds) (hA : p ∉ g.A) (hF : g.F p = none) (h0 : B.H0 p = none) : ER B ⟨g.F, g.A ++ [p]⟩ H σ ρ (st ++ [.lst ds]) := by
  have lastA : ∀ (i : Nat) (a : Addr), (g.A ++ [p])[i]? = some a → g.A[i]? = some a ∨ (i = g.A.length ∧ a = p) := fun i a e => by
    by_cases hi : i < g.A.length
    · rw [List.getElem?_append_left hi] at e; exact .inl e
    · rw [List.getElem?_append_right (by omega)] at e
      have hi2 : i - g.A.length = 0 := by
        have := (List.getElem?_eq_some_iff.mp e).1
        simp at this; omega
      rw [hi2] at e
      simp at e
      exact .inr ⟨by omega, e.symm⟩
  refine r.next ⟨Same.refl _, List.prefix_append _ _⟩ r.le (fun b hb => .inl hb) (fun b u e => .inr e) ?_ ?_ (fun i c' hi e => ?_) (fun i a hi e => ?_) (fun i a e => ?_) fun i a c' e1 e2 => ?_
  · simp [r.len]
  · refine List.nodup_append.mpr ⟨r.nodup, by simp, fun x hx y hy => ?_⟩
    have : y = p := by simpa using hy
    subst this
    intro z; subst z; exact hA hx
  · by_cases h' : i < st.length
    · rw [List.getElem?_append_left h'] at e
      exact r.iolive i c' hi e
    · rw [List.getElem?_append_right (by omega)] at e
      have := (List.getElem?_eq_some_iff.mp e).1
      simp at this
      have hz : i - st.length = 0 := by omega
      rw [hz] at e
      simp at e
      rw [← e]; rfl
  · rcases lastA i a e with q | ⟨_, q⟩
    · have := (List.getElem?_eq_some_iff.mp q).1
      exact absurd this (by omega)
    · rw [q]; exact h0
  · rcases lastA i a e with q | ⟨_, q⟩
    · exact r.there i a q
    · rw [q, h]; intro z; cases z
  · rcases lastA i a e1 with q | ⟨qi, q⟩
    · have hi : i < st.length := by
        have := (List.getElem?_eq_some_iff.mp q).1
        rw [r.len] at this; exact this
      rw [List.getElem?_append_left hi] at e2
      exact r.conts i a c' q e2
    · have hi : i = st.length := by rw [qi, r.len]
      subst hi
      rw [List.getElem?_append_right (Nat.le_refl _)] at e2
      simp at e2
      rw [← e2, q]
      exact ⟨hF, xs, h, k⟩
/-- THE CALL: what is wanted behind it gives the promise -/
theorem call_pst (r : ER B g H σ ρ st) {fi : FnI} {xs dvs : List V} {vs : List Val} {n : Nat} (h : ValsR B.R B.ex g.F g.A xs vs) (hd : ∀ F, RepL B.R F dvs fi.dfl) (hn : xs.length + dvs.length = n)
    (p : Pst B W g H σ ρ (callS B.io.length fi vs st) (kV B Q)) : spOf B.R n fi.f (xs ++ dvs) H Q (WE W σ) := by
  have p' : Pst B W g H σ ρ ((frA B.io.length fi.muts vs st).bind fun as st => if noDup (locsA as) then
    pick (mkA st as) fun args => match fi.f (args ++ fi.dfl.map .fz) with
      | .ok d cs => pick (putBack (locsA as) cs st) fun st => .ok (.fz d) st
      | .okl ds cs => pick (putBack (locsA as) cs st) fun st => .ok (.loc st.length) (st ++ [.lst ds])
      | .exc x cs => pick (putBack (locsA as) cs st) fun st => .exc x st
      | .stuck => .stuck
    else .stuck) (kV B Q) := p
  cases e1 : PD.frA B.io.length fi.muts vs st with
  | stuck => rw [e1] at p'; exact p'.elim
  | exc x st1 => exact (frA_no_exc e1).elim
  | ok as st1 =>
    rw [e1] at p'
    obtain ⟨F1, l, r1, s1, pr⟩ := r.frA h e1
    cases e2 : noDup (locsA as) with
    | false => simp only [Res.bind, e2] at p'; exact p'.elim
    | true =>
      simp only [Res.bind, e2, if_true] at p'
      obtain ⟨args, e3, p2⟩ := Pst.pick p'
      obtain ⟨hA, hL⟩ := pr.args r1 e3
      have hnd := noDup_ok e2
      have hA2 := hA.app (hd F1)
      refine ⟨F1, args ++ fi.dfl.map .fz, l, ?_, r1.le, hA2, pr.nodup r1 hnd, ?_⟩
      · rw [← hA2.length, List.length_append]; exact hn
      · cases e4 : fi.f (args ++ fi.dfl.map .fz) with
        | stuck => simp only [e4] at p2; exact p2
        | ok d cs =>
          simp only [e4] at p2 ⊢
          intro x F' H' po rep
          obtain ⟨st2, e5, p3⟩ := Pst.pick p2
          obtain ⟨r2, s2⟩ := r1.called pr hnd hL po e5
          exact p3 _ _ r2 (s1.trans s2) x rep
        | okl ds cs =>
          simp only [e4] at p2 ⊢
          intro a ys F' H' po fa ha ha' rep
          obtain ⟨st2, e5, p3⟩ := Pst.pick p2
          obtain ⟨r2, s2⟩ := r1.called pr hnd hL po e5
          obtain ⟨f1, f2, f3, f4⟩ := r1.fresh0 ha
          refine p3 ⟨F', g.A ++ [a]⟩ H' (r2.adopt ha' rep f2 fa f3) ⟨⟨(s1.trans s2).le.F, (s1.trans s2).le.A.trans (List.prefix_append _ _)⟩, (s1.trans s2).frame, (s1.trans s2).freshF, fun b hb => ?_⟩ (.ref a) ⟨a, ?_, rfl⟩
          · rcases List.mem_append.mp hb with q | q
            · exact (s1.trans s2).freshA b q
            · have : b = a := by simpa using q
              exact .inr (by rw [this]; exact ha)
          · have h := r2.len
            rw [← h]; simp
        | exc e cs =>
          simp only [e4] at p2 ⊢
          intro cls dd F' H' po xr
          obtain ⟨st2, e5, p3⟩ := Pst.pick p2
          obtain ⟨r2, s2⟩ := r1.called pr hnd hL po e5
          exact p3 _ _ cls dd r2 (s1.trans s2) xr
end
end PD

/-! PD9 -/
set_option Elab.async false
set_option linter.all false
set_option maxRecDepth 100000
set_option maxHeartbeats 4000000
/-! PD: what the check tells of the text. -/
namespace PD
open PySem PySem.Spec PyProof.Rows L2
section
variable {T : Tab} {sc : Scope} {calm m : Bool} {e : Expr}
theorem b2 {a b : Bool} (h : (a && b) = true) : a = true ∧ b = true := Bool.and_eq_true_iff.mp h
theorem chk_var {i : Nat} (h : chk T sc calm (.var i) m e = true) : ∃ x pos, e = .Name x pos ∧ T.N[i]? = some x ∧ visB sc x = true ∧ PD.seen x = true := by
  cases e with
  | Name x pos =>
    obtain ⟨h1, h2⟩ := b2 h
    obtain ⟨h2, h3⟩ := b2 h2
    exact ⟨x, pos, rfl, of_decide_eq_true h1, h2, h3⟩
  | _ => exact Bool.noConfusion (show false = true from h)
theorem chk_lit {d : D} (h : chk T sc calm (.lit d) m e = true) : ∃ c k pos, e = .Constant c k pos ∧ litB d c = true := by
  cases e with
  | Constant c k pos => exact ⟨c, k, pos, rfl, h⟩
  | _ => exact Bool.noConfusion (show false = true from h)
theorem chk_glo {j : Nat} (h : chk T sc calm (.glo j) m e = true) : ∃ x pos, e = .Name x pos ∧ T.con[j]? = some x ∧ glB sc x = true ∧ PD.seen x = true := by
  cases e with
  | Name x pos =>
    obtain ⟨h1, h2⟩ := b2 h
    obtain ⟨h2, h3⟩ := b2 h2
    exact ⟨x, pos, rfl, of_decide_eq_true h1, h2, h3⟩
  | _ => exact Bool.noConfusion (show false = true from h)
theorem chk_bin {o : Bop} {a b : Ex} (h : chk T sc calm (.bin o a b) m e = true) : ∃ ea eb pos, e = .BinOp ea o.op eb pos ∧ chk T sc calm a false ea = true ∧ chk T sc calm b false eb = true := by
  cases e with
  | BinOp ea op eb pos =>
    obtain ⟨h1, h2⟩ := b2 h
    obtain ⟨h2, h3⟩ := b2 h2
    rw [bopB_ok h1]
    exact ⟨ea, eb, pos, rfl, h2, h3⟩
  | _ => exact Bool.noConfusion (show false = true from h)
theorem chk_cmp {o : Cop} {a b : Ex} (h : chk T sc calm (.cmp o a b) m e = true) : ∃ ea eb pos, e = .Compare ea [o.op] [eb] pos ∧ plainE eb = true ∧ chk T sc calm a false ea = true ∧ chk T sc calm b false eb = true := by
  cases e with
  | Compare ea ops es pos =>
    cases ops with
    | nil => exact Bool.noConfusion (show false = true from h)
    | cons op ops =>
      cases ops with
      | cons _ _ => exact Bool.noConfusion (show false = true from h)
      | nil =>
        cases es with
        | nil => exact Bool.noConfusion (show false = true from h)
        | cons eb es =>
          cases es with
          | cons _ _ => exact Bool.noConfusion (show false = true from h)
          | nil =>
            obtain ⟨h1, h2⟩ := b2 h
            obtain ⟨h2, h3⟩ := b2 h2
            obtain ⟨h3, h4⟩ := b2 h3
            rw [copB_ok h1]
            exact ⟨ea, eb, pos, rfl, h2, h3, h4⟩
  | _ => exact Bool.noConfusion (show false = true from h)
theorem chk_chain {o o' : Cop} {a b c : Ex} (h : chk T sc calm (.chain o o' a b c) m e = true) : ∃ ea eb ec pos, e = .Compare ea [o.op, o'.op] [eb, ec] pos ∧ plainE eb = true ∧ plainE ec = true ∧ chk T sc calm a false ea = true ∧ chk T sc calm b false eb = true ∧ chk T sc calm c false ec = true := by
  cases e with
  | Compare ea ops es pos =>
    cases ops with
    | nil => exact Bool.noConfusion (show false = true from h)
    | cons op ops =>
      cases ops with
      | nil => exact Bool.noConfusion (show false = true from h)
      | cons op' ops =>
        cases ops with
        | cons _ _ => exact Bool.noConfusion (show false = true from h)
        | nil =>
          cases es with
          | nil => exact Bool.noConfusion (show false = true from h)
          | cons eb es =>
            cases es with
            | nil => exact Bool.noConfusion (show false = true from h)
            | cons ec es =>
              cases es with
              | cons _ _ => exact Bool.noConfusion (show false = true from h)
              | nil =>
                obtain ⟨h1, h2⟩ := b2 h
                obtain ⟨h2, h3⟩ := b2 h2
                obtain ⟨h3, h4⟩ := b2 h3
                obtain ⟨h4, h5⟩ := b2 h4
                obtain ⟨h5, h6⟩ := b2 h5
                obtain ⟨h6, h7⟩ := b2 h6
                rw [copB_ok h1, copB_ok h2]
                exact ⟨ea, eb, ec, pos, rfl, h3, h4, h5, h6, h7⟩
  | _ => exact Bool.noConfusion (show false = true from h)
theorem chk_neg {a : Ex} (h : chk T sc calm (.neg a) m e = true) : ∃ ea pos, e = .UnaryOp .USub ea pos ∧ m = false ∧ chk T sc calm a false ea = true := by
  cases e with
  | UnaryOp op ea pos =>
    cases op with
    | USub =>
      obtain ⟨h1, h2⟩ := b2 h
      exact ⟨ea, pos, rfl, by simpa using h1, h2⟩
    | _ => exact Bool.noConfusion (show false = true from h)
  | _ => exact Bool.noConfusion (show false = true from h)
theorem chk_not {a : Ex} (h : chk T sc calm (.not_ a) m e = true) : ∃ ea pos, e = .UnaryOp .Not ea pos ∧ chk T sc calm a m ea = true := by
  cases e with
  | UnaryOp op ea pos =>
    cases op with
    | Not => exact ⟨ea, pos, rfl, h⟩
    | _ => exact Bool.noConfusion (show false = true from h)
  | _ => exact Bool.noConfusion (show false = true from h)
theorem chk_and {a b : Ex} (h : chk T sc calm (.and_ a b) m e = true) : ∃ ea eb rest pos, e = .BoolOp .And (ea :: eb :: rest) pos ∧ chk T sc calm a m ea = true ∧
    ((rest = [] ∧ chk T sc calm b m eb = true) ∨ (rest ≠ [] ∧ chk T sc calm b m (.BoolOp .And (eb :: rest) pos) = true)) := by
  cases e with
  | BoolOp op es pos =>
    cases op with
    | Or => cases es with
      | nil => exact Bool.noConfusion (show false = true from h)
      | cons ea es => cases es <;> exact Bool.noConfusion (show false = true from h)
    | And =>
      cases es with
      | nil => exact Bool.noConfusion (show false = true from h)
      | cons ea es =>
        cases es with
        | nil => exact Bool.noConfusion (show false = true from h)
        | cons eb rest =>
          cases rest with
          | nil =>
            obtain ⟨h1, h2⟩ := b2 (show (chk T sc calm a m ea && chk T sc calm b m eb) = true from h)
            exact ⟨ea, eb, [], pos, rfl, h1, .inl ⟨rfl, h2⟩⟩
          | cons ec rest =>
            obtain ⟨h1, h2⟩ := b2 (show (chk T sc calm a m ea && chk T sc calm b m (.BoolOp .And (eb :: ec :: rest) pos)) = true from h)
            exact ⟨ea, eb, ec :: rest, pos, rfl, h1, .inr ⟨List.cons_ne_nil _ _, h2⟩⟩
  | _ => exact Bool.noConfusion (show false = true from h)
theorem chk_or {a b : Ex} (h : chk T sc calm (.or_ a b) m e = true) : ∃ ea eb rest pos, e = .BoolOp .Or (ea :: eb :: rest) pos ∧ chk T sc calm a m ea = true ∧
    ((rest = [] ∧ chk T sc calm b m eb = true) ∨ (rest ≠ [] ∧ chk T sc calm b m (.BoolOp .Or (eb :: rest) pos) = true)) := by
  cases e with
  | BoolOp op es pos =>
    cases op with
    | And => cases es with
      | nil => exact Bool.noConfusion (show false = true from h)
      | cons ea es => cases es <;> exact Bool.noConfusion (show false = true from h)
    | Or =>
      cases es with
      | nil => exact Bool.noConfusion (show false = true from h)
      | cons ea es =>
        cases es with
        | nil => exact Bool.noConfusion (show false = true from h)
        | cons eb rest =>
          cases rest with
          | nil =>
            obtain ⟨h1, h2⟩ := b2 (show (chk T sc calm a m ea && chk T sc calm b m eb) = true from h)
            exact ⟨ea, eb, [], pos, rfl, h1, .inl ⟨rfl, h2⟩⟩
          | cons ec rest =>
            obtain ⟨h1, h2⟩ := b2 (show (chk T sc calm a m ea && chk T sc calm b m (.BoolOp .Or (eb :: ec :: rest) pos)) = true from h)
            exact ⟨ea, eb, ec :: rest, pos, rfl, h1, .inr ⟨List.cons_ne_nil _ _, h2⟩⟩
  | _ => exact Bool.noConfusion (show false = true from h)
theorem chk_ife {c a b : Ex} (h : chk T sc calm (.ife c a b) m e = true) : ∃ ec ea eb pos, e = .IfExp ec ea eb pos ∧ m = false ∧ chk T sc calm c true ec = true ∧ chk T sc calm a false ea = true ∧ chk T sc calm b false eb = true := by
  cases e with
  | IfExp ec ea eb pos =>
    obtain ⟨h1, h2⟩ := b2 h
    obtain ⟨h2, h3⟩ := b2 h2
    obtain ⟨h3, h4⟩ := b2 h3
    exact ⟨ec, ea, eb, pos, rfl, by simpa using h1, h2, h3, h4⟩
  | _ => exact Bool.noConfusion (show false = true from h)
theorem chk_tru {a : Ex} (h : chk T sc calm (.tru a) m e = true) : m = true ∧ plainT e = true ∧ chk T sc calm a false e = true := by
  have h' : (m && (plainT e && chk T sc calm a false e)) = true := by cases e <;> exact h
  obtain ⟨h1, h2⟩ := b2 h'
  obtain ⟨h2, h3⟩ := b2 h2
  exact ⟨h1, h2, h3⟩
theorem chk_tup {es : Exs} (h : chk T sc calm (.tup es) m e = true) : ∃ ees k pos, e = .Tuple ees k pos ∧ m = false ∧ chks T sc calm es ees = true := by
  cases e with
  | Tuple ees k pos =>
    obtain ⟨h1, h2⟩ := b2 h
    exact ⟨ees, k, pos, rfl, by simpa using h1, h2⟩
  | _ => exact Bool.noConfusion (show false = true from h)
theorem chk_lst {es : Exs} (h : chk T sc calm (.lst es) m e = true) : ∃ ees pos, e = .List ees pos ∧ m = false ∧ chks T sc calm es ees = true := by
  cases e with
  | List ees pos =>
    obtain ⟨h1, h2⟩ := b2 h
    exact ⟨ees, pos, rfl, by simpa using h1, h2⟩
  | _ => exact Bool.noConfusion (show false = true from h)
theorem chk_idx {a i : Ex} (h : chk T sc calm (.idx a i) m e = true) : ∃ ea ei pos, e = .Subscript ea ei pos ∧ plainE ei = true ∧ chk T sc calm a false ea = true ∧ chk T sc calm i false ei = true := by
  cases e with
  | Subscript ea ei pos =>
    obtain ⟨h1, h2⟩ := b2 h
    obtain ⟨h2, h3⟩ := b2 h2
    exact ⟨ea, ei, pos, rfl, h1, h2, h3⟩
  | _ => exact Bool.noConfusion (show false = true from h)
theorem chk_slc {a lo hi : Ex} (h : chk T sc calm (.slc a lo hi) m e = true) : ∃ ea elo ehi p pos, e = .Subscript ea (.Slice elo ehi none p) pos ∧ m = false ∧ chk T sc calm a false ea = true ∧
    ((elo = none ∧ lo = .none_) ∨ ∃ x, elo = some x ∧ chk T sc calm lo false x = true) ∧ ((ehi = none ∧ hi = .none_) ∨ ∃ x, ehi = some x ∧ chk T sc calm hi false x = true) := by
  cases e with
  | Subscript ea ei pos =>
    cases ei with
    | Slice elo ehi st p =>
      cases st with
      | some _ => exact Bool.noConfusion (show false = true from h)
      | none =>
        obtain ⟨h1, h2⟩ := b2 h
        obtain ⟨h2, h3⟩ := b2 h2
        obtain ⟨h3, h4⟩ := b2 h3
        have non : ∀ {x : Ex}, x.isNone = true → x = .none_ := fun {x} q => by cases x <;> first | rfl | exact Bool.noConfusion (show false = true from q)
        refine ⟨ea, elo, ehi, p, pos, rfl, by simpa using h1, h2, ?_, ?_⟩
        · cases elo with
          | none => exact .inl ⟨rfl, non h3⟩
          | some x => exact .inr ⟨x, rfl, h3⟩
        · cases ehi with
          | none => exact .inl ⟨rfl, non h4⟩
          | some x => exact .inr ⟨x, rfl, h4⟩
    | _ => exact Bool.noConfusion (show false = true from h)
  | _ => exact Bool.noConfusion (show false = true from h)
theorem chk_call {j : Nat} {es : Exs} (h : chk T sc calm (.call j es) m e = true) : ∃ x p ea ees pos, e = .Call (.Name x p) (ea :: ees) [] pos ∧ T.fns[j]? = some (x, ees.length + 1) ∧ glB sc x = true ∧ PD.seen x = true ∧ calm = true ∧ chks T sc calm es (ea :: ees) = true := by
  cases e with
  | Call f ees kws pos =>
    cases f with
    | Name x p =>
      cases kws with
      | cons _ _ => exact Bool.noConfusion (show false = true from h)
      | nil =>
        cases ees with
        | nil => exact Bool.noConfusion (show false = true from (b2 (b2 h).2).1)
        | cons ea ees =>
          obtain ⟨k1, q1⟩ := b2 h
          obtain ⟨k2, q2⟩ := b2 q1
          obtain ⟨k3, q3⟩ := b2 q2
          obtain ⟨k4, q4⟩ := b2 q3
          obtain ⟨k5, k6⟩ := b2 q4
          exact ⟨x, p, ea, ees, pos, rfl, of_decide_eq_true k1, k3, k4, k5, k6⟩
    | _ => exact Bool.noConfusion (show false = true from h)
  | _ => exact Bool.noConfusion (show false = true from h)
def Bfn.has (T : Tab) : Bfn → Bool
  | .gcd => T.gcd
  | f => T.free.contains f.nm
theorem chk_bfn {f : Bfn} {es : Exs} (h : chk T sc calm (.bfn f es) m e = true) : ∃ p ea ees pos, e = .Call (.Name f.nm p) (ea :: ees) [] pos ∧ glB sc f.nm = true ∧ f.has T = true ∧ (f.calm = true → calm = true) ∧ chks T sc calm es (ea :: ees) = true := by
  cases e with
  | Call g ees kws pos =>
    cases g with
    | Name x p =>
      cases kws with
      | cons _ _ => exact Bool.noConfusion (show false = true from h)
      | nil =>
        cases ees with
        | nil => exact Bool.noConfusion (show false = true from (b2 (b2 h).2).1)
        | cons ea ees =>
          obtain ⟨k1, q1⟩ := b2 h
          obtain ⟨k2, q2⟩ := b2 q1
          obtain ⟨k3, q3⟩ := b2 q2
          obtain ⟨k4, q4⟩ := b2 q3
          obtain ⟨k5, k6⟩ := b2 q4
          have hx : x = f.nm := of_decide_eq_true k1
          subst hx
          refine ⟨p, ea, ees, pos, rfl, k3, ?_, fun z => ?_, k6⟩
          · cases f <;> exact k4
          · rw [z] at k5
            simpa using k5
    | _ => exact Bool.noConfusion (show false = true from h)
  | _ => exact Bool.noConfusion (show false = true from h)
theorem chk_mth {a : Ex} {es : Exs} (h : chk T sc calm (.mth .bitlen a es) m e = true) : ∃ eo ap cp, e = .Call (.Attribute eo "bit_length" ap) [] [] cp ∧ m = false ∧ notSuper eo = true ∧ (ap.endLine == cp.line) = true ∧ chk T sc calm a false eo = true ∧ es = .nil := by
  cases e with
  | Call g ees kws cp =>
    cases g with
    | Attribute eo x ap =>
      cases ees with
      | cons _ _ => exact Bool.noConfusion (show false = true from h)
      | nil =>
        cases kws with
        | cons _ _ => exact Bool.noConfusion (show false = true from h)
        | nil =>
          obtain ⟨h1, h2⟩ := b2 h
          obtain ⟨h2, h3⟩ := b2 h2
          obtain ⟨h3, h4⟩ := b2 h3
          obtain ⟨h4, h5⟩ := b2 h4
          obtain ⟨h5, h6⟩ := b2 h5
          have hx : x = "bit_length" := of_decide_eq_true h2
          subst hx
          refine ⟨eo, ap, cp, rfl, by simpa using h1, h3, h4, h5, ?_⟩
          cases es with
          | nil => rfl
          | cons _ _ => exact Bool.noConfusion (show false = true from h6)
    | _ => cases ees <;> cases kws <;> exact Bool.noConfusion (show false = true from h)
  | _ => exact Bool.noConfusion (show false = true from h)
theorem chk_isi {a : Ex} {ts : List TyN} {tp : Bool} (h : chk T sc calm (.isi a ts tp) m e = true) : ∃ p ea et pos, e = .Call (.Name "isinstance" p) [ea, et] [] pos ∧ T.free.contains "isinstance" = true ∧ glB sc "isinstance" = true ∧ plainE ea = true ∧ plainE et = true ∧ chk T sc calm a false ea = true ∧
    ((∃ t, ts = [t] ∧ tynB T sc t et = true) ∨ ∃ ets k p2, et = .Tuple ets k p2 ∧ ts.length ≤ 8 ∧ ts ≠ [] ∧ tynsB T sc ts ets = true) := by
  cases e with
  | Call g ees kws pos =>
    cases g with
    | Name x p =>
      cases ees with
      | nil => exact Bool.noConfusion (show false = true from h)
      | cons ea ees =>
        cases ees with
        | nil => exact Bool.noConfusion (show false = true from h)
        | cons et ees =>
          cases ees with
          | cons _ _ => exact Bool.noConfusion (show false = true from h)
          | nil =>
            cases kws with
            | cons _ _ => exact Bool.noConfusion (show false = true from h)
            | nil =>
              obtain ⟨h1, h2⟩ := b2 h
              obtain ⟨h2, h3⟩ := b2 h2
              obtain ⟨h3, h4⟩ := b2 h3
              obtain ⟨h4, h5⟩ := b2 h4
              obtain ⟨h5, h6⟩ := b2 h5
              obtain ⟨h6, h7⟩ := b2 h6
              have hx : x = "isinstance" := of_decide_eq_true h1
              subst hx
              refine ⟨p, ea, et, pos, rfl, h2, h3, h4, h5, h6, ?_⟩
              cases tp with
              | false =>
                cases ts with
                | nil => exact Bool.noConfusion (show false = true from h7)
                | cons t ts =>
                  cases ts with
                  | cons _ _ => exact Bool.noConfusion (show false = true from h7)
                  | nil => exact .inl ⟨t, rfl, h7⟩
              | true =>
                cases et with
                | Tuple ets k p2 => exact .inr ⟨ets, k, p2, rfl, (of_decide_eq_true (b2 h7).1).1, (of_decide_eq_true (b2 h7).1).2, (b2 h7).2⟩
                | _ => exact Bool.noConfusion (show false = true from h7)
    | _ => exact Bool.noConfusion (show false = true from h)
  | _ => exact Bool.noConfusion (show false = true from h)
theorem chk_isx {i : Nat} {ts : List Str} {tp : Bool} (h : chk T sc calm (.isx i ts tp) m e = true) : ∃ p y py et pos, e = .Call (.Name "isinstance" p) [.Name y py, et] [] pos ∧ calm = false ∧ T.free.contains "isinstance" = true ∧ glB sc "isinstance" = true ∧ T.N[i]? = some y ∧ visB sc y = true ∧ PD.seen y = true ∧ plainE et = true ∧
    ((∃ t, ts = [t] ∧ clsB T sc t et = true) ∨ ∃ ets k p2, et = .Tuple ets k p2 ∧ ts.length ≤ 8 ∧ ts ≠ [] ∧ clssB T sc ts ets = true) := by
  cases e with
  | Call g ees kws pos =>
    cases g with
    | Name x p =>
      cases ees with
      | nil => exact Bool.noConfusion (show false = true from h)
      | cons ea ees =>
        cases ea with
        | Name y py =>
          cases ees with
          | nil => exact Bool.noConfusion (show false = true from h)
          | cons et ees =>
            cases ees with
            | cons _ _ => exact Bool.noConfusion (show false = true from h)
            | nil =>
              cases kws with
              | cons _ _ => exact Bool.noConfusion (show false = true from h)
              | nil =>
                obtain ⟨h0, h⟩ := b2 h
                obtain ⟨h1, h2⟩ := b2 h
                obtain ⟨h2, h3⟩ := b2 h2
                obtain ⟨h3, h4⟩ := b2 h3
                obtain ⟨h4, h5⟩ := b2 h4
                obtain ⟨h5, h6⟩ := b2 h5
                obtain ⟨h6, h7⟩ := b2 h6
                obtain ⟨h7, h8⟩ := b2 h7
                have hx : x = "isinstance" := of_decide_eq_true h1
                subst hx
                refine ⟨p, y, py, et, pos, rfl, by simpa using h0, h2, h3, of_decide_eq_true h4, h5, h6, h7, ?_⟩
                cases tp with
                | false =>
                  cases ts with
                  | nil => exact Bool.noConfusion (show false = true from h8)
                  | cons t ts =>
                    cases ts with
                    | cons _ _ => exact Bool.noConfusion (show false = true from h8)
                    | nil => exact .inl ⟨t, rfl, h8⟩
                | true =>
                  cases et with
                  | Tuple ets k p2 => exact .inr ⟨ets, k, p2, rfl, (of_decide_eq_true (b2 h8).1).1, (of_decide_eq_true (b2 h8).1).2, (b2 h8).2⟩
                  | _ => exact Bool.noConfusion (show false = true from h8)
        | _ =>
          first
            | exact Bool.noConfusion (show false = true from h)
            | (cases ees with
              | nil => exact Bool.noConfusion (show false = true from h)
              | cons _ ees => cases ees <;> cases kws <;> exact Bool.noConfusion (show false = true from h))
    | _ => exact Bool.noConfusion (show false = true from h)
  | _ => exact Bool.noConfusion (show false = true from h)
theorem chk_xfld {i : Nat} {f : Str} (h : chk T sc calm (.xfld i f) m e = true) : ∃ y yp p, e = .Attribute (.Name y yp) f p ∧ m = false ∧ calm = false ∧ T.N[i]? = some y ∧ visB sc y = true ∧ PD.seen y = true ∧ (y == ("super" : Str)) = false := by
  cases e with
  | Attribute o n p =>
    cases o with
    | Name y yp =>
      obtain ⟨h1, q2⟩ := b2 h
      obtain ⟨h2, q3⟩ := b2 q2
      obtain ⟨h3, q4⟩ := b2 q3
      obtain ⟨h4, q5⟩ := b2 q4
      obtain ⟨h5, q6⟩ := b2 q5
      obtain ⟨h6, h7⟩ := b2 q6
      clear q2 q3 q4 q5 q6 h
      have hn : n = f := of_decide_eq_true h3
      subst hn
      exact ⟨y, yp, p, rfl, by simpa using h1, by simpa using h2, of_decide_eq_true h4, h5, h6, by simpa using h7⟩
    | _ => exact Bool.noConfusion (show false = true from h)
  | _ => exact Bool.noConfusion (show false = true from h)
theorem lit_true {c : Ex} (h : (match c with | .lit (.bl true) => true | _ => false) = true) : c = .lit (.bl true) := by
  split at h
  · rfl
  · cases h
theorem chk_lc {own : List Nat} {tg : Tg} {it : It} {c elt : Ex} (h : chk T sc calm (.lc own tg it c elt) m e = true) : ∃ eelt etg eit ifs scope pos, e = .ListComp eelt [⟨etg, eit, ifs, 0⟩] scope pos ∧ m = false ∧ calm = true ∧ ownB T sc scope own = true ∧ tgB T scope tg etg = true ∧ tgIn own tg = true ∧
    chkI T sc calm it eit = true ∧ ((ifs = [] ∧ c = .lit (.bl true)) ∨ ∃ ec, ifs = [ec] ∧ chk T scope calm c true ec = true) ∧ chk T scope calm elt false eelt = true := by
  cases e with
  | ListComp eelt gens scope pos =>
    cases gens with
    | nil => exact Bool.noConfusion (show false = true from h)
    | cons g gens =>
      obtain ⟨etg, eit, ifs, as_⟩ := g
      cases gens with
      | cons _ _ => exact Bool.noConfusion (show false = true from h)
      | nil =>
        obtain ⟨k1, q1⟩ := b2 h
        obtain ⟨k2, q2⟩ := b2 q1
        obtain ⟨k3, q3⟩ := b2 q2
        obtain ⟨k4, q4⟩ := b2 q3
        obtain ⟨k5, q5⟩ := b2 q4
        obtain ⟨k6, q6⟩ := b2 q5
        obtain ⟨k7, q7⟩ := b2 q6
        obtain ⟨k8, k9⟩ := b2 q7
        have ha : as_ = 0 := of_decide_eq_true k3
        have fin : (ifs = [] ∧ c = .lit (.bl true)) ∨ ∃ ec, ifs = [ec] ∧ chk T scope calm c true ec = true := by
          clear h q1 q2 q3 q4 q5 q6 q7
          cases ifs with
          | nil => exact .inl ⟨rfl, lit_true k8⟩
          | cons ec r =>
            cases r with
            | cons _ _ => exact Bool.noConfusion (show false = true from k8)
            | nil => exact .inr ⟨ec, rfl, k8⟩
        clear q1 q2 q3 q4 q5 q6 q7 h
        subst ha
        exact ⟨eelt, etg, eit, ifs, scope, pos, rfl, by simpa using k1, k2, k4, k5, k6, k7, fin, k9⟩
  | _ => exact Bool.noConfusion (show false = true from h)
theorem chk_false {c : Ex} (hc : match c with | .none_ => True | .pop _ => True | _ => False) : chk T sc calm c m e ≠ true := by
  intro h
  cases c <;> first
    | exact hc
    | (cases e <;> exact Bool.noConfusion (show false = true from h))
theorem chks_cons {es : Exs} {ee : Expr} {ees : List Expr} (h : chks T sc calm es (ee :: ees) = true) : ∃ a as, es = .cons a as ∧ plainE ee = true ∧ chk T sc calm a false ee = true ∧ chks T sc calm as ees = true := by
  cases es with
  | nil => exact Bool.noConfusion (show false = true from h)
  | cons a as =>
    obtain ⟨h1, h2⟩ := b2 h
    obtain ⟨h2, h3⟩ := b2 h2
    exact ⟨a, as, rfl, h1, h2, h3⟩
theorem chks_nil {es : Exs} (h : chks T sc calm es [] = true) : es = .nil := by
  cases es with
  | nil => rfl
  | cons a as => exact Bool.noConfusion (show false = true from h)
end

/-! ### side conditions of the model's rules -/
theorem star_ok {ee : Expr} {ees : List Expr} {env : Env} (h : plainE ee = true) : starEach (ee :: ees) env = (false, eval ee env) :: starEach ees env := by
  cases ee <;> first
    | rfl
    | exact Bool.noConfusion (show false = true from h)
theorem stars_ok {T : Tab} {sc : Scope} {calm : Bool} {env : Env} {pos : Pos} : ∀ {ees : List Expr} {es : Exs}, chks T sc calm es ees = true → (backTo pos (starEach ees env)).any (·.1) = false
  | [], es, _ => rfl
  | ee :: ees, es, h => by
    obtain ⟨a, as, rfl, h1, h2, h3⟩ := chks_cons h
    rw [star_ok h1]
    show (false || (backTo pos (starEach ees env)).any (·.1)) = false
    rw [stars_ok h3]
    rfl
theorem plainIx_ok {b : Expr} (h : plainE b = true) : PlainIx b := by
  cases b <;> first
    | exact fun _ _ => rfl
    | exact Bool.noConfusion (show false = true from h)
theorem marks_ok {op : CmpOp} {b : Expr} (h : plainE b = true) : behindInMarks op b = false := by
  cases b <;> first
    | rfl
    | exact Bool.noConfusion (show false = true from h)
theorem plainT_ok {e : Expr} (env : Env) (h : plainT e = true) : ∀ whole, isTrue e env whole = (do let v ← whole; standAt e.pos; holding [v] (truthy v)) := by
  intro whole
  cases e <;> first
    | rfl
    | exact Bool.noConfusion (show false = true from h)
theorem base_ok {eo : Expr} {f : Str} {env : Env} (h : notSuper eo = true) : attributeBase eo f env (eval eo env) = eval eo env := by
  cases eo with
  | Call g args kws pos =>
    cases g with
    | Name x p =>
      have h' : (x == ("super" : Str)) = false := by simpa [notSuper] using h
      cases args with
      | cons _ _ => rfl
      | nil =>
        cases kws with
        | cons _ _ => rfl
        | nil =>
          unfold attributeBase
          simp [bne, h']
    | _ => rfl
  | _ => rfl
theorem seen_ok {x : Str} (h : PD.seen x = true) : (x == ("__debug__" : Str)) = false ∧ (x == ("__classdict__" : Str)) = false ∧ (x == ("__name__" : Str)) = false ∧ (x == ("super" : Str)) = false := by
  obtain ⟨h1, h2⟩ := b2 h
  obtain ⟨h2, h3⟩ := b2 h2
  obtain ⟨h3, h4⟩ := b2 h3
  exact ⟨by simpa using h1, by simpa using h2, by simpa using h3, by simpa using h4⟩
theorem visB_ok {sc : Scope} {x : Str} (h : visB sc x = true) : Vis sc x := by
  unfold visB at h
  split at h
  · exact .inl (by assumption)
  · exact .inr (.inl (by assumption))
  · exact .inr (.inr (by assumption))
  · cases h
theorem glB_ok {X : Cx} {x : Str} (h : glB X.env.scope x = true) : Gl X x := by
  unfold glB at h
  split at h
  · assumption
  · cases h
end PD

/-! PD10 -/
set_option Elab.async false
set_option linter.all false
set_option maxRecDepth 100000
set_option maxHeartbeats 4000000
/-! PD: each expression's reading. -/
namespace PD
open PySem PySem.Spec PyProof.Rows L2

section
variable {X : Cx}
theorem pe_of {e : Expr} {t t' : TE} (h : PE X e t) (i : ∀ σ H Q, t' σ H Q → t σ H Q) : PE X e t' := ⟨fun pins s σ H Q I q => h.run pins s σ H Q I (i σ H Q q)⟩
theorem pt_of {e : Expr} {t t' : TT} (h : PT X e t) (i : ∀ σ H Q, t' σ H Q → t σ H Q) : PT X e t' := ⟨fun pins s σ H Q I q => h.run pins s σ H Q I (i σ H Q q)⟩
theorem pw_of {e : Expr} {t t' : TT} (h : PW X e t) (i : ∀ σ H Q, t' σ H Q → t σ H Q) : PW X e t' := ⟨fun wh pins s σ H Q I q => h.run wh pins s σ H Q I (i σ H Q q)⟩
theorem pa_of {es : List Expr} {t t' : TA} (h : PA X es t) (i : ∀ σ H Q, t' σ H Q → t σ H Q) : PA X es t' := ⟨fun pos pins s σ H Q I q => h.run pos pins s σ H Q I (i σ H Q q)⟩
theorem pi_of {tg e : Expr} {t t' : TI} (h : PI X tg e t) (i : ∀ σ H R, t' σ H R → t σ H R) : PI X tg e t' := ⟨fun pins s σ H R I q => h.run pins s σ H R I (i σ H R q)⟩
end

section
variable {B : Bs} {W : WX} {σ : L2.St} {H : Hp} {Q : VK}
theorem tE_two {ca cb : Slots → Store → Res Val} {k : Val → Val → Store → Res Val} {r : R2}
    (hr : ∀ g H ρ st x y v w, ER B g H σ ρ st → ValR B.R B.ex g.F g.A x v → ValR B.R B.ex g.F g.A y w → Pst B W g H σ ρ (k v w st) (kV B Q) → r x y H Q)
    (h : tE B W (fun ρ st => (ca ρ st).bind fun x st => (cb ρ st).bind fun y st => k x y st) σ H Q) : tOp r (tE B W ca) (tE B W cb) σ H Q := by
  obtain ⟨g, ρ, st, e, p⟩ := h
  refine ⟨g, ρ, st, e, p.bind.imp fun v st1 g1 H1 e1 s1 p1 x rx => ?_⟩
  exact ⟨g1, ρ, st1, e1, p1.bind.imp fun w st2 g2 H2 e2 s2 p2 y ry => hr g2 H2 ρ st2 x y v w e2 (rx.up s2.le) ry p2⟩
theorem tE_one {ca : Slots → Store → Res Val} {k : Val → Store → Res Val} {r : V → Hp → Prop}
    (hr : ∀ g H ρ st x v, ER B g H σ ρ st → ValR B.R B.ex g.F g.A x v → Pst B W g H σ ρ (k v st) (kV B Q) → r x H)
    (h : tE B W (fun ρ st => (ca ρ st).bind fun x st => k x st) σ H Q) : tE B W ca σ H r := by
  obtain ⟨g, ρ, st, e, p⟩ := h
  exact ⟨g, ρ, st, e, p.bind.imp fun v st1 g1 H1 e1 s1 p1 x rx => hr g1 H1 ρ st1 x v e1 rx p1⟩
theorem tA_one {ca : Slots → Store → Res (List Val)} {k : List Val → Store → Res Val} {r : List V → Hp → Prop}
    (hr : ∀ g H ρ st xs vs, ER B g H σ ρ st → ValsR B.R B.ex g.F g.A xs vs → Pst B W g H σ ρ (k vs st) (kV B Q) → r xs H)
    (h : tE B W (fun ρ st => (ca ρ st).bind fun x st => k x st) σ H Q) : tA' B W ca σ H r := by
  obtain ⟨g, ρ, st, e, p⟩ := h
  exact ⟨g, ρ, st, e, p.bind.imp fun v st1 g1 H1 e1 s1 p1 x rx => hr g1 H1 ρ st1 x v e1 rx p1⟩
theorem ValR.bl {R : RC} {E : ExH} {F : Hp} {A : List Addr} {x : V} {b : Bool} (h : ValR R E F A x (.fz (.bl b))) : x = .bl b := by
  cases (show Rep R F x (.bl b) from h); rfl
/-- a value that is a bool, as a test -/
theorem tT_tB {c : Slots → Store → Res Val} {Q : Bool → Hp → Prop} (h : tT B W c σ H Q) : tB (tE B W c) σ H Q := by
  obtain ⟨g, ρ, st, e, p⟩ := h
  exact ⟨g, ρ, st, e, p.imp fun v st1 g1 H1 e1 s1 ⟨b, hb, q⟩ x rx => by subst hb; exact ⟨b, rx.bl, q⟩⟩
theorem tT_two {ca cb : Slots → Store → Res Val} {k : Val → Val → Store → Res Val} {r : R2} {Q : Bool → Hp → Prop}
    (hr : ∀ g H ρ st x y v w, ER B g H σ ρ st → ValR B.R B.ex g.F g.A x v → ValR B.R B.ex g.F g.A y w → Pst B W g H σ ρ (k v w st) (fun v _ _ H' => ∃ b, v = .fz (.bl b) ∧ Q b H') → r x y H (fun x H1 => ∃ c, x = .bl c ∧ Q c H1))
    (h : tT B W (fun ρ st => (ca ρ st).bind fun x st => (cb ρ st).bind fun y st => k x y st) σ H Q) : tB (tOp r (tE B W ca) (tE B W cb)) σ H Q := by
  obtain ⟨g, ρ, st, e, p⟩ := h
  refine ⟨g, ρ, st, e, p.bind.imp fun v st1 g1 H1 e1 s1 p1 x rx => ?_⟩
  exact ⟨g1, ρ, st1, e1, p1.bind.imp fun w st2 g2 H2 e2 s2 p2 y ry => hr g2 H2 ρ st2 x y v w e2 (rx.up s2.le) ry p2⟩
end

def isBool : Expr → Bool
  | .BoolOp _ _ _ => true
  | _ => false
def OK (T : Tab) (G : Gam) (c : Ex) : Prop := ∀ {sc : Scope} {calm : Bool} {B : Bs} {X : Cx} {W : WX}, Cxt T sc calm G B X W → ∀ e : Expr,
  (chk T sc calm c false e = true → PE X e (tE B W (ev G c))) ∧ (chk T sc calm c true e = true → PT X e (tT B W (ev G c)) ∧ (isBool e = true → PW X e (tT B W (ev G c))))
def OKs (T : Tab) (G : Gam) (c : Exs) : Prop := ∀ {sc : Scope} {calm : Bool} {B : Bs} {X : Cx} {W : WX}, Cxt T sc calm G B X W → ∀ es : List Expr, chks T sc calm c es = true → PA X es (tA' B W (evs G c))

section
variable {T : Tab} {G : Gam}
/-- one that is read alike as a value and as a test -/
theorem ok_gen {c : Ex} (hv : ∀ {sc : Scope} {calm : Bool} {B : Bs} {X : Cx} {W : WX}, Cxt T sc calm G B X W → ∀ (m : Bool) (e : Expr), chk T sc calm c m e = true → PE X e (tE B W (ev G c)) ∧ (m = true → plainT e = true)) : OK T G c := by
  intro sc calm B X W C e
  refine ⟨fun h => (hv C false e h).1, fun h => ?_⟩
  obtain ⟨h1, h2⟩ := hv C true e h
  have h3 := h2 rfl
  refine ⟨pt_of (pt_val h1 (plainT_ok _ h3)) fun σ H Q q => tT_tB q, fun z => ?_⟩
  cases e <;> first
    | exact Bool.noConfusion (show false = true from z)
    | exact Bool.noConfusion (show false = true from h3)
/-- one that is never a test -/
theorem ok_val {c : Ex} (hv : ∀ {sc : Scope} {calm : Bool} {B : Bs} {X : Cx} {W : WX}, Cxt T sc calm G B X W → ∀ (m : Bool) (e : Expr), chk T sc calm c m e = true → m = false ∧ PE X e (tE B W (ev G c))) : OK T G c := by
  intro sc calm B X W C e
  exact ⟨fun h => (hv C false e h).2, fun h => Bool.noConfusion (hv C true e h).1⟩

theorem ok_var (i : Nat) : OK T G (.var i) := ok_gen fun {sc calm B X W} C m e h => by
  obtain ⟨x, pos, rfl, h1, h2, h3⟩ := chk_var h
  obtain ⟨n1, n2, _, _⟩ := seen_ok h3
  refine ⟨pe_of (pe_var (i := i) (by rw [C.N]; exact h1) (C.vis h2) n1 n2) fun σ H Q q => ?_, fun _ => rfl⟩
  obtain ⟨g, ρ, st, er, p⟩ := q
  have p' : Pst B W g H σ ρ (match ρ[i]? with | some (some v) => Res.ok v st | _ => .stuck) (kV B Q) := p
  cases q : ρ[i]? with
  | none => rw [q] at p'; exact p'.elim
  | some o =>
    cases o with
    | none => rw [q] at p'; exact p'.elim
    | some v =>
      rw [q] at p'
      have hi : i < σ.length := by
        rw [er.slen]; exact (List.getElem?_eq_some_iff.mp q).1
      obtain ⟨x, e1, r⟩ := er.slots i _ _ (List.getElem?_eq_getElem hi) q
      exact ⟨x, by rw [List.getElem?_eq_getElem hi, e1], p'.ok er x r⟩
theorem ok_lit (d : D) : OK T G (.lit d) := ok_gen fun {sc calm B X W} C m e h => by
  obtain ⟨c, k, pos, rfl, h1⟩ := chk_lit h
  refine ⟨?_, fun _ => rfl⟩
  have fin : ∀ {x : V}, (∀ F, Rep B.R F x d) → ∀ σ H Q, tE B W (ev G (.lit d)) σ H Q → tC x σ H Q := fun {x} hx σ H Q ⟨g, ρ, st, er, p⟩ => Pst.ok (show Pst B W g H σ ρ (.ok (.fz d) st) (kV B Q) from p) er x (hx _)
  cases d <;> cases c <;> first
    | exact Bool.noConfusion (show false = true from h1)
    | skip
  · exact pe_of pe_non (fin fun _ => .non)
  · have : _ = _ := eq_of_beq (show (_ == _) = true from h1)
    subst this
    exact pe_of pe_bl (fin fun _ => .bl _)
  · have : _ = _ := of_decide_eq_true (show decide _ = true from h1)
    subst this
    exact pe_of pe_int (fin fun _ => .int _)
  · have : _ = _ := of_decide_eq_true (show decide _ = true from h1)
    subst this
    exact pe_of pe_str (fin fun _ => .str _)
theorem ok_glo (j : Nat) : OK T G (.glo j) := ok_gen fun {sc calm B X W} C m e h => by
  obtain ⟨x, pos, rfl, h1, h2, h3⟩ := chk_glo h
  obtain ⟨n1, _, _, _⟩ := seen_ok h3
  refine ⟨?_, fun _ => rfl⟩
  cases q : G.con[j]? with
  | none => exact ⟨fun pins s σ H Q I ⟨g, ρ, st, er, p⟩ => by
      have p' : Pst B W g H σ ρ (pick G.con[j]? fun d => Res.ok (.fz d) st) (kV B Q) := p
      rw [q] at p'; exact p'.elim⟩
  | some d =>
    obtain ⟨v, u, hm, ru, rep⟩ := C.con j d x q h1
    refine pe_of (pe_glob (C.glob h2) hm ru n1) fun σ H Q ⟨g, ρ, st, er, p⟩ => ?_
    have p' : Pst B W g H σ ρ (pick G.con[j]? fun d => Res.ok (.fz d) st) (kV B Q) := p
    rw [q] at p'
    exact Pst.ok (show Pst B W g H σ ρ (.ok (.fz d) st) (kV B Q) from p') er v (rep _)
theorem ok_bin (o : Bop) {a b : Ex} (ha : OK T G a) (hb : OK T G b) : OK T G (.bin o a b) := ok_gen fun {sc calm B X W} C m e h => by
  obtain ⟨ea, eb, pos, rfl, h1, h2⟩ := chk_bin h
  refine ⟨pe_of (pe_op (bop_ok o) ((ha C ea).1 h1) ((hb C eb).1 h2)) fun σ H Q q => ?_, fun _ => rfl⟩
  refine tE_two (k := fun x y st => pick (dr st x) fun dx => pick (dr st y) fun dy => opRes (bopS o dx dy) st) (fun g H ρ st x y v w er rx ry p => ?_) q
  obtain ⟨dx, e1, p⟩ := p.pick
  obtain ⟨dy, e2, p⟩ := p.pick
  rw [C.K]
  exact bop_pst er o (er.rd rx e1) (er.rd ry e2) p
theorem ok_cmp (o : Cop) {a b : Ex} (ha : OK T G a) (hb : OK T G b) : OK T G (.cmp o a b) := by
  intro sc calm B X W C e
  refine ⟨fun h => ?_, fun h => ?_⟩
  · obtain ⟨ea, eb, pos, rfl, h0, h1, h2⟩ := chk_cmp h
    refine pe_of (pe_cmpR (cop_ok C.units o) ((ha C ea).1 h1) ((hb C eb).1 h2) (marks_ok h0)) fun σ H Q q => ?_
    refine tE_two (k := fun x y st => pick (dr st x) fun dx => pick (dr st y) fun dy => pick (cmpS o dx dy) fun r => .ok (.fz (.bl r)) st) (fun g H ρ st x y v w er rx ry p => ?_) q
    obtain ⟨dx, e1, p⟩ := p.pick
    obtain ⟨dy, e2, p⟩ := p.pick
    obtain ⟨r, e3, p⟩ := p.pick
    rw [C.K]
    exact cop_pst er o (er.rd rx e1) (er.rd ry e2) e3 (p.same er (.bl r))
  · obtain ⟨ea, eb, pos, rfl, h0, h1, h2⟩ := chk_cmp h
    refine ⟨pt_of (pt_cmpR (cop_ok C.units o) ((ha C ea).1 h1) ((hb C eb).1 h2) (marks_ok h0)) fun σ H Q q => ?_, fun z => Bool.noConfusion (show false = true from z)⟩
    refine tT_two (k := fun x y st => pick (dr st x) fun dx => pick (dr st y) fun dy => pick (cmpS o dx dy) fun r => .ok (.fz (.bl r)) st) (fun g H ρ st x y v w er rx ry p => ?_) q
    obtain ⟨dx, e1, p⟩ := p.pick
    obtain ⟨dy, e2, p⟩ := p.pick
    obtain ⟨r, e3, p⟩ := p.pick
    rw [C.K]
    refine cop_pst er o (er.rd rx e1) (er.rd ry e2) e3 ⟨r, rfl, ?_⟩
    obtain ⟨b, hb, q⟩ := p.ok er
    cases hb
    exact q
theorem ok_chain (o o' : Cop) {a b c : Ex} (ha : OK T G a) (hb : OK T G b) (hc : OK T G c) : OK T G (.chain o o' a b c) := by
  have key : ∀ {B : Bs} {W : WX} {σ : L2.St} {H : Hp} {k : Val → Store → Gh → Hp → Prop} {Q : VK} (_ : ∀ g H ρ st r, ER B g H σ ρ st → k (Val.fz (D.bl r)) st g H → Q (.bl r) H),
      (∃ g ρ st, ER B g H σ ρ st ∧ Pst B W g H σ ρ (ev G (.chain o o' a b c) ρ st) k) → tChain (copR B.R.K o) (copR B.R.K o') (tE B W (ev G a)) (tE B W (ev G b)) (tE B W (ev G c)) σ H Q := by
    intro B W σ H k Q hk ⟨g, ρ, st, er, p⟩
    have p' : Pst B W g H σ ρ ((ev G a ρ st).bind fun x st => (ev G b ρ st).bind fun y st => pick (dr st x) fun dx => pick (dr st y) fun dy => pick (cmpS o dx dy) fun r =>
      if r then (ev G c ρ st).bind fun z st => pick (dr st y) fun dy => pick (dr st z) fun dz => pick (cmpS o' dy dz) fun r => Res.ok (Val.fz (D.bl r)) st else Res.ok (Val.fz (D.bl false)) st) k := p
    refine ⟨g, ρ, st, er, p'.bind.imp fun v st1 g1 H1 e1 s1 p1 x rx => ?_⟩
    refine ⟨g1, ρ, st1, e1, p1.bind.imp fun w st2 g2 H2 e2 s2 p2 y ry => ?_⟩
    obtain ⟨dx, q1, p2⟩ := p2.pick
    obtain ⟨dy, q2, p2⟩ := p2.pick
    obtain ⟨r, q3, p2⟩ := p2.pick
    refine cop_pst e2 o (e2.rd (rx.up s2.le) q1) (e2.rd ry q2) q3 ⟨r, rfl, ?_⟩
    cases r with
    | false => exact hk g2 H2 ρ st2 false e2 (p2.ok e2)
    | true =>
      have p2' : Pst B W g2 H2 σ ρ ((ev G c ρ st2).bind fun z st => pick (dr st w) fun dy => pick (dr st z) fun dz => pick (cmpS o' dy dz) fun r => Res.ok (Val.fz (D.bl r)) st) k := p2
      refine ⟨g2, ρ, st2, e2, p2'.bind.imp fun z st3 g3 H3 e3 s3 p3 zz rz => ?_⟩
      obtain ⟨dy', q4, p3⟩ := p3.pick
      obtain ⟨dz, q5, p3⟩ := p3.pick
      obtain ⟨r', q6, p3⟩ := p3.pick
      exact cop_pst e3 o' (e3.rd (ry.up s3.le) q4) (e3.rd rz q5) q6 (hk g3 H3 ρ st3 r' e3 (p3.ok e3))
  intro sc calm B X W C e
  refine ⟨fun h => ?_, fun h => ?_⟩
  · obtain ⟨ea, eb, ec, pos, rfl, h0, h0', h1, h2, h3⟩ := chk_chain h
    have ho := cop_ok C.units o
    have ho' := cop_ok C.units o'
    rw [C.K] at ho ho'
    refine pe_of (pe_chain ho ho' ((ha C ea).1 h1) ((hb C eb).1 h2) ((hc C ec).1 h3) (marks_ok h0')) fun σ H Q q => key (k := kV B Q) (fun g H ρ st r er q => ?_) q
    exact q _ (show Rep B.R g.F _ (.bl r) from .bl r)
  · obtain ⟨ea, eb, ec, pos, rfl, h0, h0', h1, h2, h3⟩ := chk_chain h
    have ho := cop_ok C.units o
    have ho' := cop_ok C.units o'
    rw [C.K] at ho ho'
    refine ⟨pt_of (pt_chain ho ho' ((ha C ea).1 h1) ((hb C eb).1 h2) ((hc C ec).1 h3) (marks_ok h0')) fun σ H Q q => key (fun g H ρ st r er q => ?_) q, fun z => Bool.noConfusion (show false = true from z)⟩
    obtain ⟨b, hb, q⟩ := q
    cases hb
    exact ⟨_, rfl, q⟩
end
end PD

/-! PD11 -/
set_option Elab.async false
set_option linter.all false
set_option maxRecDepth 100000
set_option maxHeartbeats 4000000
/-! PD: each expression's reading, further. -/
namespace PD
open PySem PySem.Spec PyProof.Rows L2
section
variable {T : Tab} {G : Gam}
theorem ok_neg {a : Ex} (ha : OK T G a) : OK T G (.neg a) := ok_val fun {sc calm B X W} C m e h => by
  obtain ⟨ea, pos, rfl, hm, h1⟩ := chk_neg h
  refine ⟨hm, pe_of (pe_un un_neg ((ha C ea).1 h1)) fun σ H Q q => ?_⟩
  refine tE_one (k := fun x st => match x with | .fz (.int i) => .ok (.fz (.int (-i))) st | _ => .stuck) (fun g H ρ st x v er rx p => ?_) q
  split at p
  · cases (show Rep B.R g.F x (.int _) from rx)
    exact ⟨_, rfl, Pst.same p er (.int _)⟩
  · exact p.elim
/-- a bool's two ways -/
theorem pst_bool {B : Bs} {W : WX} {g : Gh} {H : Hp} {σ : L2.St} {ρ : Slots} {β : Type} {x : Val} {kt kf : Res β} {k : β → Store → Gh → Hp → Prop}
    (p : Pst B W g H σ ρ (match x with | .fz (.bl true) => kt | .fz (.bl false) => kf | _ => .stuck) k) : (x = .fz (.bl true) ∧ Pst B W g H σ ρ kt k) ∨ (x = .fz (.bl false) ∧ Pst B W g H σ ρ kf k) := by
  split at p
  · exact .inl ⟨rfl, p⟩
  · exact .inr ⟨rfl, p⟩
  · exact p.elim
theorem ok_not {a : Ex} (ha : OK T G a) : OK T G (.not_ a) := by
  intro sc calm B X W C e
  refine ⟨fun h => ?_, fun h => ?_⟩
  · obtain ⟨ea, pos, rfl, h1⟩ := chk_not h
    refine pe_of (pe_not ((ha C ea).1 h1)) fun σ H Q q => ?_
    refine tE_one (k := fun x st => match x with | .fz (.bl b) => .ok (.fz (.bl (!b))) st | _ => .stuck) (fun g H ρ st x v er rx p => ?_) q
    split at p
    · obtain rfl := rx.bl
      exact ⟨_, rfl, Pst.same p er (.bl _)⟩
    · exact p.elim
  · obtain ⟨ea, pos, rfl, h1⟩ := chk_not h
    refine ⟨pt_of (pt_not ((ha C ea).2 h1).1) fun σ H Q q => ?_, fun z => Bool.noConfusion (show false = true from z)⟩
    obtain ⟨g, ρ, st, er, p⟩ := q
    have p' : Pst B W g H σ ρ ((ev G a ρ st).bind fun x st => match x with | .fz (.bl b) => Res.ok (Val.fz (D.bl (!b))) st | _ => .stuck) (fun v _ _ H' => ∃ b, v = .fz (.bl b) ∧ Q b H') := p
    refine ⟨g, ρ, st, er, p'.bind.imp fun v st1 g1 H1 e1 s1 p1 => ?_⟩
    split at p1
    · rename_i b
      obtain ⟨b', hb, q⟩ := p1.ok e1
      cases hb
      exact ⟨b, rfl, q⟩
    · exact p1.elim
theorem ok_and {a b : Ex} (ha : OK T G a) (hb : OK T G b) : OK T G (.and_ a b) := by
  intro sc calm B X W C e
  refine ⟨fun h => ?_, fun h => ?_⟩
  · obtain ⟨ea, eb, rest, pos, rfl, h1, h2⟩ := chk_and h
    have hB : PE X (.BoolOp .And (eb :: rest) pos) (tE B W (ev G b)) := by
      rcases h2 with ⟨rfl, h2⟩ | ⟨_, h2⟩
      · exact pe_one ((hb C eb).1 h2)
      · exact (hb C _).1 h2
    refine pe_of (pe_and ((ha C ea).1 h1) hB) fun σ H Q q => ?_
    obtain ⟨g, ρ, st, er, p⟩ := q
    have p' : Pst B W g H σ ρ ((ev G a ρ st).bind fun x st => match x with | .fz (.bl true) => ev G b ρ st | .fz (.bl false) => Res.ok (Val.fz (D.bl false)) st | _ => .stuck) (kV B Q) := p
    refine ⟨g, ρ, st, er, p'.bind.imp fun v st1 g1 H1 e1 s1 p1 x rx => ?_⟩
    rcases pst_bool p1 with ⟨rfl, p2⟩ | ⟨rfl, p2⟩
    · exact ⟨true, rx.bl, ⟨g1, ρ, st1, e1, p2⟩⟩
    · exact ⟨false, rx.bl, p2.same e1 (.bl _)⟩
  · obtain ⟨ea, eb, rest, pos, rfl, h1, h2⟩ := chk_and h
    have hB : PW X (.BoolOp .And (eb :: rest) pos) (tT B W (ev G b)) := by
      rcases h2 with ⟨rfl, h2⟩ | ⟨_, h2⟩
      · exact pw_and1 ((hb C eb).2 h2).1
      · exact ((hb C _).2 h2).2 rfl
    have hw : PW X (.BoolOp .And (ea :: eb :: rest) pos) (tT B W (ev G (.and_ a b))) := pw_of (pw_and ((ha C ea).2 h1).1 hB) fun σ H Q q => by
      obtain ⟨g, ρ, st, er, p⟩ := q
      have p' : Pst B W g H σ ρ ((ev G a ρ st).bind fun x st => match x with | .fz (.bl true) => ev G b ρ st | .fz (.bl false) => Res.ok (Val.fz (D.bl false)) st | _ => .stuck) (fun v _ _ H' => ∃ b, v = .fz (.bl b) ∧ Q b H') := p
      refine ⟨g, ρ, st, er, p'.bind.imp fun v st1 g1 H1 e1 s1 p1 => ?_⟩
      rcases pst_bool p1 with ⟨rfl, p2⟩ | ⟨rfl, p2⟩
      · exact ⟨true, rfl, ⟨g1, ρ, st1, e1, p2⟩⟩
      · obtain ⟨b', hb', q⟩ := p2.ok e1
        cases hb'
        exact ⟨false, rfl, q⟩
    exact ⟨hw.pt, fun _ => hw⟩
theorem ok_or {a b : Ex} (ha : OK T G a) (hb : OK T G b) : OK T G (.or_ a b) := by
  intro sc calm B X W C e
  refine ⟨fun h => ?_, fun h => ?_⟩
  · obtain ⟨ea, eb, rest, pos, rfl, h1, h2⟩ := chk_or h
    have hB : PE X (.BoolOp .Or (eb :: rest) pos) (tE B W (ev G b)) := by
      rcases h2 with ⟨rfl, h2⟩ | ⟨_, h2⟩
      · exact pe_one ((hb C eb).1 h2)
      · exact (hb C _).1 h2
    refine pe_of (pe_or ((ha C ea).1 h1) hB) fun σ H Q q => ?_
    obtain ⟨g, ρ, st, er, p⟩ := q
    have p' : Pst B W g H σ ρ ((ev G a ρ st).bind fun x st => match x with | .fz (.bl true) => Res.ok (Val.fz (D.bl true)) st | .fz (.bl false) => ev G b ρ st | _ => .stuck) (kV B Q) := p
    refine ⟨g, ρ, st, er, p'.bind.imp fun v st1 g1 H1 e1 s1 p1 x rx => ?_⟩
    rcases pst_bool p1 with ⟨rfl, p2⟩ | ⟨rfl, p2⟩
    · exact ⟨true, rx.bl, p2.same e1 (.bl _)⟩
    · exact ⟨false, rx.bl, ⟨g1, ρ, st1, e1, p2⟩⟩
  · obtain ⟨ea, eb, rest, pos, rfl, h1, h2⟩ := chk_or h
    have hB : PW X (.BoolOp .Or (eb :: rest) pos) (tT B W (ev G b)) := by
      rcases h2 with ⟨rfl, h2⟩ | ⟨_, h2⟩
      · exact pw_or1 ((hb C eb).2 h2).1
      · exact ((hb C _).2 h2).2 rfl
    have hw : PW X (.BoolOp .Or (ea :: eb :: rest) pos) (tT B W (ev G (.or_ a b))) := pw_of (pw_or ((ha C ea).2 h1).1 hB) fun σ H Q q => by
      obtain ⟨g, ρ, st, er, p⟩ := q
      have p' : Pst B W g H σ ρ ((ev G a ρ st).bind fun x st => match x with | .fz (.bl true) => Res.ok (Val.fz (D.bl true)) st | .fz (.bl false) => ev G b ρ st | _ => .stuck) (fun v _ _ H' => ∃ b, v = .fz (.bl b) ∧ Q b H') := p
      refine ⟨g, ρ, st, er, p'.bind.imp fun v st1 g1 H1 e1 s1 p1 => ?_⟩
      rcases pst_bool p1 with ⟨rfl, p2⟩ | ⟨rfl, p2⟩
      · obtain ⟨b', hb', q⟩ := p2.ok e1
        cases hb'
        exact ⟨true, rfl, q⟩
      · exact ⟨false, rfl, ⟨g1, ρ, st1, e1, p2⟩⟩
    exact ⟨hw.pt, fun _ => hw⟩
theorem ok_ife {c a b : Ex} (hc : OK T G c) (ha : OK T G a) (hb : OK T G b) : OK T G (.ife c a b) := ok_val fun {sc calm B X W} C m e h => by
  obtain ⟨ec, ea, eb, pos, rfl, hm, h1, h2, h3⟩ := chk_ife h
  refine ⟨hm, pe_of (pe_ifExp ((hc C ec).2 h1).1 ((ha C ea).1 h2) ((hb C eb).1 h3)) fun σ H Q q => ?_⟩
  obtain ⟨g, ρ, st, er, p⟩ := q
  have p' : Pst B W g H σ ρ ((ev G c ρ st).bind fun x st => match x with | .fz (.bl true) => ev G a ρ st | .fz (.bl false) => ev G b ρ st | _ => .stuck) (kV B Q) := p
  refine ⟨g, ρ, st, er, p'.bind.imp fun v st1 g1 H1 e1 s1 p1 => ?_⟩
  rcases pst_bool p1 with ⟨rfl, p2⟩ | ⟨rfl, p2⟩
  · exact ⟨true, rfl, iteT ⟨g1, ρ, st1, e1, p2⟩⟩
  · exact ⟨false, rfl, iteF ⟨g1, ρ, st1, e1, p2⟩⟩
theorem ok_tru {a : Ex} (ha : OK T G a) : OK T G (.tru a) := by
  intro sc calm B X W C e
  refine ⟨fun h => Bool.noConfusion (chk_tru h).1, fun h => ?_⟩
  obtain ⟨_, h1, h2⟩ := chk_tru h
  refine ⟨pt_of (pt_truth ((ha C e).1 h2) (plainT_ok _ h1)) fun σ H Q q => ?_, fun z => ?_⟩
  · obtain ⟨g, ρ, st, er, p⟩ := q
    have p' : Pst B W g H σ ρ ((ev G a ρ st).bind fun x st => pick (dr st x) fun d => pick (truS d) fun r => Res.ok (Val.fz (D.bl r)) st) (fun v _ _ H' => ∃ b, v = .fz (.bl b) ∧ Q b H') := p
    refine ⟨g, ρ, st, er, p'.bind.imp fun v st1 g1 H1 e1 s1 p1 x rx => ?_⟩
    obtain ⟨d, q1, p1⟩ := p1.pick
    obtain ⟨r, q2, p1⟩ := p1.pick
    obtain ⟨b', hb', q⟩ := p1.ok e1
    cases hb'
    rw [C.K]
    exact ⟨r, tru_pst e1.le (e1.rd rx q1) q2, q⟩
  · cases e <;> first
      | exact Bool.noConfusion (show false = true from z)
      | exact Bool.noConfusion (show false = true from h1)
theorem ok_nil : OKs T G .nil := by
  intro sc calm B X W C es h
  cases es with
  | cons _ _ => exact Bool.noConfusion (show false = true from h)
  | nil => exact pa_of pa_nil fun σ H Q ⟨g, ρ, st, er, p⟩ => (Pst.ok (show Pst B W g H σ ρ (.ok [] st) _ from p) er) [] .nil
theorem ok_cons {a : Ex} {as : Exs} (ha : OK T G a) (hs : OKs T G as) : OKs T G (.cons a as) := by
  intro sc calm B X W C es h
  cases es with
  | nil => exact Bool.noConfusion (show false = true from h)
  | cons ee ees =>
    obtain ⟨a', as', e1, h1, h2, h3⟩ := chks_cons h
    cases e1
    refine pa_of (pa_cons ((ha C ee).1 h2) (hs C ees h3) (star_ok h1)) fun σ H Q ⟨g, ρ, st, er, p⟩ => ?_
    have p' : Pst B W g H σ ρ ((ev G a ρ st).bind fun v st => (evs G as ρ st).bind fun vs st => Res.ok (v :: vs) st) (fun vs _ g' H' => ∀ xs, ValsR B.R B.ex g'.F g'.A xs vs → Q xs H') := p
    refine ⟨g, ρ, st, er, p'.bind.imp fun v st1 g1 H1 e1 s1 p1 x rx => ?_⟩
    exact ⟨g1, ρ, st1, e1, p1.bind.imp fun vs st2 g2 H2 e2 s2 p2 xs rxs => p2.ok e2 (x :: xs) (.cons (rx.up s2.le) rxs)⟩
theorem pst_if {B : Bs} {W : WX} {g : Gh} {H : Hp} {σ : L2.St} {ρ : Slots} {β : Type} {c : Prop} [Decidable c] {r : Res β} {k : β → Store → Gh → Hp → Prop} (p : Pst B W g H σ ρ (if c then r else .stuck) k) : c ∧ Pst B W g H σ ρ r k := by
  by_cases h : c
  · rw [if_pos h] at p; exact ⟨h, p⟩
  · rw [if_neg h] at p; exact p.elim
/-- what is handed on, then -/
theorem pst_frs {B : Bs} {W : WX} {g : Gh} {H : Hp} {σ : L2.St} {ρ : Slots} {st : Store} {β : Type} {vs : List Val} {xs : List V} {f : List D → Store → Res β} {k : β → Store → Gh → Hp → Prop} (e : ER B g H σ ρ st) (r : ValsR B.R B.ex g.F g.A xs vs)
    (p : Pst B W g H σ ρ ((frs B.io.length vs st).bind f) k) : ∃ ds st' F', ER B ⟨F', g.A⟩ H σ ρ st' ∧ Step g H ⟨F', g.A⟩ H ∧ RepL B.R F' xs ds ∧ Pst B W ⟨F', g.A⟩ H σ ρ (f ds st') k := by
  cases q : frs B.io.length vs st with
  | stuck => rw [q] at p; exact p.elim
  | exc x st1 => exact (frs_no_exc q).elim
  | ok ds st' =>
    obtain ⟨F', e', s', r'⟩ := e.frs r q
    have p2 := p.bind
    rw [q] at p2
    exact ⟨ds, st', F', e', s', r', p2 _ _ e' s'⟩
theorem pst_fr {B : Bs} {W : WX} {g : Gh} {H : Hp} {σ : L2.St} {ρ : Slots} {st : Store} {β : Type} {v : Val} {x : V} {f : D → Store → Res β} {k : β → Store → Gh → Hp → Prop} (e : ER B g H σ ρ st) (r : ValR B.R B.ex g.F g.A x v)
    (p : Pst B W g H σ ρ ((fr B.io.length v st).bind f) k) : ∃ d st' F', ER B ⟨F', g.A⟩ H σ ρ st' ∧ Step g H ⟨F', g.A⟩ H ∧ Rep B.R F' x d ∧ Pst B W ⟨F', g.A⟩ H σ ρ (f d st') k := by
  cases q : fr B.io.length v st with
  | stuck => rw [q] at p; exact p.elim
  | exc x st1 => exact (fr_no_exc q).elim
  | ok ds st' =>
    obtain ⟨F', e', s', r'⟩ := e.fr r q
    have p2 := p.bind
    rw [q] at p2
    exact ⟨ds, st', F', e', s', r', p2 _ _ e' s'⟩
theorem ok_tup {es : Exs} (hs : OKs T G es) : OK T G (.tup es) := ok_val fun {sc calm B X W} C m e h => by
  obtain ⟨ees, k, pos, rfl, hm, h1⟩ := chk_tup h
  refine ⟨hm, pe_of (pe_tup (hs C ees h1)) fun σ H Q q => ?_⟩
  refine tA_one (k := fun vs st => (frs G.io vs st).bind fun ds st => if ds.length ≤ LIM then .ok (.fz (.tup ds)) st else .stuck) (fun g H ρ st xs vs er rx p => ?_) q
  rw [C.io] at p
  obtain ⟨ds, st', F', e', s', r', p'⟩ := pst_frs er rx p
  obtain ⟨hz, p'⟩ := pst_if p'
  refine ⟨?_, fun a ha => p'.newt e' r' ha⟩
  rw [r'.length, ← lim_eq]; exact hz
theorem ok_lst {es : Exs} (hs : OKs T G es) : OK T G (.lst es) := ok_val fun {sc calm B X W} C m e h => by
  obtain ⟨ees, pos, rfl, hm, h1⟩ := chk_lst h
  refine ⟨hm, pe_of (pe_lst (hs C ees h1)) fun σ H Q q => ?_⟩
  refine tA_one (k := fun vs st => (frs G.io vs st).bind fun ds st => if ds.length ≤ LIM then Res.ok (Val.loc (List.length (α := Cont) st)) (st ++ [Cont.lst ds]) else .stuck) (fun g H ρ st xs vs er rx p => ?_) q
  rw [C.io] at p
  obtain ⟨ds, st', F', e', s', r', p'⟩ := pst_frs er rx p
  obtain ⟨hz, p'⟩ := pst_if p'
  refine ⟨?_, fun a ha => p'.newl e' r' ha⟩
  rw [r'.length, ← lim_eq]; exact hz
theorem ok_idx {a i : Ex} (ha : OK T G a) (hi : OK T G i) : OK T G (.idx a i) := ok_gen fun {sc calm B X W} C m e h => by
  obtain ⟨ea, ei, pos, rfl, h0, h1, h2⟩ := chk_idx h
  refine ⟨pe_of (pe_ix ix_seq ((ha C ea).1 h1) ((hi C ei).1 h2) (plainIx_ok h0)) fun σ H Q q => ?_, fun _ => rfl⟩
  refine tE_two (k := fun x y st => pick (dr st x) fun dx => pick (dr st y) fun dy => pick (idxS dx dy) fun d => .ok (.fz d) st) (fun g H ρ st x y v w er rx ry p => ?_) q
  obtain ⟨dx, e1, p⟩ := p.pick
  obtain ⟨dy, e2, p⟩ := p.pick
  obtain ⟨d, e3, p⟩ := p.pick
  rw [C.K]
  exact idx_pst er (er.rd rx e1) (er.rd ry e2) e3 fun z rz => p.same er rz
/-- a slice's part -/
def tO (B : Bs) (W : WX) (G : Gam) (lo : Ex) : TO := fun σ H R => ∃ g ρ st, ER B g H σ ρ st ∧ Pst B W g H σ ρ ((ev G lo ρ st).bind fun l st => pick (bndV lo.isNone l) fun b => .ok b st) fun b _ _ H' => R b H'
theorem po_of {X : Cx} {e : Option Expr} {t t' : TO} (h : PO X e t) (i : ∀ σ H Q, t' σ H Q → t σ H Q) : PO X e t' := ⟨fun pins s σ H Q I q => h.run pins s σ H Q I (i σ H Q q)⟩
theorem po_ok {lo : Ex} (hl : OK T G lo) {sc : Scope} {calm : Bool} {B : Bs} {X : Cx} {W : WX} (C : Cxt T sc calm G B X W) {elo : Option Expr} (h : (elo = none ∧ lo = .none_) ∨ ∃ x, elo = some x ∧ chk T sc calm lo false x = true) : PO X elo (tO B W G lo) := by
  rcases h with ⟨rfl, rfl⟩ | ⟨x, rfl, h⟩
  · exact po_of po_none fun σ H Q ⟨g, ρ, st, er, p⟩ => Pst.ok (show Pst B W g H σ ρ (.ok none st) (fun b _ _ H' => Q b H') from p) er
  · refine po_of (po_some ((hl C x).1 h)) fun σ H Q ⟨g, ρ, st, er, p⟩ => ⟨g, ρ, st, er, p.bind.imp fun v st1 g1 H1 e1 s1 p1 y ry => ?_⟩
    obtain ⟨b, q, p1⟩ := p1.pick
    have hn : lo.isNone = false := by
      cases lo <;> first
        | rfl
        | exact absurd h (chk_false True.intro)
    rw [hn] at q
    cases v with
    | loc n => cases q
    | exn z => cases q
    | fz d =>
      cases d with
      | int i =>
        cases q
        cases (show Rep B.R g1.F y (.int i) from ry)
        exact ⟨i, rfl, p1.ok e1⟩
      | _ => cases q
theorem ok_slc {a lo hi : Ex} (ha : OK T G a) (hl : OK T G lo) (hh : OK T G hi) : OK T G (.slc a lo hi) := ok_val fun {sc calm B X W} C m e h => by
  obtain ⟨ea, elo, ehi, p0, pos, rfl, hm, h1, h2, h3⟩ := chk_slc h
  have sl : L2.SlR X (rSlc B.R.K) := by rw [← C.K]; exact sl_any
  refine ⟨hm, pe_of (pe_slice sl ((ha C ea).1 h1) (po_ok hl C h2) (po_ok hh C h3)) fun σ H Q ⟨g, ρ, st, er, p⟩ => ?_⟩
  have p' : Pst B W g H σ ρ ((ev G a ρ st).bind fun x st => ((ev G lo ρ st).bind fun l st => pick (bndV lo.isNone l) fun b => .ok b st).bind fun bl st =>
      ((ev G hi ρ st).bind fun h st => pick (bndV hi.isNone h) fun b => .ok b st).bind fun bh st => pick (dr st x) fun dx => opRes (slcS dx bl bh) st) (kV B Q) := p
  refine ⟨g, ρ, st, er, p'.bind.imp fun v st1 g1 H1 e1 s1 p1 x rx => ?_⟩
  refine ⟨g1, ρ, st1, e1, p1.bind.imp fun bl st2 g2 H2 e2 s2 p2 => ?_⟩
  refine ⟨g2, ρ, st2, e2, p2.bind.imp fun bh st3 g3 H3 e3 s3 p3 => ?_⟩
  obtain ⟨dx, q, p3⟩ := p3.pick
  exact slc_pst e3 (e3.rd (rx.up (s2.le.trans s3.le)) q) p3
theorem evs_length : ∀ {es : Exs} {ρ : Slots} {st st' : Store} {vs : List Val}, evs G es ρ st = .ok vs st' → vs.length = es.len
  | .nil, ρ, st, st', vs, h => by cases h; rfl
  | .cons a as, ρ, st, st', vs, h => by
    obtain ⟨v, st1, e1, h⟩ := Res.bind_ok (show ((ev G a ρ st).bind fun v st => (evs G as ρ st).bind fun vs st => Res.ok (v :: vs) st) = .ok vs st' from h)
    obtain ⟨vs2, st2, e2, h⟩ := Res.bind_ok h
    cases h
    exact congrArg Nat.succ (evs_length e2)
theorem chks_length {sc : Scope} {calm : Bool} : ∀ {es : Exs} {ees : List Expr}, chks T sc calm es ees = true → ees.length = es.len
  | .nil, [], _ => rfl
  | .nil, _ :: _, h => Bool.noConfusion (show false = true from h)
  | .cons _ _, [], h => Bool.noConfusion (show false = true from h)
  | .cons a as, e :: es, h => congrArg Nat.succ (chks_length (b2 (b2 h).2).2)
theorem ValsR.length {R : RC} {E : ExH} {F : Hp} {A : List Addr} : ∀ {xs : List V} {vs : List Val}, ValsR R E F A xs vs → xs.length = vs.length
  | _, _, .nil => rfl
  | _, _, .cons _ t => congrArg Nat.succ (ValsR.length t)
theorem ok_call (j : Nat) {es : Exs} (hs : OKs T G es) : OK T G (.call j es) := ok_gen fun {sc calm B X W} C m e h => by
  obtain ⟨x, p0, ea, ees, pos, rfl, h1, h2, h3, h4, h5⟩ := chk_call h
  refine ⟨?_, fun _ => rfl⟩
  obtain ⟨n1, _, _, _⟩ := seen_ok h3
  obtain ⟨c1, c2⟩ := C.calm h4
  cases q : G.fns[j]? with
  | none => exact ⟨fun pins s σ H Q I ⟨g, ρ, st, er, p⟩ => by
      have p' : Pst B W g H σ ρ (pick G.fns[j]? fun fi => (evs G es ρ st).bind fun vs st => callS G.io fi vs st) (kV B Q) := p
      rw [q] at p'; exact p'.elim⟩
  | some fi =>
    obtain ⟨f, fd, ps, ds, dvs, hm, hk, hb, hv, F, hn, hd⟩ := C.fns j fi x _ q h1
    have hE := chks_cons h5
    obtain ⟨a, as, _, pl, _, h6⟩ := hE
    have PAs := hs C (ea :: ees) h5
    refine pe_of (pe_callSD F c2 (C.glob h2) hm hk hb hv (fun σ => passAt C.tk σ) PAs n1 (star_ok pl) (stars_ok h6)) fun σ H Q ⟨g, ρ, st, er, p⟩ => ?_
    have p' : Pst B W g H σ ρ (pick G.fns[j]? fun fi => (evs G es ρ st).bind fun vs st => callS G.io fi vs st) (kV B Q) := p
    rw [q] at p'
    have p2 : Pst B W g H σ ρ ((evs G es ρ st).bind fun vs st => callS G.io fi vs st) (kV B Q) := p'
    refine ⟨g, ρ, st, er, p2.bindE.imp fun vs st1 g1 H1 e1 s1 ⟨ee, p3⟩ xs rx => ?_⟩
    rw [C.io] at p3
    refine call_pst e1 rx hd ?_ p3
    rw [rx.length, evs_length ee, ← chks_length h5]
    exact hn
theorem ok_bfn (f : Bfn) {es : Exs} (hs : OKs T G es) : OK T G (.bfn f es) := ok_gen fun {sc calm B X W} C m e h => by
  obtain ⟨p0, ea, ees, pos, rfl, h1, h2, h3, h4⟩ := chk_bfn h
  refine ⟨?_, fun _ => rfl⟩
  obtain ⟨a, as, _, pl, _, h6⟩ := chks_cons h4
  have PAs := hs C (ea :: ees) h4
  have gl : Gl X f.nm := C.glob h1
  have cr := bfn_ok (X := X) f (fun z => (C.calm (h3 z)).1)
  have fin : ∀ σ H Q, tE B W (ev G (.bfn f es)) σ H Q → tCB (bfnR X.K f) (tA' B W (evs G es)) σ H Q := fun σ H Q ⟨g, ρ, st, er, p⟩ => by
    have p2 : Pst B W g H σ ρ ((evs G es ρ st).bind fun vs st => pick (vs.mapM (dr st)) fun ds => opRes (bfnS f ds) st) (kV B Q) := p
    refine ⟨g, ρ, st, er, p2.bind.imp fun vs st1 g1 H1 e1 s1 p3 xs rx => ?_⟩
    obtain ⟨ds, q, p3⟩ := p3.pick
    rw [C.K]
    exact bfn_pst e1 f (e1.rds rx q) p3
  have free : ∀ {x : Str}, T.free.contains x = true → X.mg x = none := fun {x} z => C.free x (List.contains_iff_mem.mp z)
  cases f with
  | gcd => exact pe_of (pe_callBfun cr gl (C.gcd h2) PAs (by decide) (star_ok pl) (stars_ok h6)) fin
  | len => exact pe_of (pe_callB cr gl (free h2) (by decide +kernel) PAs (by decide) (by decide) (star_ok pl) (stars_ok h6)) fin
  | abs => exact pe_of (pe_callB cr gl (free h2) (by decide +kernel) PAs (by decide) (by decide) (star_ok pl) (stars_ok h6)) fin
  | min2 => exact pe_of (pe_callB cr gl (free h2) (by decide +kernel) PAs (by decide) (by decide) (star_ok pl) (stars_ok h6)) fin
  | max2 => exact pe_of (pe_callB cr gl (free h2) (by decide +kernel) PAs (by decide) (by decide) (star_ok pl) (stars_ok h6)) fin
  | int => exact pe_of (pe_callTy cr gl (free h2) (by decide +kernel) PAs (by decide) (by decide) (star_ok pl) (stars_ok h6)) fin
  | tuple => exact pe_of (pe_callTy cr gl (free h2) (by decide +kernel) PAs (by decide) (by decide) (star_ok pl) (stars_ok h6)) fin
  | list => exact pe_of (pe_callTy cr gl (free h2) (by decide +kernel) PAs (by decide) (by decide) (star_ok pl) (stars_ok h6)) fin
theorem ok_bitlen {a : Ex} {es : Exs} (ha : OK T G a) : OK T G (.mth .bitlen a es) := ok_val fun {sc calm B X W} C m e h => by
  obtain ⟨eo, ap, cp, rfl, hm, h1, h2, h3, rfl⟩ := chk_mth h
  refine ⟨hm, pe_of (pe_bits ((ha C eo).1 h3) (base_ok h1) h2) fun σ H Q ⟨g, ρ, st, er, p⟩ => ?_⟩
  have p2 : Pst B W g H σ ρ ((ev G a ρ st).bind fun x st => (evs G .nil ρ st).bind fun vs st => pick (dr st x) fun d => pick (vs.mapM (dr st)) fun ds => opRes (mthS .bitlen d ds) st) (kV B Q) := p
  refine ⟨g, ρ, st, er, p2.bind.imp fun v st1 g1 H1 e1 s1 p3 x rx => ?_⟩
  have p4 : Pst B W g1 H1 σ ρ (pick (dr st1 v) fun d => opRes (mthS .bitlen d []) st1) (kV B Q) := p3
  obtain ⟨d, q, p4⟩ := p4.pick
  have r := e1.rd rx q
  cases d <;> first
    | exact p4.elim
    | skip
  obtain rfl := r.int
  exact ⟨_, rfl, Pst.same p4 e1 (.int _)⟩

/-! ### kinds -/
theorem tyn_boot {x : Str} {n : String} (h : (x, n) ∈ tyNames) : bootBuiltins x = some (.type n) ∧ x ≠ "__name__" ∧ (x == ("__debug__" : Str)) = false := by
  have hh : ∀ p ∈ tyNames, bootBuiltins p.1 = some (.type p.2) ∧ p.1 ≠ "__name__" ∧ (p.1 == ("__debug__" : Str)) = false := by decide +kernel
  exact hh (x, n) h
theorem tyn_ok {sc : Scope} {calm : Bool} {B : Bs} {X : Cx} {W : WX} (C : Cxt T sc calm G B X W) {t : TyN} {et : Expr} (h : tynB T sc t et = true) : ∃ n, t = .ty n ∧ PE X et (tC (.ty n)) := by
  cases t with
  | own c => cases et <;> exact Bool.noConfusion (show false = true from h)
  | ty n =>
    cases et <;> first
      | exact Bool.noConfusion (show false = true from h)
      | skip
    rename_i x p
    obtain ⟨h1, h2⟩ := b2 h
    obtain ⟨h2, h3⟩ := b2 h2
    obtain ⟨b1, b2', b3⟩ := tyn_boot (of_decide_eq_true h1)
    exact ⟨n, rfl, pe_bltn (C.glob h3) (C.free _ (List.contains_iff_mem.mp h2)) b1 rfl b2' b3⟩
theorem isi_kit {R : RC} {d : D} {u : String} {exm : Str → Str → Option Bool} (hu : tyS d = some u) : ∀ {ts : List TyN} {b : Bool}, isiS exm d ts = some b → (∀ t ∈ ts, ∃ n, t = TyN.ty n) → PySem.W.kitAny R.K (.type u) (ts.map fun t => match t with | .ty n => Value.type n | .own _ => .none) = some b
  | [], b, h, _ => h
  | t :: ts, b, h, hn => by
    obtain ⟨n, rfl⟩ := hn t List.mem_cons_self
    have h' : (match (match tyS d with | some u => kitB u n | none => none) with | some true => some true | some false => isiS exm d ts | none => none) = some b := h
    rw [hu] at h'
    show (match PySem.W.kitOne R.K (.type u) (.type n) with | some true => some true | some false => PySem.W.kitAny R.K (.type u) (ts.map _) | none => none) = some b
    have e : PySem.W.kitOne R.K (.type u) (.type n) = kitB u n := rfl
    rw [e]
    cases q : kitB u n with
    | none => simp only [q] at h'; cases h'
    | some c =>
      simp only [q] at h' ⊢
      cases c with
      | true => exact h'
      | false => exact isi_kit hu h' fun t ht => hn t (List.mem_cons_of_mem _ ht)
theorem isi_some {exm : Str → Str → Option Bool} {d : D} {n : String} {ts : List TyN} {b : Bool} (h : isiS exm d (.ty n :: ts) = some b) : ∃ u, tyS d = some u := by
  cases q : tyS d with
  | some u => exact ⟨u, rfl⟩
  | none =>
    have h' : (match (match tyS d with | some u => kitB u n | none => none) with | some true => some true | some false => isiS exm d ts | none => none) = some b := h
    rw [q] at h'
    cases h'
def tynV : TyN → V
  | .ty n => .ty n
  | .own _ => .non
theorem tyns_ok {sc : Scope} {calm : Bool} {B : Bs} {X : Cx} {W : WX} (C : Cxt T sc calm G B X W) : ∀ {ts : List TyN} {ets : List Expr}, tynsB T sc ts ets = true → (∀ t ∈ ts, ∃ n, t = TyN.ty n) ∧ PA X ets (fun _ H Q => Q (ts.map tynV) H)
  | [], [], _ => ⟨fun t ht => (by cases ht), pa_of pa_nil fun σ H Q q => q⟩
  | [], _ :: _, h => Bool.noConfusion (show false = true from h)
  | _ :: _, [], h => Bool.noConfusion (show false = true from h)
  | t :: ts, e :: es, h => by
    obtain ⟨h1, h2⟩ := b2 h
    obtain ⟨h2, h3⟩ := b2 h2
    obtain ⟨n, rfl, p⟩ := tyn_ok C h1
    obtain ⟨a1, a2⟩ := tyns_ok C h3
    refine ⟨fun t ht => ?_, pa_of (pa_cons p a2 (star_ok h2)) fun σ H Q q => q⟩
    rcases List.mem_cons.mp ht with rfl | ht
    · exact ⟨n, rfl⟩
    · exact a1 t ht
theorem ok_isi {a : Ex} (ha : OK T G a) (ts : List TyN) (tp : Bool) : OK T G (.isi a ts tp) := ok_gen fun {sc calm B X W} C m e h => by
  obtain ⟨p0, ea, et, pos, rfl, h1, h2, h3, h4, h5, h6⟩ := chk_isi h
  refine ⟨?_, fun _ => rfl⟩
  have gl : Gl X "isinstance" := C.glob h2
  have fr := C.free _ (List.contains_iff_mem.mp h1)
  have hpl : ∀ {env : Env}, (backTo pos (starEach [et] env)).any (·.1) = false := fun {env} => by rw [star_ok h4] <;> rfl
  have start : ∀ {σ : L2.St} {H : Hp} {Q : VK} {t : V → Hp → Prop}, tE B W (ev G (.isi a ts tp)) σ H Q →
      (∀ g H ρ st x d b, ER B g H σ ρ st → RdV B.R g.F H x d → isiS G.exm d ts = some b → Pst B W g H σ ρ (.ok (.fz (.bl b)) st) (kV B Q) → t x H) → tE B W (ev G a) σ H t := fun {σ H Q t} ⟨g, ρ, st, er, p⟩ hk => by
    have p' : Pst B W g H σ ρ ((ev G a ρ st).bind fun x st => pick (dr st x) fun d => pick (isiS G.exm d ts) fun r => Res.ok (Val.fz (D.bl r)) st) (kV B Q) := p
    refine ⟨g, ρ, st, er, p'.bind.imp fun v st1 g1 H1 e1 s1 p1 x rx => ?_⟩
    obtain ⟨d, q1, p1⟩ := p1.pick
    obtain ⟨b, q2, p1⟩ := p1.pick
    exact hk g1 H1 ρ st1 x d b e1 (e1.rd rx q1) q2 p1
  rcases h6 with ⟨t, rfl, h6⟩ | ⟨ets, k, p2, rfl, h8, h9, h6⟩
  · obtain ⟨n, rfl, pt⟩ := tyn_ok C h6
    refine pe_of (pe_callB call_isi gl fr (by decide +kernel) (pa_cons ((ha C ea).1 h5) (pa_cons pt pa_nil (star_ok h4)) (star_ok h3)) (by decide) (by decide) (star_ok h3) hpl) fun σ H Q q => start q fun g H ρ st x d b er r e q => ?_
    obtain ⟨u, hu⟩ := isi_some e
    have kk := isi_kit (R := B.R) hu e (fun t ht => ⟨n, by simpa using ht⟩)
    refine ⟨x, .ty n, .type u, .type n, b, rfl, .ty n, by rw [C.K]; exact r.ty er.le hu, ?_, q.same er (.bl b)⟩
    have kk' : (match PySem.W.kitOne B.R.K (.type u) (.type n) with | some true => some true | some false => some false | none => none) = some b := kk
    rw [C.K]
    cases z : PySem.W.kitOne B.R.K (.type u) (.type n) with
    | none => rw [z] at kk'; cases kk'
    | some c => rw [z] at kk'; cases c <;> exact kk'
  · obtain ⟨a1, a2⟩ := tyns_ok C h6
    refine pe_of (pe_callB call_isiT gl fr (by decide +kernel) (pa_cons ((ha C ea).1 h5) (pa_cons (pe_tup a2) pa_nil (star_ok h4)) (star_ok h3)) (by decide) (by decide) (star_ok h3) hpl) fun σ H Q q => start q fun g H ρ st x d b er r e pq => ?_
    refine ⟨?_, fun p hp => ?_⟩
    · rw [List.length_map, ← lim_eq]
      exact Nat.le_trans h8 (by decide)
    · obtain ⟨er2, s2⟩ := er.lay (o := .tup (ts.map tynV)) hp
      cases ts with
      | nil => exact absurd rfl h9
      | cons t ts =>
        obtain ⟨n, rfl⟩ := a1 t List.mem_cons_self
        obtain ⟨u, hu⟩ := isi_some e
        have kk := isi_kit (R := B.R) hu e a1
        have r2 : RdV B.R (upd g.F p (.tup ((TyN.ty n :: ts).map tynV))) (upd H p (.tup ((TyN.ty n :: ts).map tynV))) x d := by
          have hx : ∀ a, H a ≠ none → upd H p (.tup ((TyN.ty n :: ts).map tynV)) a = H a := fun a ha => upd_ne fun z => ha (by rw [z]; exact hp)
          have fx : ∀ a, H a ≠ none → g.F a = none → upd g.F p (.tup ((TyN.ty n :: ts).map tynV)) a = none := fun a ha hf => by
            rw [upd_ne fun z => ha (by rw [z]; exact hp)]; exact hf
          cases r with
          | rep r => exact .rep (r.mono s2.le.F)
          | lst f h k => exact .lst (fx _ (by rw [h]; intro z; cases z) f) (by rw [hx _ (by rw [h]; intro z; cases z)]; exact h) (k.mono s2.le.F)
          | dct f h k l => exact .dct (fx _ (by rw [h]; intro z; cases z) f) (by rw [hx _ (by rw [h]; intro z; cases z)]; exact h) k (l.mono s2.le.F)
        refine ⟨x, p, _, .type u, (TyN.ty n :: ts).map (fun t => match t with | .ty n => Value.type n | .own _ => .none), b, rfl, upd_same, ?_, by rw [C.K]; exact r2.ty er2.le hu, by rw [C.K]; exact kk, pq.here er2 s2 (.bl b) (Rep.bl b)⟩
        have : ∀ {l : List TyN}, (∀ t ∈ l, ∃ n, t = TyN.ty n) → Paired ClsV (l.map tynV) (l.map (fun t => match t with | .ty n => Value.type n | .own _ => .none)) := fun {l} hl => by
          induction l with
          | nil => exact .nil
          | cons t l ih =>
            obtain ⟨n, rfl⟩ := hl t List.mem_cons_self
            exact .cons (.ty n) (ih fun t ht => hl t (List.mem_cons_of_mem _ ht))
        exact this a1

/-! ### the exception that a suite holds -/
theorem pe_never {X : Cx} {e : Expr} {t : TE} (h : ∀ σ H Q, ¬ t σ H Q) : PE X e t := ⟨fun pins s σ H Q I z => (h σ H Q z).elim⟩
def rIsX (K : PySem.W.Frag) (a : Addr) (cls : Value) (dd : Option Addr) : List V → Hp → VK → Prop := fun xs H Q => ∃ (D : Addr) (c : V) (cv : Value) (b : Bool), cls = .ref D ∧ ExcC K D ∧ (dd = none ∨ ∃ dx fs, dd = some dx ∧ H dx = some (.xd fs)) ∧ xs = [.ref a, c] ∧ ClsV c cv ∧ PySem.W.kitOne K (.ref D) cv = some b ∧ Q (.bl b) H
def rIsXT (K : PySem.W.Frag) (a : Addr) (cls : Value) (dd : Option Addr) : List V → Hp → VK → Prop := fun xs H Q => ∃ (D tp : Addr) (cs : List V) (us : List Value) (b : Bool), cls = .ref D ∧ ExcC K D ∧ (dd = none ∨ ∃ dx fs, dd = some dx ∧ H dx = some (.xd fs)) ∧ xs = [.ref a, .ref tp] ∧ H tp = some (.tup cs) ∧ Paired ClsV cs us ∧ PySem.W.kitAny K (.ref D) us = some b ∧ Q (.bl b) H
theorem inst_x {X : Cx} {a D : Addr} {dd : Option Addr} {oe : Obj} {pins : List (Addr × Obj)} {σ : L2.St} {H : Hp} {s : Shared} (hz : Zc (.ref D) dd oe) (hf : ∃ vs, oe.data = .fields vs) (hp : (a, oe) ∈ X.pn) (I : L2.Inv X pins σ H s) (hd : dd = none ∨ ∃ dx fs, dd = some dx ∧ H dx = some (.xd fs)) : ∃ od, PySem.W.InstAt s.heap a oe D od := by
  obtain ⟨hget, _⟩ := I.pin (a, oe) (List.mem_append.mpr (.inl hp))
  obtain ⟨vs, hv⟩ := hf
  rcases hd with rfl | ⟨dx, fs, rfl, hx⟩
  · refine ⟨none, hget, hz.1, by unfold PySem.W.notCls; rw [hv] <;> rfl, ?_⟩
    rw [hz.2]
    trivial
  · have hx : ObjOk X.prog X.w H s.heap dx (.xd fs) := I.hok dx _ hx
    obtain ⟨mA, hns, hr⟩ := hx
    obtain ⟨od, ho, hl⟩ := lookIn_ns hns
    exact ⟨some od, hget, hz.1, by unfold PySem.W.notCls; rw [hv] <;> rfl, by rw [hz.2]; exact ho⟩
theorem kit_x {K : PySem.W.Frag} {D a : Addr} {oe : Obj} {od : Option Obj} (E : ExcC K D) : PySem.W.KitX K (.ref a) (.ref D) (fun h => PySem.W.InstAt h a oe D od) := by
  obtain ⟨cd, hc, _⟩ := PySem.W.any_some E.hd
  exact PySem.W.kitx_exc (by rw [hc]; rfl) E.hg E.hk E.hs E.ha E.hn E.ht E.hm
theorem call_isX {X : Cx} {a : Addr} {cls : Value} {dd : Option Addr} {oe : Obj} (hz : Zc cls dd oe) (hf : ∃ vs, oe.data = .fields vs) (hp : (a, oe) ∈ X.pn) : CallR X (.builtin "isinstance") (rIsX X.K a cls dd) := by
  intro pins s σ H xs us Q I r h
  obtain ⟨D, c, cv, b, rfl, E, hd, rfl, k, e, q⟩ := h
  obtain ⟨u1, u2, rfl, r1, r2⟩ := vals2 r
  have e2 := k.eq r2
  subst e2
  cases (show u1 = Value.ref a from r1)
  obtain ⟨od, J⟩ := inst_x hz hf hp I hd
  exact PySem.W.kia_one (kit_x E) I.kIn J e (fun z => nomatch z) fun tk => ⟨.bl b, H, I.tok tk, rfl, q⟩
theorem call_isXT {X : Cx} {a : Addr} {cls : Value} {dd : Option Addr} {oe : Obj} (hz : Zc cls dd oe) (hf : ∃ vs, oe.data = .fields vs) (hp : (a, oe) ∈ X.pn) : CallR X (.builtin "isinstance") (rIsXT X.K a cls dd) := by
  intro pins s σ H xs us Q I r h
  obtain ⟨D, tp, cs, ws, b, rfl, E, hd, rfl, hT, k, e, q⟩ := h
  obtain ⟨u1, u2, rfl, r1, r2⟩ := vals2 r
  cases (show u1 = Value.ref a from r1)
  cases (show u2 = Value.ref tp from r2)
  obtain ⟨od, J⟩ := inst_x hz hf hp I hd
  obtain ⟨_, its, rv, o, h1, h2, n, h3⟩ := (show ObjOk X.prog X.w H s.heap tp (.tup cs) from I.hok tp _ hT)
  have e3 := ClsV.all k rv
  subst e3
  obtain ⟨oc, od', dt, sl⟩ := o
  simp only at h2 h3
  subst h2 h3
  exact PySem.W.kia_tup (kit_x E) I.kIn J h1 e (fun z => nomatch z) fun tk => ⟨.bl b, H, I.tok tk, rfl, q⟩
theorem cls_ok {sc : Scope} {calm : Bool} {B : Bs} {X : Cx} {W : WX} (C : Cxt T sc calm G B X W) {c : Str} {e : Expr} (h : clsB T sc c e = true) : ∃ A, X.mg c = some (.ref A) ∧ PE X e (tC (.ref A)) ∧ plainE e = true := by
  cases e <;> first
    | exact Bool.noConfusion (show false = true from h)
    | skip
  rename_i x p
  obtain ⟨h1, h2⟩ := b2 h
  obtain ⟨h2, h3⟩ := b2 h2
  obtain ⟨h3, h4⟩ := b2 h3
  have hx : c = x := of_decide_eq_true h1
  subst hx
  obtain ⟨A, hA⟩ := C.exn c (List.contains_iff_mem.mp h2)
  obtain ⟨n1, _, _, _⟩ := seen_ok h4
  exact ⟨A, hA, pe_glob (v := .ref A) (C.glob h3) hA rfl n1, rfl⟩
theorem clss_ok {sc : Scope} {calm : Bool} {B : Bs} {X : Cx} {W : WX} (C : Cxt T sc calm G B X W) : ∀ {cs : List Str} {es : List Expr}, clssB T sc cs es = true → ∃ As : List Addr, Paired (fun c A => X.mg c = some (.ref A)) cs As ∧ PA X es (fun _ H Q => Q (As.map V.ref) H)
  | [], [], _ => ⟨[], .nil, pa_of pa_nil fun σ H Q q => q⟩
  | [], _ :: _, h => Bool.noConfusion (show false = true from h)
  | _ :: _, [], h => Bool.noConfusion (show false = true from h)
  | c :: cs, e :: es, h => by
    obtain ⟨h1, h2⟩ := b2 h
    obtain ⟨A, hA, p, pl⟩ := cls_ok C h1
    obtain ⟨As, hAs, ps⟩ := clss_ok C h2
    exact ⟨A :: As, .cons hA hAs, pa_of (pa_cons p ps (star_ok pl)) fun σ H Q q => q⟩
theorem isx_any {sc : Scope} {calm : Bool} {B : Bs} {X : Cx} {W : WX} (C : Cxt T sc calm G B X W) {c : Str} {D : Addr} (hD : X.mg c = some (.ref D)) : ∀ {ts : List Str} {As : List Addr} {b : Bool}, Paired (fun c A => X.mg c = some (.ref A)) ts As → isxS G.exm c ts = some b → PySem.W.kitAny X.K (.ref D) (As.map Value.ref) = some b
  | [], _, b, .nil, h => h
  | t :: ts, _, b, .cons (b := A) hA r, h => by
    have h' : (match G.exm c t with | some true => some true | some false => isxS G.exm c ts | none => none) = some b := h
    cases q : G.exm c t with
    | none => rw [q] at h'; cases h'
    | some v =>
      obtain ⟨D', A', e1, e2, e3, _⟩ := C.exm c t v q
      rw [hD] at e1; cases e1
      rw [hA] at e2; cases e2
      rw [q] at h'
      show (match PySem.W.kitOne X.K (.ref D) (.ref A) with | some true => some true | some false => PySem.W.kitAny X.K (.ref D) _ | none => none) = some b
      rw [e3]
      cases v with
      | true => exact h'
      | false => exact isx_any C hD r h'
theorem isx_E {sc : Scope} {calm : Bool} {B : Bs} {X : Cx} {W : WX} (C : Cxt T sc calm G B X W) {c : Str} {D : Addr} (hD : X.mg c = some (.ref D)) {t : Str} {ts : List Str} {b : Bool} (h : isxS G.exm c (t :: ts) = some b) : ExcC X.K D := by
  have h' : (match G.exm c t with | some true => some true | some false => isxS G.exm c ts | none => none) = some b := h
  cases q : G.exm c t with
  | none => rw [q] at h'; cases h'
  | some v =>
    obtain ⟨D', A', e1, e2, e3, _, E⟩ := C.exm c t v q
    rw [hD] at e1; cases e1
    exact E
theorem exn_slot {B : Bs} {g : Gh} {H : Hp} {σ : L2.St} {ρ : Slots} {st : Store} (er : ER B g H σ ρ st) {i : Nat} {x : XD} (q : ρ[i]? = some (some (.exn x))) : ∃ a cls dd, B.ex = some (a, cls, dd) ∧ σ[i]? = some (some (.ref a)) ∧ XR B.R g.F x cls dd := by
  have hi : i < σ.length := by
    rw [er.slen]; exact (List.getElem?_eq_some_iff.mp q).1
  obtain ⟨y, e1, a, cls, dd, e2, e3, r⟩ := er.slots i _ _ (List.getElem?_eq_getElem hi) q
  exact ⟨a, cls, dd, e2, by rw [List.getElem?_eq_getElem hi, e1, e3], r⟩
theorem xd_H {R : RC} {F H : Hp} (l : Le F H) {x : XD} {cls : Value} {dd : Option Addr} (r : XR R F x cls dd) : dd = none ∨ ∃ dx fs, dd = some dx ∧ H dx = some (.xd fs) := by
  obtain ⟨_, ⟨_, h⟩ | ⟨d, fvs, h, e, _⟩⟩ := r
  · exact .inl h
  · rcases l d _ e with q | ⟨z, _⟩
    · exact .inr ⟨d, fvs, h, q⟩
    · cases z
theorem ok_isx (i : Nat) (ts : List Str) (tp : Bool) : OK T G (.isx i ts tp) := ok_gen fun {sc calm B X W} C m e h => by
  obtain ⟨p0, y, py, et, pos, rfl, hc, h1, h2, h3, h4, h5, h6, h7⟩ := chk_isx h
  refine ⟨?_, fun _ => rfl⟩
  have gl : Gl X "isinstance" := C.glob h2
  have fr := C.free _ (List.contains_iff_mem.mp h1)
  obtain ⟨n1, n2, _, _⟩ := seen_ok h5
  have read : ∀ {σ : L2.St} {H : Hp} {Q : VK}, tE B W (ev G (.isx i ts tp)) σ H Q → ∃ g ρ st x b a cls dd, ER B g H σ ρ st ∧ isxS G.exm x.cls ts = some b ∧ Pst B W g H σ ρ (.ok (.fz (.bl b)) st) (kV B Q) ∧ B.ex = some (a, cls, dd) ∧ σ[i]? = some (some (.ref a)) ∧ XR B.R g.F x cls dd := fun {σ H Q} ⟨g, ρ, st, er, p⟩ => by
    have p' : Pst B W g H σ ρ (match ρ[i]? with
      | some (some (.exn x)) => pick (isxS G.exm x.cls ts) fun r => Res.ok (Val.fz (D.bl r)) st
      | _ => .stuck) (kV B Q) := p
    cases q : ρ[i]? with
    | none => simp only [q] at p'; exact p'.elim
    | some o =>
      cases o with
      | none => simp only [q] at p'; exact p'.elim
      | some v =>
        cases v with
        | fz _ => simp only [q] at p'; exact p'.elim
        | loc _ => simp only [q] at p'; exact p'.elim
        | exn x =>
          simp only [q] at p'
          obtain ⟨b, q1, p1⟩ := p'.pick
          obtain ⟨a, cls, dd, e1, e2, e3⟩ := exn_slot er q
          exact ⟨g, ρ, st, x, b, a, cls, dd, er, q1, p1, e1, e2, e3⟩
  cases hex : B.ex with
  | none =>
      refine pe_never fun σ H Q q => ?_
      obtain ⟨g, ρ, st, x, b, a, cls, dd, er, q1, p1, e1, _⟩ := read q
      rw [hex] at e1; cases e1
  | some z =>
    obtain ⟨a, cls, dd⟩ := z
    obtain ⟨oe, hz, hf, hp⟩ := C.exI hc a cls dd hex
    have pv : PE X (.Name y py) (tVar i) := pe_var (i := i) (by rw [C.N]; exact h3) (C.vis h4) n1 n2
    rcases h7 with ⟨t, rfl, h7⟩ | ⟨ets, k, p2, rfl, h8, h9, h7⟩
    · obtain ⟨A, hA, pt, pl⟩ := cls_ok C h7
      refine pe_of (pe_callB (call_isX hz hf hp) gl fr (by decide +kernel) (pa_cons pv (pa_cons pt pa_nil (star_ok h6)) rfl) (by decide) (by decide) rfl (by rw [star_ok h6] <;> rfl)) fun σ H Q q => ?_
      obtain ⟨g, ρ, st, x, b, a', cls', dd', er, q1, p1, e1, e2, xr⟩ := read q
      rw [hex] at e1; cases e1
      obtain ⟨D, hD, rfl⟩ := xr.1
      have hD' : X.mg x.cls = some (.ref D) := by rw [C.mg]; exact hD
      have kk := isx_any C hD' (ts := [t]) (As := [A]) (.cons hA .nil) q1
      refine ⟨.ref a, e2, D, .ref A, .ref A, b, rfl, isx_E C hD' q1, xd_H er.le xr, rfl, .own A, ?_, p1.same er (.bl b)⟩
      have kk' : (match PySem.W.kitOne X.K (.ref D) (.ref A) with | some true => some true | some false => some false | none => none) = some b := kk
      cases z : PySem.W.kitOne X.K (.ref D) (.ref A) with
      | none => rw [z] at kk'; cases kk'
      | some c => rw [z] at kk'; cases c <;> exact kk'
    · obtain ⟨As, hAs, pt⟩ := clss_ok C h7
      have lAs : ∀ {ts : List Str} {As : List Addr}, Paired (fun c A => X.mg c = some (.ref A)) ts As → ts.length = As.length := fun {ts As} p => by
        induction p with
        | nil => rfl
        | cons _ _ ih => exact congrArg Nat.succ ih
      refine pe_of (pe_callB (call_isXT hz hf hp) gl fr (by decide +kernel) (pa_cons pv (pa_cons (pe_tup pt) pa_nil (star_ok h6)) rfl) (by decide) (by decide) rfl (by rw [star_ok h6] <;> rfl)) fun σ H Q q => ?_
      obtain ⟨g, ρ, st, x, b, a', cls', dd', er, q1, p1, e1, e2, xr⟩ := read q
      rw [hex] at e1; cases e1
      refine ⟨.ref a, e2, ?_, fun p hp' => ?_⟩
      · rw [List.length_map, ← lAs hAs, ← lim_eq]
        exact Nat.le_trans h8 (by decide)
      · obtain ⟨er2, s2⟩ := er.lay (o := .tup (As.map V.ref)) hp'
        obtain ⟨D, hD, rfl⟩ := xr.1
        have hD' : X.mg x.cls = some (.ref D) := by rw [C.mg]; exact hD
        have hE : ExcC X.K D := by
          cases ts with
          | nil => exact absurd rfl h9
          | cons t ts => exact isx_E C hD' q1
        have pr : ∀ As : List Addr, Paired ClsV (As.map V.ref) (As.map Value.ref) := fun As => by
          induction As with
          | nil => exact .nil
          | cons A As ih => exact .cons (.own A) ih
        exact ⟨D, p, _, _, b, rfl, hE, xd_H er2.le (xr.mono s2.le.F), rfl, upd_same, pr As, isx_any C hD' hAs q1, p1.here er2 s2 (.bl b) (Rep.bl b)⟩
def tXfd (a : Addr) (cls : Value) (d : Option Addr) (K : PySem.W.Frag) (f : Str) (te : TE) : TE := fun σ H Q => te σ H fun x H1 => ∃ C, XfC K C ∧ PySem.W.findIn K (.ref C) f = some none ∧ x = .ref a ∧ cls = .ref C ∧ ∃ (dd : Addr) (fs : List (Str × V)) (v : V), d = some dd ∧ H1 dd = some (.xd fs) ∧ fs.lookup f = some v ∧ Q v H1
theorem pe_xfd {X : Cx} {a : Addr} {oe : Obj} {cls : Value} {d : Option Addr} {e : Expr} {te : TE} {pos : Pos} {n : Str}
    (hz : Zc cls d oe) (hf : ∃ vs, oe.data = .fields vs) (hp : (a, oe) ∈ X.pn) (he : PE X e te) (hb : attributeBase e n X.env (eval e X.env) = eval e X.env) :
    PE X (.Attribute e n pos) (tXfd a cls d X.K n te) := by
  refine ⟨fun pins s σ H Q I h => ?_⟩
  refine attr_of hb (thn (he.run pins s σ H _ I h) fun u s1 hh => ?_)
  obtain ⟨x, H1, I1, rx, C, T, hno, ex, ec, dd, fs, v, ed, ea, l, q⟩ := hh
  subst ex
  obtain rfl : u = Value.ref a := rx
  subst ec
  subst ed
  obtain ⟨ha, _⟩ := I1.pin (a, oe) (List.mem_append_left _ hp)
  obtain ⟨vs, hd⟩ := hf
  have hx : ObjOk X.prog X.w H1 s1.heap dd (.xd fs) := I1.hok dd _ ea
  obtain ⟨mA, hns, hr⟩ := hx
  obtain ⟨od, ho, hl⟩ := lookIn_ns hns
  obtain ⟨u, hu, ru⟩ := RelO.some_of (v := v) (o := mA n) (by rw [← l]; exact hr n)
  have J : PySem.W.InstAt s1.heap a oe C (some od) := ⟨ha, hz.1, by unfold PySem.W.notCls; rw [hd] <;> rfl, by rw [hz.2]; exact ho⟩
  exact HandSPX.exc_get I1.kIn J T.ga T.gg T.exC (PySem.W.findObj_own T.hdC hno rfl (by rw [hl, hu])) (handed_of ru) ⟨v, H1, I1.tok _, ru, q⟩
theorem lookup_zip {F : Hp} {R : RC} {f : Str} : ∀ {fvs : List (Str × V)} {fs : List (Str × D)} {d : D}, fvs.map (·.1) = fs.map (·.1) → RepL R F (fvs.map (·.2)) (fs.map (·.2)) → fs.lookup f = some d → ∃ v, fvs.lookup f = some v ∧ Rep R F v d
  | [], [], _, _, _, h => by cases h
  | [], _ :: _, _, e, _, _ => by cases e
  | _ :: _, [], _, e, _, _ => by cases e
  | (n, v) :: fvs, (n', d') :: fs, d, e, .cons r l, h => by
    obtain ⟨e1, e2⟩ := List.cons.inj e
    have e1' : n = n' := e1
    subst e1'
    by_cases hf : (f == n) = true
    · have : f = n := eq_of_beq hf
      subst this
      simp [List.lookup] at h ⊢
      subst h
      exact r
    · have hf' : (f == n) = false := by simpa using hf
      simp only [List.lookup, hf'] at h ⊢
      exact lookup_zip e2 l h
theorem ok_xfld (i : Nat) (f : Str) : OK T G (.xfld i f) := ok_gen fun {sc calm B X W} C m e h => by
  obtain ⟨y, py, p, rfl, hm, hc, h3, h4, h5, h6⟩ := chk_xfld h
  subst hm
  refine ⟨?_, fun z => by cases z⟩
  obtain ⟨n1, n2, _, _⟩ := seen_ok h5
  have read : ∀ {σ : L2.St} {H : Hp} {Q : VK}, tE B W (ev G (.xfld i f)) σ H Q → ∃ g ρ st x d a cls dd, ER B g H σ ρ st ∧ G.xfl x.cls f = true ∧ x.fs.lookup f = some d ∧ Pst B W g H σ ρ (.ok (.fz d) st) (kV B Q) ∧ B.ex = some (a, cls, dd) ∧ σ[i]? = some (some (.ref a)) ∧ XR B.R g.F x cls dd := fun {σ H Q} ⟨g, ρ, st, er, p⟩ => by
    have p' : Pst B W g H σ ρ (match ρ[i]? with
      | some (some (.exn x)) => if G.xfl x.cls f = true then pick (x.fs.lookup f) fun d => Res.ok (Val.fz d) st else .stuck
      | _ => .stuck) (kV B Q) := p
    cases q : ρ[i]? with
    | none => simp only [q] at p'; exact p'.elim
    | some o =>
      cases o with
      | none => simp only [q] at p'; exact p'.elim
      | some v =>
        cases v with
        | fz _ => simp only [q] at p'; exact p'.elim
        | loc _ => simp only [q] at p'; exact p'.elim
        | exn x =>
          simp only [q] at p'
          obtain ⟨hx, p1⟩ := pst_if p'
          obtain ⟨b, q1, p1⟩ := p1.pick
          obtain ⟨a, cls, dd, e1, e2, e3⟩ := exn_slot er q
          exact ⟨g, ρ, st, x, b, a, cls, dd, er, hx, q1, p1, e1, e2, e3⟩
  cases hex : B.ex with
  | none =>
      refine pe_never fun σ H Q q => ?_
      obtain ⟨g, ρ, st, x, b, a, cls, dd, er, q0, q1, p1, e1, _⟩ := read q
      rw [hex] at e1; cases e1
  | some z =>
    obtain ⟨a, cls, dd⟩ := z
    obtain ⟨oe, hz, hf, hp⟩ := C.exI hc a cls dd hex
    have pv : PE X (.Name y py) (tVar i) := pe_var (i := i) (by rw [C.N]; exact h3) (C.vis h4) n1 n2
    refine pe_of (pe_xfd hz hf hp pv rfl) fun σ H Q q => ?_
    obtain ⟨g, ρ, st, x, d, a', cls', dd', er, q0, q1, p1, e1, e2, xr⟩ := read q
    rw [hex] at e1; cases e1
    obtain ⟨D, hD, rfl⟩ := xr.1
    obtain ⟨D', hD', T, hno⟩ := C.xf _ _ q0
    rw [C.mg, hD] at hD'
    cases hD'
    refine ⟨.ref a, e2, D, T, hno, rfl, rfl, ?_⟩
    rcases xr.2 with ⟨z, _⟩ | ⟨dx, fvs, rfl, hF, k, l⟩
    · rw [z] at q1; cases q1
    · obtain ⟨v, hv, rv⟩ := lookup_zip k l q1
      rcases er.le dx _ hF with hH | ⟨z, _⟩
      · exact ⟨dx, fvs, v, rfl, hH, hv, p1.same er rv⟩
      · cases z
end
end PD

/-! PD12 -/
set_option Elab.async false
set_option linter.all false
set_option maxRecDepth 100000
set_option maxHeartbeats 4000000
/-! PD: what is walked; targets; list comprehensions. -/
namespace PD
open PySem PySem.Spec PyProof.Rows L2

/-- the model's iterator of ours -/
inductive ItOk (R : RC) (E : ExH) (g : Gh) : Iter → L2.It → Prop
  | rng (lo : Int) (n : Nat) : ItOk R E g (.rng lo n) (Itr lo n)
  | lst {a : Addr} {v : Val} : ValR R E g.F g.A (.ref a) v → ItOk R E g (.lst v) (Itl R.K a)
  | tup {a : Addr} {ds : List D} : Rep R g.F (.ref a) (.tup ds) → ItOk R E g (.tup ds) (Itt R.K a)
  | str (s : Str) : ItOk R E g (.str s) (Its s)
end PD
namespace PD
open PySem PySem.Spec PyProof.Rows L2
theorem ItOk.up {R : RC} {E : ExH} {g g' : Gh} {I : Iter} {J : L2.It} (l : g.le g') (h : ItOk R E g I J) : ItOk R E g' I J := by
  cases h with
  | rng lo n => exact .rng lo n
  | lst h => exact .lst (h.up l)
  | tup h => exact .tup (h.mono l.F)
  | str s => exact .str s
def tI (B : Bs) (W : WX) (c : Slots → Store → Res Iter) : TI := fun σ H Rr => ∃ g ρ st, ER B g H σ ρ st ∧ Pst B W g H σ ρ (c ρ st) fun I _ g' H' => ∀ J, ItOk B.R B.ex g' I J → Rr J H'

section
variable {B : Bs} {W : WX} {g : Gh} {H : Hp} {σ : L2.St} {ρ : Slots} {st : Store}
theorem it_go (e : ER B g H σ ρ st) {I : Iter} {J : L2.It} {i n : Nat} {d : D} (h : ItOk B.R B.ex g I J) (hn : I.size st = some n) (hi : i < n) (hd : I.at st i = some d) :
    J.go i H ∧ ∀ x H', J.yld i H x H' → H' = H ∧ Rep B.R g.F x d := by
  have le := e.le
  cases h with
  | rng lo m =>
    cases hn
    cases hd
    refine ⟨hi, fun x H' y => ⟨y.1, ?_⟩⟩
    rw [y.2]; exact .int _
  | @lst a v hv =>
    cases q : dr st v with
    | none => simp only [Iter.size, q] at hn; cases hn
    | some dv =>
      have r := e.rd hv q
      cases dv with
      | lst ds =>
        simp only [Iter.size, q] at hn
        simp only [Iter.at, q] at hd
        obtain ⟨a', xs, e1, s, k⟩ := r.asL le
        cases e1
        obtain ⟨v', hv', rv⟩ := k.get hd
        exact ⟨⟨xs, v', s, hv'⟩, fun x H' y => ⟨y.1, by
          have := y.2 xs s
          rw [hv'] at this; cases this
          exact rv⟩⟩
      | _ => simp only [Iter.size, q] at hn; cases hn
  | @tup a ds hv =>
    cases hn
    cases hv with
    | tup s k =>
      obtain ⟨v', hv', rv⟩ := k.get (show ds[i]? = some d from hd)
      exact ⟨⟨_, v', le.sqT s, hv'⟩, fun x H' y => ⟨y.1, by
        have := y.2 _ (le.sqT s)
        rw [hv'] at this; cases this
        exact rv⟩⟩
  | str s =>
    cases hn
    have hd' : (s.cps[i]?).map (fun c => D.str (sgn c)) = some d := hd
    refine ⟨hi, fun x H' y => ⟨y.1, ?_⟩⟩
    obtain ⟨c, hc, hx⟩ := y.2
    rw [hc] at hd'
    cases hd'
    rw [hx]; exact .str _
theorem it_stop (e : ER B g H σ ρ st) {I : Iter} {J : L2.It} {n : Nat} (h : ItOk B.R B.ex g I J) (hn : I.size st = some n) : J.stop n H := by
  have le := e.le
  cases h with
  | rng lo m => cases hn; exact Nat.le_refl _
  | @lst a v hv =>
    cases q : dr st v with
    | none => simp only [Iter.size, q] at hn; cases hn
    | some dv =>
      have r := e.rd hv q
      cases dv with
      | lst ds =>
        simp only [Iter.size, q] at hn
        obtain ⟨a', xs, e1, s, k⟩ := r.asL le
        cases e1
        cases hn
        exact ⟨xs, s, by rw [k.length]; exact Nat.le_refl _⟩
      | _ => simp only [Iter.size, q] at hn; cases hn
  | @tup a ds hv =>
    cases hn
    cases hv with
    | tup s k => exact ⟨_, le.sqT s, by rw [k.length]; exact Nat.le_refl _⟩
  | str s => cases hn; exact Nat.le_refl _
end

/-! ### a list, a tuple, a text, walked -/
def iSeq (K : PySem.W.Frag) (te : TE) : TI := fun σ H Rr => te σ H fun x H1 => (∃ a, x = .ref a ∧ (∃ xs, SqL K H1 a xs) ∧ Rr (Itl K a) H1) ∨ (∃ a, x = .ref a ∧ (∃ xs, SqT K H1 a xs) ∧ Rr (Itt K a) H1) ∨ (∃ s, x = .str s ∧ Rr (Its s) H1)
theorem pi_seq {X : Cx} {tg l : Expr} {tl : TE} (hl : PE X l tl) : PI X tg l (iSeq X.K tl) := by
  refine ⟨fun pins s σ H R I h => ?_⟩
  refine thn (hl.run pins s σ H _ I h) fun v s1 ⟨x, H1, I1, r1, q1⟩ => ?_
  have new : ∀ {b : Addr} {fp : List Addr}, b ∈ [s1.heap.objs.size] → FpOk X pins H1 b := fun {b _} hb => by
    have e : b = s1.heap.objs.size := by simpa using hb
    subst e
    exact I1.fpOk (Nat.le_refl _) (I1.hok.fresh (Nat.le_refl _))
  rcases q1 with ⟨a, e, ⟨xs, hq⟩, q⟩ | ⟨a, e, ⟨xs, hq⟩, q⟩ | ⟨y, e, q⟩
  · subst e
    cases r1
    obtain ⟨its, rv, p, hz⟩ := I1.list hq
    refine wpAny_pyIter_list p.isList ?_
    exact ⟨s1.heap.objs.size, [s1.heap.objs.size], _, _, H1, rfl, I1.kept (t' := s1.toks) fun b o e => Heap.get?_push_of_some _ e, turn_list a _, ⟨_, Heap.get?_push_size _ rfl, rfl, rfl⟩, fun b hb => new (fp := []) hb, q⟩
  · subst e
    cases r1
    obtain ⟨its, rv, p, hz⟩ := I1.tuple hq
    refine wpAny_pyIter_tuple (show s1.heap.IsTuple a its.toArray from p) ?_
    exact ⟨s1.heap.objs.size, [s1.heap.objs.size], _, _, H1, rfl, I1.kept (t' := s1.toks) fun b o e => Heap.get?_push_of_some _ e, turn_tuple a _, ⟨_, Heap.get?_push_size _ rfl, rfl, rfl⟩, fun b hb => new (fp := []) hb, q⟩
  · subst e
    obtain ⟨t, rfl⟩ := r1
    cases ha : y.cps.all (· < 128)
    · exact wpAny_pyIter_wide ha (pi_one (tk := s1.toks) I1 _ (turn_str _ y t "str_iterator" (.inr rfl)) ⟨_, Heap.get?_push_size _ rfl, rfl, rfl⟩ q)
    · exact wpAny_pyIter_ascii ha (pi_one (tk := s1.toks) I1 _ (turn_str _ y t "str_ascii_iterator" (.inl rfl)) ⟨_, Heap.get?_push_size _ rfl, rfl, rfl⟩ q)

def OKi (T : Tab) (G : Gam) (c : It) : Prop := ∀ {sc : Scope} {calm : Bool} {B : Bs} {X : Cx} {W : WX}, Cxt T sc calm G B X W → ∀ (tg e : Expr), chkI T sc calm c e = true → PI X tg e (tI B W (evI G c)) ∧ plainE e = true
section
variable {T : Tab} {G : Gam}
theorem chkI_rng1 {sc : Scope} {calm : Bool} {a : Ex} {e : Expr} (h : chkI T sc calm (.rng1 a) e = true) : ∃ p ea pos, e = .Call (.Name "range" p) [ea] [] pos ∧ T.free.contains "range" = true ∧ glB sc "range" = true ∧ plainE ea = true ∧ chk T sc calm a false ea = true := by
  cases e with
  | Call g ees kws pos =>
    cases g with
    | Name x p =>
      cases ees with
      | nil => exact Bool.noConfusion (show false = true from h)
      | cons ea ees =>
        cases ees with
        | cons _ _ => exact Bool.noConfusion (show false = true from h)
        | nil =>
          cases kws with
          | cons _ _ => exact Bool.noConfusion (show false = true from h)
          | nil =>
            obtain ⟨k1, q1⟩ := b2 h
            obtain ⟨k2, q2⟩ := b2 q1
            obtain ⟨k3, q3⟩ := b2 q2
            obtain ⟨k4, k5⟩ := b2 q3
            have hx : x = "range" := of_decide_eq_true k1
            subst hx
            exact ⟨p, ea, pos, rfl, k2, k3, k4, k5⟩
    | _ => exact Bool.noConfusion (show false = true from h)
  | _ => exact Bool.noConfusion (show false = true from h)
theorem chkI_rng2 {sc : Scope} {calm : Bool} {a b : Ex} {e : Expr} (h : chkI T sc calm (.rng2 a b) e = true) : ∃ p ea eb pos, e = .Call (.Name "range" p) [ea, eb] [] pos ∧ T.free.contains "range" = true ∧ glB sc "range" = true ∧ plainE ea = true ∧ plainE eb = true ∧ chk T sc calm a false ea = true ∧ chk T sc calm b false eb = true := by
  cases e with
  | Call g ees kws pos =>
    cases g with
    | Name x p =>
      cases ees with
      | nil => exact Bool.noConfusion (show false = true from h)
      | cons ea ees =>
        cases ees with
        | nil => exact Bool.noConfusion (show false = true from h)
        | cons eb ees =>
          cases ees with
          | cons _ _ => exact Bool.noConfusion (show false = true from h)
          | nil =>
            cases kws with
            | cons _ _ => exact Bool.noConfusion (show false = true from h)
            | nil =>
              obtain ⟨k1, q1⟩ := b2 h
              obtain ⟨k2, q2⟩ := b2 q1
              obtain ⟨k3, q3⟩ := b2 q2
              obtain ⟨k4, q4⟩ := b2 q3
              obtain ⟨k5, q5⟩ := b2 q4
              obtain ⟨k6, k7⟩ := b2 q5
              have hx : x = "range" := of_decide_eq_true k1
              subst hx
              exact ⟨p, ea, eb, pos, rfl, k2, k3, k4, k5, k6, k7⟩
    | _ => exact Bool.noConfusion (show false = true from h)
  | _ => exact Bool.noConfusion (show false = true from h)
theorem rng_of {a b : D} {I : Iter} (h : rngS a b = some I) : ∃ i j, a = .int i ∧ b = .int j ∧ (-(2 ^ 62) ≤ i ∧ i < 2 ^ 62 ∧ -(2 ^ 62) ≤ j ∧ j < 2 ^ 62) ∧ I = .rng i (j - i).toNat := by
  cases a <;> cases b <;> first
    | cases h
    | skip
  rename_i i j
  have h' : (if rngOk i && rngOk j then some (Iter.rng i (j - i).toNat) else none) = some I := h
  cases q : rngOk i && rngOk j with
  | false => rw [q] at h'; cases h'
  | true =>
    rw [q] at h'
    cases h'
    obtain ⟨q1, q2⟩ := b2 q
    obtain ⟨q3, q4⟩ := b2 q1
    obtain ⟨q5, q6⟩ := b2 q2
    exact ⟨i, j, rfl, rfl, ⟨of_decide_eq_true q3, of_decide_eq_true q4, of_decide_eq_true q5, of_decide_eq_true q6⟩, rfl⟩
theorem ok_rng1 {a : Ex} (ha : OK T G a) : OKi T G (.rng1 a) := by
  intro sc calm B X W C tg e h
  obtain ⟨p0, ea, pos, rfl, h1, h2, h3, h4⟩ := chkI_rng1 h
  refine ⟨pi_of (pi_range1 (C.glob h2) (C.free _ (List.contains_iff_mem.mp h1)) (pa_cons ((ha C ea).1 h4) pa_nil (star_ok h3)) (star_ok h3)) fun σ H R ⟨g, ρ, st, er, p⟩ => ?_, rfl⟩
  have p' : Pst B W g H σ ρ ((ev G a ρ st).bind fun x st => pick (dr st x) fun d => pick (rngS (.int 0) d) fun I => Res.ok I st) (fun I _ g' H' => ∀ J, ItOk B.R B.ex g' I J → R J H') := p
  refine ⟨g, ρ, st, er, p'.bind.imp fun v st1 g1 H1 e1 s1 p1 x rx => ?_⟩
  obtain ⟨d, q1, p1⟩ := p1.pick
  obtain ⟨I, q2, pp⟩ := p1.pick
  clear p1
  obtain ⟨i, j, e2, e3, ⟨_, _, z1, z2⟩, rfl⟩ := rng_of q2
  cases e2
  subst e3
  obtain rfl := (e1.rd rx q1).int
  refine ⟨j, rfl, z1, z2, ?_⟩
  have := pp.ok e1 _ (.rng 0 (j - 0).toNat)
  simpa using this
theorem ok_rng2 {a b : Ex} (ha : OK T G a) (hb : OK T G b) : OKi T G (.rng2 a b) := by
  intro sc calm B X W C tg e h
  obtain ⟨p0, ea, eb, pos, rfl, h1, h2, h3, h4, h5, h6⟩ := chkI_rng2 h
  have st1 : starEach [ea, eb] X.env = [(false, eval ea X.env), (false, eval eb X.env)] := by rw [star_ok h3, star_ok h4] <;> rfl
  refine ⟨pi_of (pi_range2 (C.glob h2) (C.free _ (List.contains_iff_mem.mp h1)) (pa_cons ((ha C ea).1 h5) (pa_cons ((hb C eb).1 h6) pa_nil (star_ok h4)) (star_ok h3)) st1 (star_ok h4)) fun σ H R ⟨g, ρ, st, er, p⟩ => ?_, rfl⟩
  have p' : Pst B W g H σ ρ ((ev G a ρ st).bind fun x st => (ev G b ρ st).bind fun y st => pick (dr st x) fun d => pick (dr st y) fun e => pick (rngS d e) fun I => Res.ok I st) (fun I _ g' H' => ∀ J, ItOk B.R B.ex g' I J → R J H') := p
  refine ⟨g, ρ, st, er, p'.bind.imp fun v st1 g1 H1 e1 s1 p1 x rx => ?_⟩
  refine ⟨g1, ρ, st1, e1, p1.bind.imp fun w st2 g2 H2 e2 s2 p2 y ry => ?_⟩
  obtain ⟨d, q1, p2⟩ := p2.pick
  obtain ⟨d', q2, p2⟩ := p2.pick
  obtain ⟨I, q3, pp⟩ := p2.pick
  clear p2
  obtain ⟨i, j, e3, e4, z, rfl⟩ := rng_of q3
  subst e3 e4
  obtain rfl := (e2.rd (rx.up s2.le) q1).int
  obtain rfl := (e2.rd ry q2).int
  exact ⟨i, j, rfl, z, pp.ok e2 _ (.rng i (j - i).toNat)⟩
theorem ok_seq {a : Ex} (ha : OK T G a) : OKi T G (.seq a) := by
  intro sc calm B X W C tg e h
  obtain ⟨h0, h1⟩ := b2 h
  refine ⟨pi_of (pi_seq ((ha C e).1 h1)) fun σ H R ⟨g, ρ, st, er, p⟩ => ?_, h0⟩
  have p' : Pst B W g H σ ρ ((ev G a ρ st).bind fun x st => pick (dr st x) fun d => pick (seqI x d) fun I => Res.ok I st) (fun I _ g' H' => ∀ J, ItOk B.R B.ex g' I J → R J H') := p
  refine ⟨g, ρ, st, er, p'.bind.imp fun v st1 g1 H1 e1 s1 p1 x rx => ?_⟩
  obtain ⟨d, q1, p1⟩ := p1.pick
  obtain ⟨I, q2, p1⟩ := p1.pick
  have r := e1.rd rx q1
  rw [C.K]
  cases d <;> first
    | cases q2
    | skip
  · obtain rfl := r.str
    exact .inr (.inr ⟨_, rfl, p1.ok e1 _ (.str _)⟩)
  · cases r.tupRep with
    | tup s k => exact .inr (.inl ⟨_, rfl, ⟨_, e1.le.sqT s⟩, p1.ok e1 _ (.tup (.tup s k))⟩)
  · obtain ⟨a, xs, rfl, s, k⟩ := r.asL e1.le
    exact .inl ⟨a, rfl, ⟨_, s⟩, p1.ok e1 _ (.lst rx)⟩
end

/-! ### targets -/
def tgG (K : PySem.W.Frag) : Tg → TG
  | .nm i => gName i
  | .tp is => gTup K is.length (is.foldr (fun i t => gCons (gName i) t) gNil)
theorem SlotR.putV {R : RC} {E : ExH} {g : Gh} {σ : L2.St} {ρ : Slots} {x : V} {v : Val} (hs : ∀ (i : Nat) (o : Option V) (w : Option Val), σ[i]? = some o → ρ[i]? = some w → SlotR R E g o w) (r : ValR R E g.F g.A x v) (j : Nat) :
    ∀ (i : Nat) (o : Option V) (w : Option Val), (σ.set j (some x))[i]? = some o → (ρ.set j (some v))[i]? = some w → SlotR R E g o w := by
  intro i o w e1 e2
  rcases setAt e1 with ⟨n1, q1⟩ | ⟨n1, q1⟩
  · rcases setAt e2 with ⟨_, q2⟩ | ⟨n2, _⟩
    · exact hs i o w q1 q2
    · exact absurd n2 n1
  · rcases setAt e2 with ⟨n2, _⟩ | ⟨_, q2⟩
    · exact absurd n1 n2
    · rw [← q1, ← q2]; exact ⟨x, rfl, r⟩
theorem ER.slot {B : Bs} {g : Gh} {H : Hp} {σ : L2.St} {ρ : Slots} {st : Store} (e : ER B g H σ ρ st) {σ' : L2.St} {ρ' : Slots} (hl : σ'.length = ρ'.length) (hs : ∀ (i : Nat) (o : Option V) (w : Option Val), σ'[i]? = some o → ρ'[i]? = some w → SlotR B.R B.ex g o w) : ER B g H σ' ρ' st :=
  ⟨e.same0, e.le, e.fresh, e.keep, e.lkd, e.len, e.nodup, e.io, e.iolive, e.own, e.there, e.conts, hl, hs⟩
theorem ER.setV {B : Bs} {g : Gh} {H : Hp} {σ : L2.St} {ρ : Slots} {st : Store} (e : ER B g H σ ρ st) {x : V} {v : Val} (r : ValR B.R B.ex g.F g.A x v) (j : Nat) : ER B g H (σ.set j (some x)) (ρ.set j (some v)) st :=
  e.slot (by rw [List.length_set, List.length_set]; exact e.slen) (SlotR.putV e.slots r j)
theorem wipe_set {σ : L2.St} {i : Nat} {o : Option V} : ∀ {vs : List Nat}, i ∈ vs → wipe (σ.set i o) vs = wipe σ vs
  | v :: vs, h => by
    show (wipe (σ.set i o) vs).set v none = (wipe σ vs).set v none
    by_cases hm : i ∈ vs
    · rw [wipe_set hm]
    · rcases List.mem_cons.mp h with e | h
      · subst e
        have key : ∀ {vs : List Nat}, i ∉ vs → wipe (σ.set i o) vs = (wipe σ vs).set i o := fun {vs} => by
          induction vs with
          | nil => intro _; rfl
          | cons v vs ih =>
            intro h
            have h1 : i ≠ v := fun z => h (by rw [z]; exact List.mem_cons_self)
            show (wipe (σ.set i o) vs).set v none = ((wipe σ vs).set v none).set i o
            rw [ih fun z => h (List.mem_cons_of_mem _ z), List.set_comm _ _ h1]
        rw [key hm, List.set_set]
      · exact absurd h hm
theorem tg_all {B : Bs} {g : Gh} {H : Hp} {st : Store} {Q : L2.St → Hp → Prop} : ∀ {is : List Nat} {ds : List D} {xs : List V} {σ : L2.St} {ρ ρ' : Slots}, ER B g H σ ρ st → RepL B.R g.F xs ds → setAll is ds ρ = some ρ' →
    (∀ σ', ER B g H σ' ρ' st → (∀ vs : List Nat, (∀ i ∈ is, i ∈ vs) → wipe σ' vs = wipe σ vs) → Q σ' H) → (is.foldr (fun i t => gCons (gName i) t) gNil) xs σ H Q
  | [], [], _, σ, ρ, ρ', e, .nil, h, hQ => by cases h; exact ⟨rfl, hQ σ e fun _ _ => rfl⟩
  | [], _ :: _, _, σ, ρ, ρ', e, _, h, hQ => by cases h
  | _ :: _, [], _, σ, ρ, ρ', e, _, h, hQ => by cases h
  | i :: is, d :: ds, _, σ, ρ, ρ', e, .cons (v := x) (vs := xs) r l, h, hQ => ⟨x, xs, rfl, tg_all (e.setV (v := .fz d) r i) l h fun σ' e' hw => hQ σ' e' fun vs hv => (hw vs fun j hj => hv j (List.mem_cons_of_mem _ hj)).trans (wipe_set (hv i List.mem_cons_self))⟩
theorem tg_ok {B : Bs} {g : Gh} {H : Hp} {σ : L2.St} {ρ ρ' : Slots} {st : Store} (e : ER B g H σ ρ st) {t : Tg} {x : V} {v : Val} (r : ValR B.R B.ex g.F g.A x v) (h : asgT t v ρ st = some ρ') {Q : L2.St → Hp → Prop} (hQ : ∀ σ', ER B g H σ' ρ' st → (∀ vs : List Nat, tgIn vs t = true → wipe σ' vs = wipe σ vs) → Q σ' H) : tgG B.R.K t x σ H Q := by
  cases t with
  | nm i =>
    cases h
    exact hQ _ (e.setV r i) fun vs hv => wipe_set (List.contains_iff_mem.mp hv)
  | tp is =>
    cases v with
    | loc n => cases h
    | exn y => cases h
    | fz d =>
      cases d <;> first
        | cases h
        | skip
      rename_i ds
      have h' : setAll is ds ρ = some ρ' := h
      have hlen : ∀ {is : List Nat} {ds : List D} {ρ ρ' : Slots}, setAll is ds ρ = some ρ' → ds.length = is.length := fun {is ds ρ ρ'} => by
        induction is generalizing ds ρ with
        | nil => intro h; cases ds with
          | nil => rfl
          | cons _ _ => cases h
        | cons i is ih => intro h; cases ds with
          | nil => cases h
          | cons d ds => exact congrArg Nat.succ (ih h)
      cases (show Rep B.R g.F x (.tup ds) from r) with
      | tup s k => exact ⟨_, _, rfl, e.le.sqT s, by rw [k.length]; exact hlen h', tg_all e k h' fun σ' e' hw => hQ σ' e' fun vs hv => hw vs fun i hi => List.contains_iff_mem.mp (List.all_eq_true.mp (show is.all vs.contains = true from hv) i hi)⟩
section
variable {X : Cx}
theorem nmB_ok {T : Tab} {sc : Scope} {i : Nat} {e : Expr} (hN : X.N = T.N) (nd : T.N.Nodup) (hsc : ScR sc X.env.scope) (hfn : ∀ x, sc.names.lookup x = some .cell → X.fn x = true) (h : nmB T sc i e = true) : PG X e (gName i) ∧ ∃ x pos, e = .Name x pos := by
  cases e <;> first
    | exact Bool.noConfusion (show false = true from h)
    | skip
  rename_i x pos
  obtain ⟨h1, h2⟩ := b2 h
  rcases Bool.or_eq_true_iff.mp h2 with h2 | h2
  · have hl : X.env.scope.names.lookup x = some .local := locB_ok hsc h2
    exact ⟨pg_name (by rw [hN]; exact nd) (by rw [hN]; exact of_decide_eq_true h1) (.inl hl) (.inr hl), x, pos, rfl⟩
  · have hl := celB_ok h2
    exact ⟨pg_name (by rw [hN]; exact nd) (by rw [hN]; exact of_decide_eq_true h1) (.inr (hsc.cl x hl)) (.inl (hfn x hl)), x, pos, rfl⟩
theorem tgB_ok {T : Tab} {sc : Scope} {t : Tg} {e : Expr} (hN : X.N = T.N) (nd : T.N.Nodup) (hsc : ScR sc X.env.scope) (hfn : ∀ x, sc.names.lookup x = some .cell → X.fn x = true) (hc : X.calm = true) (h : tgB T sc t e = true) : PG X e (tgG X.K t) := by
  cases t with
  | nm i => exact (nmB_ok hN nd hsc hfn (show nmB T sc i e = true by cases e <;> exact h)).1
  | tp is =>
    cases e <;> first
      | exact Bool.noConfusion (show false = true from h)
      | skip
    rename_i es k pos
    obtain ⟨h1, h2⟩ := b2 h
    have hl : is.length = es.length := of_decide_eq_true h1
    have key : ∀ {is : List Nat} {es : List Expr}, is.length = es.length → ((is.zip es).all fun p => nmB T sc p.1 p.2) = true →
        PGs X es (is.foldr (fun i t => gCons (gName i) t) gNil) ∧ (assignEach es X.env).length = es.length ∧ (assignEach es X.env).findIdx? (·.1) = none := by
      intro is
      induction is with
      | nil =>
        intro es hl _
        cases es with
        | nil => exact ⟨pgs_nil, rfl, rfl⟩
        | cons _ _ => cases hl
      | cons i is ih =>
        intro es hl h
        cases es with
        | nil => cases hl
        | cons e es =>
          obtain ⟨h3, h4⟩ := b2 (show (nmB T sc i e && (is.zip es).all fun p => nmB T sc p.1 p.2) = true from h)
          obtain ⟨p1, p2, p3⟩ := ih (Nat.succ.inj hl) h4
          obtain ⟨pg, x, pos, rfl⟩ := nmB_ok hN nd hsc hfn h3
          refine ⟨pgs_cons pg p1 rfl, ?_, ?_⟩
          · show (assignEach es X.env).length + 1 = es.length + 1
            rw [p2]
          · show ((false, _) :: assignEach es X.env).findIdx? (·.1) = none
            rw [List.findIdx?_cons]
            simp [p3]
    obtain ⟨p1, p2, p3⟩ := key hl h2
    exact pg_tup hc p1 (by rw [p2, hl]) p3
end
end PD

/-! PD13 -/
set_option Elab.async false
set_option linter.all false
set_option maxRecDepth 100000
set_option maxHeartbeats 4000000
/-! PD: list comprehensions, and all expressions. -/
namespace PD
open PySem PySem.Spec PyProof.Rows L2
section
variable {B : Bs} {W : WX} {g g1 : Gh} {H H1 : Hp} {σ : L2.St} {ρ : Slots} {st : Store}
theorem Step.away (s : Step g H g1 H1) {p : Addr} {o : HO} (h : H p = some o) (hA : p ∉ g.A) (hF : g.F p = none) : H1 p = some o ∧ p ∉ g1.A ∧ g1.F p = none := by
  refine ⟨s.frame p o h hA, fun z => ?_, ?_⟩
  · rcases s.freshA p z with q | q
    · exact hA q
    · rw [h] at q; cases q
  · cases q : g1.F p with
    | none => rfl
    | some u =>
      rcases s.freshF p (by rw [q]; intro z; cases z) with z | z | z
      · exact absurd hF z
      · rw [h] at z; cases z
      · exact absurd z hA
/-- a cell that is none of ours changes -/
theorem ER.other (r : ER B g H σ ρ st) {p : Addr} {o : HO} (hA : p ∉ g.A) (hF : g.F p = none) (h0 : B.H0 p = none) (hl : p ∉ B.lk) : ER B g (upd H p o) σ ρ st where
  same0 := r.same0
  le := fun a u e => by
    have ha : a ≠ p := fun z => by rw [z, hF] at e; cases e
    rw [upd_ne ha]; exact r.le a u e
  fresh := r.fresh
  keep := fun b u e h1 h2 => by
    have hb : b ≠ p := fun z => by rw [z, h0] at e; cases e
    rw [upd_ne hb]; exact r.keep b u e h1 h2
  lkd := fun b hb => by
    obtain ⟨h1, ob, u, h2, h3⟩ := r.lkd b hb
    have hne : b ≠ p := fun z => hl (by rw [← z]; exact hb)
    exact ⟨h1, ob, u, by rw [upd_ne hne]; exact h2, h3⟩
  len := r.len
  nodup := r.nodup
  io := r.io
  iolive := r.iolive
  own := r.own
  there := fun i a e => by
    have ha : a ≠ p := fun z => hA (by rw [← z]; exact List.mem_of_getElem? e)
    rw [upd_ne ha]; exact r.there i a e
  conts := fun i a c e1 e2 => by
    have ha : a ≠ p := fun z => hA (by rw [← z]; exact List.mem_of_getElem? e1)
    exact (r.conts i a c e1 e2).F (Same.refl _) (fun hc => (r.conts i a c e1 e2).out hc) (fun _ => upd_ne ha)
  slen := r.slen
  slots := r.slots
theorem Step.other (s : Step g H g1 H1) {p : Addr} {o : HO} (h : H p = none) : Step g H g1 (upd H1 p o) :=
  ⟨s.le, fun b u e hb => by
    have : b ≠ p := fun z => by rw [z, h] at e; cases e
    rw [upd_ne this]; exact s.frame b u e hb, s.freshF, s.freshA⟩

theorem SlotR.wiped {R : RC} {E : ExH} (hs : ∀ (i : Nat) (o : Option V) (w : Option Val), σ[i]? = some o → ρ[i]? = some w → SlotR R E g o w) : ∀ (vs : List Nat) (i : Nat) (o : Option V) (w : Option Val), (wipe σ vs)[i]? = some o → (wipeS ρ vs)[i]? = some w → SlotR R E g o w
  | [], i, o, w, e1, e2 => hs i o w e1 e2
  | v :: vs, i, o, w, e1, e2 => by
    rcases setAt (show ((wipeS ρ vs).set v none)[i]? = some w from e2) with ⟨n, q⟩ | ⟨_, q⟩
    · rcases setAt (show ((wipe σ vs).set v none)[i]? = some o from e1) with ⟨_, q1⟩ | ⟨n1, _⟩
      · exact SlotR.wiped hs vs i o w q1 q
      · exact absurd n1 n
    · rw [← q]; trivial
theorem wipeS_length : ∀ vs : List Nat, (wipeS ρ vs).length = ρ.length
  | [] => rfl
  | v :: vs => by
    show ((wipeS ρ vs).set v none).length = _
    rw [List.length_set, wipeS_length vs]
theorem wipe_wipe : ∀ (vs : List Nat), wipe (wipe σ vs) vs = wipe σ vs := by
  have key : ∀ (ws vs : List Nat), (∀ v ∈ vs, v ∈ ws) → wipe (wipe σ vs) ws = wipe σ ws := fun ws vs => by
    induction vs with
    | nil => intro _; rfl
    | cons v vs ih =>
      intro h
      show wipe ((wipe σ vs).set v none) ws = _
      rw [wipe_set (h v List.mem_cons_self), ih fun u hu => h u (List.mem_cons_of_mem _ hu)]
  exact fun vs => key vs vs fun _ h => h
theorem Res.nox_ok {α β : Type} {r : Res α} {f : α → Store → Res β} (h : r.nox.bind f ≠ .stuck) : ∃ a st1, r = .ok a st1 ∧ r.nox.bind f = f a st1 := by
  cases r with
  | ok a st1 => exact ⟨a, st1, rfl, rfl⟩
  | exc x st1 => exact absurd rfl h
  | stuck => exact absurd rfl h
theorem pst_stuck {α : Type} {r : Res α} {k : α → Store → Gh → Hp → Prop} (p : Pst B W g H σ ρ r k) : r ≠ .stuck := fun z => by rw [z] at p; exact p
theorem bind_stuck {α β : Type} {r : Res α} {f : α → Store → Res β} (h : r.bind f ≠ .stuck) : r ≠ .stuck := fun z => h (by rw [z] <;> rfl)
end
theorem fold_ok {e : Expr} {env : Env} (h : plainE e = true) : ∀ x, foldedSetIterable e env x = pure x := by
  intro x
  cases e <;> first
    | rfl
    | exact Bool.noConfusion (show false = true from h)
theorem pts_of {X : Cx} {es : List Expr} {t t' : TT} (h : PTs X es t) (i : ∀ σ H Q, t' σ H Q → t σ H Q) : PTs X es t' := ⟨fun pins s σ H Q I q => h.run pins s σ H Q I (i σ H Q q)⟩
section
variable {T : Tab} {G : Gam}
theorem relabel_ok {env : Env} {scope : Scope} : ScR scope (relabel scope env) := by
  have key : ∀ (names : List (Str × NameKind)) (x : Str), (names.map fun (n, k) => if (k == NameKind.free && env.scope.kind == .function && env.kindOf n == some .cell) then (n, NameKind.cell) else (n, k)).lookup x =
      (match names.lookup x with
        | some k => some (if (k == NameKind.free && env.scope.kind == .function && env.kindOf x == some .cell) then .cell else k)
        | none => none) := fun names x => by
    induction names with
    | nil => rfl
    | cons p r ih =>
      obtain ⟨n, k⟩ := p
      rw [List.map_cons]
      by_cases hx : (x == n) = true
      · have e : x = n := eq_of_beq hx
        subst e
        have e1 : List.lookup x ((x, k) :: r) = some k := by simp [List.lookup]
        rw [e1]
        by_cases hc : (k == NameKind.free && env.scope.kind == .function && env.kindOf x == some .cell) = true
        · simp only [hc, if_true]
          simp [List.lookup]
        · simp only [hc]
          simp [List.lookup]
      · have hx' : (x == n) = false := by simpa using hx
        have e1 : List.lookup x ((n, k) :: r) = List.lookup x r := by simp [List.lookup, hx']
        rw [e1, ← ih]
        by_cases hc : (k == NameKind.free && env.scope.kind == .function && env.kindOf n == some .cell) = true
        · simp only [hc, if_true]
          simp [List.lookup, hx']
        · simp only [hc]
          simp [List.lookup, hx']
  have key' : ∀ x, (relabel scope env).names.lookup x = (match scope.names.lookup x with
        | some k => some (if (k == NameKind.free && env.scope.kind == .function && env.kindOf x == some .cell) then .cell else k)
        | none => none) := fun x => key scope.names x
  refine ⟨fun x h => by rw [key', h]; rfl, fun x h => ?_, fun x h => ?_, fun x h => ?_⟩
  · rw [key', h]; rfl
  · rcases h with h | h
    · rw [key', h]; exact .inl rfl
    · rw [key', h]
      by_cases hc : (NameKind.free == NameKind.free && env.scope.kind == .function && env.kindOf x == some .cell) = true
      · exact .inl (by simp only [hc, if_true])
      · exact .inr (by simp only [hc]; rfl)
  · rw [key', h]; rfl
theorem blk_re {N : List Str} {sc sc' scope : Scope} {own : List (Str × Nat)} (r : ScR sc sc') (h : BlkOk N sc scope own) : BlkOk N sc' scope own :=
  ⟨h.kind, h.uniq, h.ix, fun y hy e => r.cf _ (h.free y hy e), h.own⟩
theorem Cxt.blk {sc scope : Scope} {calm : Bool} {B : Bs} {X : Cx} {W : WX} (C : Cxt T sc calm G B X W) (hc : calm = true) (s : Shared) (H : Hp) (D : Addr) (cl : List (Str × Addr)) (fp : List Addr) : Cxt T scope calm G B (X.blk s H scope (compEnvC scope cl D X.env) fp) (fun _ _ _ _ => False) :=
  ⟨C.K, C.mg, C.N, (fun x h => by show (scope.names.lookup x == some NameKind.cell) = true; rw [h]; rfl), relabel_ok, C.nd, (fun h => by rw [hc] at h; cases h), C.calm, C.units, takes0, C.io, C.con, C.fns, C.free, C.exn, C.exm, C.xf, C.gcd⟩
theorem lc_read {own : List Nat} {tg : Tg} {it : It} {c elt : Ex} {sc : Scope} {calm : Bool} {B : Bs} {X : Cx} {W : WX} (C : Cxt T sc calm G B X W) (k4 : tgIn own tg = true) {σ : L2.St} {H : Hp} {Q : VK} (h : tE B W (ev G (.lc own tg it c elt)) σ H Q) :
    tLc (tI B W (evI G it)) (tgG X.K tg) (tT B (fun _ _ _ _ => False) (ev G c)) (tE B (fun _ _ _ _ => False) (ev G elt)) own σ H Q := by
  obtain ⟨g, ρ, st, er, p⟩ := h
  have p' : Pst B W g H σ ρ ((evI G it ρ st).bind fun I st => pick (I.size st) fun n => if n ≤ LIM then
      (lcLoop I (fun d st => pick (asgT tg (.fz d) (wipeS ρ own) st) fun ρ' => (ev G c ρ' st).nox.bind fun b st => lcTurn b ((ev G elt ρ' st).nox.bind fun v st => lcPut G.io v st) (.ok [] st)) n 0 [] st).bind lcEnd else .stuck) (kV B Q) := p
  refine ⟨g, ρ, st, er, p'.bind.imp fun I st1 g1 H1 e1 s1 p1 J hJ => ?_⟩
  obtain ⟨n, hn, p1⟩ := p1.pick
  obtain ⟨hz, p1⟩ := pst_if p1
  intro a ha
  obtain ⟨f1, f2, f3, f4⟩ := e1.fresh0 ha
  generalize hbody : (fun d st => pick (asgT tg (.fz d) (wipeS ρ own) st) fun ρ' => (ev G c ρ' st).nox.bind fun b st => lcTurn b ((ev G elt ρ' st).nox.bind fun v st => lcPut G.io v st) (.ok [] st)) = body at p1
  refine ⟨fun i m H => ∃ g2 st2 acc xs, ER B g2 H σ ρ st2 ∧ Step g1 H1 g2 H ∧ H a = some (.lst xs) ∧ RepL B.R g2.F xs acc ∧ g2.F a = none ∧ a ∉ g2.A ∧ i ≤ n ∧ m = n - i ∧ acc.length ≤ i ∧ Pst B W g1 H1 σ ρ ((lcLoop I body (n - i) i acc st2).bind lcEnd) (kV B Q),
    ⟨n, g1, st1, [], [], e1.other f2 f1 f3 f4, (Step.refl g1 H1).other ha, upd_same, .nil, f1, f2, Nat.zero_le _, rfl, Nat.le_refl _, p1⟩, ?_⟩
  rintro i m H2 ⟨g2, st2, acc, xs, e2, s2, ha2, k2', f5, f6, hin, rfl, hacc, p2⟩
  by_cases hlt : i < n
  · obtain ⟨k, hk⟩ : ∃ k, n - i = k + 1 := ⟨n - i - 1, by omega⟩
    rw [hk] at p2
    have p3 : Pst B W g1 H1 σ ρ ((if I.size st2 = some (i + (k + 1)) then pick (I.at st2 i) fun d => (body d st2).bind fun ds st' => lcLoop I body k (i + 1) (acc ++ ds) st' else .stuck).bind lcEnd) (kV B Q) := p2
    by_cases hsz : I.size st2 = some (i + (k + 1))
    · rw [if_pos hsz] at p3
      cases hd : I.at st2 i with
      | none => rw [hd] at p3; exact p3.elim
      | some d =>
        rw [hd] at p3
        have p4 : Pst B W g1 H1 σ ρ (((body d st2).bind fun ds st' => lcLoop I body k (i + 1) (acc ++ ds) st').bind lcEnd) (kV B Q) := p3
        obtain ⟨go, yl⟩ := it_go e2 (hJ.up s2.le) hsz (by omega) hd
        refine .inr ⟨go, fun H' => ∃ g2 st2 acc xs, ER B g2 H' σ ρ st2 ∧ Step g1 H1 g2 H' ∧ H' a = some (.lst xs) ∧ RepL B.R g2.F xs acc ∧ g2.F a = none ∧ a ∉ g2.A ∧ i + 1 ≤ n ∧ acc.length ≤ i + 1 ∧ Pst B W g1 H1 σ ρ ((lcLoop I body (n - (i + 1)) (i + 1) acc st2).bind lcEnd) (kV B Q),
          fun H' ⟨g2, st2, acc, xs, z1, z2, z3, z4, z5, z6, z7, z8, z9⟩ => ⟨n - (i + 1), by omega, g2, st2, acc, xs, z1, z2, z3, z4, z5, z6, z7, rfl, z8, z9⟩, fun x H' y => ?_⟩
        obtain ⟨rfl, rx⟩ := yl x H' y
        have hk' : n - (i + 1) = k := by omega
        have body1 : body d st2 = pick (asgT tg (.fz d) (wipeS ρ own) st2) fun ρ' => (ev G c ρ' st2).nox.bind fun b st => lcTurn b ((ev G elt ρ' st).nox.bind fun v st => lcPut G.io v st) (.ok [] st) := by rw [← hbody]
        have nst : body d st2 ≠ .stuck := bind_stuck (bind_stuck (pst_stuck p4))
        rw [body1] at nst
        cases hasg : asgT tg (.fz d) (wipeS ρ own) st2 with
        | none => rw [hasg] at nst; exact absurd rfl nst
        | some ρ' =>
          rw [hasg] at nst body1
          have ew : ER B g2 H' (wipe σ own) (wipeS ρ own) st2 := e2.slot (by rw [wipe_length, wipeS_length]; exact e2.slen) (SlotR.wiped e2.slots own)
          rw [C.K]
          refine tg_ok ew (v := .fz d) rx hasg fun σ2 e3 hw => ⟨?_, ?_⟩
          · rw [hw own k4, wipe_wipe]
          -- the test
          obtain ⟨b, st3, q1, q2⟩ := Res.nox_ok (show (ev G c ρ' st2).nox.bind (fun b st => lcTurn b ((ev G elt ρ' st).nox.bind fun v st => lcPut G.io v st) (.ok [] st)) ≠ .stuck from nst)
          have body2 : body d st2 = lcTurn b ((ev G elt ρ' st3).nox.bind fun v st => lcPut G.io v st) (.ok [] st3) := body1.trans q2
          refine ⟨g2, ρ', st2, e3, ?_⟩
          rw [q1]
          intro g3 H3 e4 s4
          -- back to the comprehension's own state
          have back : ∀ {g4 : Gh} {H4 : Hp} {st4 : Store}, ER B g4 H4 σ2 ρ' st4 → g2.le g4 → ER B g4 H4 σ ρ st4 := fun {g4 H4 st4} e l => e.slot e2.slen fun i o w h1 h2 => (e2.slots i o w h1 h2).up l
          obtain ⟨a1, a2, a3⟩ := s4.away ha2 f6 f5
          have nst2 : body d st2 ≠ .stuck := bind_stuck (bind_stuck (pst_stuck p4))
          rw [body2] at nst2 p4
          have nb : b = .fz (.bl true) ∨ b = .fz (.bl false) := by
            cases b with
            | loc _ => exact absurd rfl nst2
            | exn _ => exact absurd rfl nst2
            | fz d' => cases d' with
              | bl v => cases v <;> simp
              | _ => exact absurd rfl nst2
          rcases nb with rfl | rfl
          · refine ⟨true, rfl, iteT ?_⟩
            obtain ⟨v, st4, q3, q4⟩ := Res.nox_ok (show (ev G elt ρ' st3).nox.bind (fun v st => lcPut G.io v st) ≠ .stuck from nst2)
            have p5 : Pst B W g1 H1 σ ρ (((lcPut G.io v st4).bind fun ds st' => lcLoop I body k (i + 1) (acc ++ ds) st').bind lcEnd) (kV B Q) := by
              have e : lcTurn (.fz (.bl true)) ((ev G elt ρ' st3).nox.bind fun v st => lcPut G.io v st) (.ok [] st3) = lcPut G.io v st4 := q4
              rw [e] at p4
              exact p4
            refine ⟨g3, ρ', st3, e4, ?_⟩
            rw [q3]
            intro g4 H4 e5 s5 y ry
            obtain ⟨b1, b2', b3⟩ := s5.away a1 a2 a3
            have nst3 : lcPut G.io v st4 ≠ .stuck := bind_stuck (bind_stuck (pst_stuck p5))
            cases q5 : fr G.io v st4 with
            | stuck => exact absurd (show lcPut G.io v st4 = .stuck by unfold lcPut; rw [q5] <;> rfl) nst3
            | exc z1 z2 => exact (fr_no_exc q5).elim
            | ok d' st5 =>
              have ep : lcPut G.io v st4 = .ok [d'] st5 := by unfold lcPut; rw [q5] <;> rfl
              rw [ep] at p5
              obtain ⟨F5, e6, s6, r6⟩ := e5.fr ry (by rw [← C.io]; exact q5)
              obtain ⟨c1, c2, c3⟩ := s6.away b1 b2' b3
              have S : Step g2 H' ⟨F5, g4.A⟩ H4 := (s4.trans s5).trans s6
              refine ⟨xs, b1, ?_, ⟨F5, g4.A⟩, st5, acc ++ [d'], xs ++ [y], (back e6 S.le).other c2 c3 f3 f4, (s2.trans S).other ha, upd_same, (k2'.mono S.le.F).append (.cons r6 .nil), c3, c2, by omega, by rw [List.length_append]; simp only [List.length_cons, List.length_nil]; omega, ?_⟩
              · rw [k2'.length, ← lim_eq]; omega
              · rw [hk']; exact p5
          · refine ⟨false, rfl, iteF ?_⟩
            have p5 : Pst B W g1 H1 σ ρ (((Res.ok ([] : List D) st3).bind fun ds st' => lcLoop I body k (i + 1) (acc ++ ds) st').bind lcEnd) (kV B Q) := p4
            have p6 : Pst B W g1 H1 σ ρ ((lcLoop I body k (i + 1) (acc ++ []) st3).bind lcEnd) (kV B Q) := p5
            rw [List.append_nil] at p6
            exact ⟨g3, st3, acc, xs, back e4 s4.le, s2.trans s4, a1, k2'.mono s4.le.F, a3, a2, by omega, by omega, by rw [hk']; exact p6⟩
    · rw [if_neg hsz] at p3; exact p3.elim
  · have hin' : i = n := by omega
    subst hin'
    rw [Nat.sub_self] at p2
    have p3 : Pst B W g1 H1 σ ρ ((if I.size st2 = some i then Res.ok acc st2 else .stuck).bind lcEnd) (kV B Q) := p2
    by_cases hsz : I.size st2 = some i
    · rw [if_pos hsz] at p3
      have p4 : Pst B W g1 H1 σ ρ (.ok (.loc st2.length) (st2 ++ [.lst acc])) (kV B Q) := p3
      refine .inl ⟨it_stop e2 (hJ.up s2.le) hsz, ?_⟩
      refine p4 ⟨g2.F, g2.A ++ [a]⟩ H2 (e2.adopt ha2 k2' f6 f5 f3) ⟨⟨s2.le.F, s2.le.A.trans (List.prefix_append _ _)⟩, s2.frame, s2.freshF, fun b hb => ?_⟩ (.ref a) ⟨a, ?_, rfl⟩
      · rcases List.mem_append.mp hb with q | q
        · exact s2.freshA b q
        · have : b = a := by simpa using q
          exact .inr (by rw [this]; exact ha)
      · rw [← e2.len]; simp
    · rw [if_neg hsz] at p3; exact p3.elim
/-- the parts of a list comprehension -/
theorem lc_parts {own : List Nat} {tg : Tg} {it : It} {c elt : Ex} (hi : OKi T G it) (hc : OK T G c) (he : OK T G elt) {sc scope : Scope} {calm : Bool} {B : Bs} {X : Cx} {W : WX} (C : Cxt T sc calm G B X W) {eelt etg eit : Expr} {ifs : List Expr}
    (k1 : calm = true) (k2 : ownB T sc scope own = true) (k3 : tgB T scope tg etg = true) (k5 : chkI T sc calm it eit = true) (k6 : (ifs = [] ∧ c = .lit (.bl true)) ∨ ∃ ec, ifs = [ec] ∧ chk T scope calm c true ec = true) (k7 : chk T scope calm elt false eelt = true) :
    X.calm = true ∧ X.N.Nodup ∧ PI X etg eit (tI B W (evI G it)) ∧ plainE eit = true ∧ BlkOk X.N X.env.scope scope (own.map fun i => ((T.N.getD i Str.empty), i)) ∧ (own.map fun i => ((T.N.getD i Str.empty), i)).map (·.2) = own ∧
    (∀ (s : Shared) (H : Hp) (D : Addr) (cl : List (Str × Addr)) (fp : List Addr), PG (X.blk s H scope (compEnvC scope cl D X.env) fp) etg (tgG X.K tg)) ∧
    (∀ (s : Shared) (H : Hp) (D : Addr) (cl : List (Str × Addr)) (fp : List Addr), PTs (X.blk s H scope (compEnvC scope cl D X.env) fp) ifs (tT B (fun _ _ _ _ => False) (ev G c))) ∧
    (∀ (s : Shared) (H : Hp) (D : Addr) (cl : List (Str × Addr)) (fp : List Addr), PE (X.blk s H scope (compEnvC scope cl D X.env) fp) eelt (tE B (fun _ _ _ _ => False) (ev G elt))) := by
  obtain ⟨cm, room⟩ := C.calm k1
  obtain ⟨hI, pl⟩ := hi C etg eit k5
  have blk : BlkOk X.N X.env.scope scope (own.map fun i => ((T.N.getD i Str.empty), i)) := by
    rw [C.N]; exact blk_re C.sc (blkOk_by k2)
  have vs : (own.map fun i => ((T.N.getD i Str.empty), i)).map (·.2) = own := by
    rw [List.map_map]
    exact (List.map_congr_left fun i _ => rfl).trans (List.map_id own)
  have pg : ∀ (s : Shared) (H : Hp) (D : Addr) (cl : List (Str × Addr)) (fp : List Addr), PG (X.blk s H scope (compEnvC scope cl D X.env) fp) etg (tgG X.K tg) := fun s H D cl fp =>
    tgB_ok (X := X.blk s H scope (compEnvC scope cl D X.env) fp) C.N C.nd relabel_ok (fun x h => by show (scope.names.lookup x == some NameKind.cell) = true; rw [h]; rfl) cm k3
  have pt : ∀ (s : Shared) (H : Hp) (D : Addr) (cl : List (Str × Addr)) (fp : List Addr), PTs (X.blk s H scope (compEnvC scope cl D X.env) fp) ifs (tT B (fun _ _ _ _ => False) (ev G c)) := fun s H D cl fp => by
    rcases k6 with ⟨rfl, rfl⟩ | ⟨ec, rfl, k6⟩
    · refine pts_of pts_nil fun σ H Q ⟨g, ρ, st, er, p⟩ => ?_
      obtain ⟨b, hb, q⟩ := Pst.ok (show Pst B _ g H σ ρ (.ok (Val.fz (PD.D.bl true)) st) (fun v _ _ H' => ∃ b, v = Val.fz (PD.D.bl b) ∧ Q b H') from p) er
      cases hb
      exact q
    · exact pts_one ((hc (C.blk k1 s H D cl fp) ec).2 k6).1
  exact ⟨cm, by rw [C.N]; exact C.nd, hI, pl, blk, vs, pg, pt, fun s H D cl fp => (he (C.blk k1 s H D cl fp) eelt).1 k7⟩
theorem ok_lc (own : List Nat) (tg : Tg) {it : It} {c elt : Ex} (hi : OKi T G it) (hc : OK T G c) (he : OK T G elt) : OK T G (.lc own tg it c elt) := ok_val fun {sc calm B X W} C m e h => by
  obtain ⟨eelt, etg, eit, ifs, scope, pos, rfl, hm, k1, k2, k3, k4, k5, k6, k7⟩ := chk_lc h
  obtain ⟨cm, nd, hI, pl, blk, vs, pg, pt, pe⟩ := lc_parts hi hc he C k1 k2 k3 k5 k6 k7
  refine ⟨hm, pe_of (pe_lc cm nd hI blk pg pt pe (fold_ok pl)) fun σ H Q q => ?_⟩
  rw [vs]
  exact lc_read C k4 q
mutual
theorem ev_ok : ∀ c : Ex, OK T G c
  | .var i => ok_var i
  | .lit d => ok_lit d
  | .glo j => ok_glo j
  | .none_ => fun C e => ⟨fun h => absurd h (chk_false True.intro), fun h => absurd h (chk_false True.intro)⟩
  | .bin o a b => ok_bin o (ev_ok a) (ev_ok b)
  | .cmp o a b => ok_cmp o (ev_ok a) (ev_ok b)
  | .chain o o' a b c => ok_chain o o' (ev_ok a) (ev_ok b) (ev_ok c)
  | .neg a => ok_neg (ev_ok a)
  | .not_ a => ok_not (ev_ok a)
  | .and_ a b => ok_and (ev_ok a) (ev_ok b)
  | .or_ a b => ok_or (ev_ok a) (ev_ok b)
  | .ife c a b => ok_ife (ev_ok c) (ev_ok a) (ev_ok b)
  | .tru a => ok_tru (ev_ok a)
  | .tup es => ok_tup (evs_ok es)
  | .lst es => ok_lst (evs_ok es)
  | .idx a i => ok_idx (ev_ok a) (ev_ok i)
  | .slc a lo hi => ok_slc (ev_ok a) (ev_ok lo) (ev_ok hi)
  | .call j es => ok_call j (evs_ok es)
  | .bfn f es => ok_bfn f (evs_ok es)
  | .mth .bitlen a es => ok_bitlen (ev_ok a)
  | .isi a ts tp => ok_isi (ev_ok a) ts tp
  | .isx i ts tp => ok_isx i ts tp
  | .xfld i f => ok_xfld i f
  | .pop i => fun C e => ⟨fun h => absurd h (chk_false True.intro), fun h => absurd h (chk_false True.intro)⟩
  | .lc own tg it c elt => ok_lc own tg (evI_ok it) (ev_ok c) (ev_ok elt)
theorem evs_ok : ∀ es : Exs, OKs T G es
  | .nil => ok_nil
  | .cons a as => ok_cons (ev_ok a) (evs_ok as)
theorem evI_ok : ∀ it : It, OKi T G it
  | .rng1 a => ok_rng1 (ev_ok a)
  | .rng2 a b => ok_rng2 (ev_ok a) (ev_ok b)
  | .seq a => ok_seq (ev_ok a)
end
end
end PD

/-! PD14 -/
set_option Elab.async false
set_option linter.all false
set_option maxRecDepth 100000
set_option maxHeartbeats 4000000
/-! PD: statements. -/
namespace PD
open PySem PySem.Spec PyProof.Rows L2

/-! ### the check -/
def notComp : Expr → Bool
  | .ListComp _ _ _ _ => false
  | .SetComp _ _ _ _ => false
  | .DictComp _ _ _ _ _ => false
  | _ => true
def notTup : Expr → Bool
  | .Tuple _ _ _ => false
  | _ => true
def isTupE : Expr → Bool
  | .Tuple _ _ _ => true
  | _ => false
/-- name = [..] is a statement of its own where the name is a local one of the block, on the same line, and no name of the comprehension -/
def lcOwn (sc : Scope) (x : Str) (p : Pos) (e : Expr) (scope : Scope) : Bool := locB sc x && ((p.line == e.pos.line) && !(scope.names.any fun q => q.1 == x && (q.2 == .local || q.2 == .cell)))
def asB (T : Tab) (sc : Scope) : Option Nat → Option Str → Bool
  | none, none => true
  | some i, some y => decide (T.N[i]? = some y) && locB sc y
  | _, _ => false
mutual
def chkSt (T : Tab) (exc : List Str) (sc : Scope) (calm : Bool) : St → Stmt → Bool
  | .asg t e, .Assign [tg] v _ => (calm || (match t with
      | .nm _ => notComp v
      | _ => false)) && (tgB T sc t tg && (chk T sc calm e false v && (match t, tg, v with
      | .nm _, .Name x p, .ListComp a b scope d => lcOwn sc x p (.ListComp a b scope d) scope || celB sc x
      | .nm _, .Name _ _, v => notComp v
      | .tp _, _, v => notComp v && notTup v
      | _, _, _ => false)))
  | .six i k e, .Assign [.Subscript (.Name x _) ek _] v _ => decide (T.N[i]? = some x) && (visB sc x && (PD.seen x && (notComp v && (chk T sc calm e false v && (plainE ek && chk T sc calm k false ek)))))
  | .app i e, .Expr (.Call (.Attribute (.Name x _) m ap) [ee] [] cp) _ => decide (T.N[i]? = some x) && (visB sc x && (PD.seen x && (decide (m = "append") && ((ap.endLine == cp.line) && (plainE ee && chk T sc calm e false ee)))))
  | .exp e, .Expr v _ => notComp v && chk T sc calm e false v
  | .if_ c a b, .If ec ea eb _ => chk T sc calm c true ec && (chkSs T exc sc calm a ea && chkSs T exc sc calm b eb)
  | .whl c b, .While ec eb [] _ => calm && (chk T sc calm c true ec && chkSs T exc sc calm b eb)
  | .for_ t it b, .For tg ei eb [] _ => calm && (tgB T sc t tg && (chkI T sc calm it ei && chkSs T exc sc calm b eb))
  | .ret e, .Return (some v) _ => chk T sc calm e false v
  | .retl e, .Return (some v) _ => chk T sc calm e false v
  | .dead, _ => true
  | .retn, .Return none _ => true
  | .pass, .Pass _ => true
  | .brk, .Break _ => true
  | .cnt, .Continue _ => true
  | .rais c, .Raise (some (.Call (.Name x _) [.Constant (.str _) _ _] [] _)) none _ => calm && (decide (c = x) && (exc.contains x && (glB sc x && PD.seen x)))
  | .raisf c f e, .Raise (some (.Call (.Name x _) [ea] [] _)) none _ => calm && (decide (c = x) && (T.raf.contains (c, f) && (T.free.contains "super" && (glB sc x && (PD.seen x && (plainE ea && chk T sc calm e false ea))))))
  | .try_ b hs, .Try eb (eh :: ehs) [] [] _ => calm && (chkSs T exc sc calm b eb && chkHs T exc sc hs (eh :: ehs))
  | _, _ => false
def chkSs (T : Tab) (exc : List Str) (sc : Scope) (calm : Bool) : Sts → List Stmt → Bool
  | .nil, [] => true
  | .cons s ss, t :: ts => chkSt T exc sc calm s t && chkSs T exc sc calm ss ts
  | _, _ => false
def chkHs (T : Tab) (exc : List Str) (sc : Scope) : Hds → List ExceptHandler → Bool
  | .nil, [] => true
  | .cons [c] false as_ b hs, .ExceptHandler (some e) n (b0 :: bs) _ :: rest => clsB T sc c e && (asB T sc as_ n && (chkSs T exc sc false b (b0 :: bs) && chkHs T exc sc hs rest))
  | _, _ => false
end

/-! ### what must hold behind a statement -/
def SPst (B : Bs) (W : WX) (g : Gh) (Z : Ends) : SR → Prop
  | .nx ρ st => ∀ g' H σ, g.le g' → ER B g' H σ ρ st → Z.nx σ H
  | .bk ρ st => ∀ g' H σ, g.le g' → ER B g' H σ ρ st → Z.bk σ H
  | .ct ρ st => ∀ g' H σ, g.le g' → ER B g' H σ ρ st → Z.ct σ H
  | .rt d st => ∀ g' H σ ρ x, g.le g' → ER B g' H σ ρ st → Rep B.R g'.F x d → Z.rt x H
  | .rtl ds st => ∀ g' H σ ρ a xs, g.le g' → ER B g' H σ ρ st → g'.F a = none → B.H0 a = none → H a = some (.lst xs) → RepL B.R g'.F xs ds → Z.rt (.ref a) H
  | .exc x ρ st => ∀ g' H σ cls dd, g.le g' → ER B g' H σ ρ st → XR B.R g'.F x cls dd → W cls dd σ H
  | .stuck => False
def tS (B : Bs) (W : WX) (c : Slots → Store → SR) : TS := fun Z σ H => ∃ g ρ st, ER B g H σ ρ st ∧ SPst B W g Z (c ρ st)
section
variable {B : Bs} {W : WX} {g g' : Gh} {Z : Ends}
theorem SPst.le {r : SR} (h : SPst B W g Z r) (l : g.le g') : SPst B W g' Z r := by
  cases r with
  | nx ρ st => exact fun g2 H σ l2 e => h g2 H σ (l.trans l2) e
  | bk ρ st => exact fun g2 H σ l2 e => h g2 H σ (l.trans l2) e
  | ct ρ st => exact fun g2 H σ l2 e => h g2 H σ (l.trans l2) e
  | rt d st => exact fun g2 H σ ρ x l2 e r => h g2 H σ ρ x (l.trans l2) e r
  | rtl ds st => exact fun g2 H σ ρ a xs l2 e => h g2 H σ ρ a xs (l.trans l2) e
  | exc x ρ st => exact fun g2 H σ cls dd l2 e r => h g2 H σ cls dd (l.trans l2) e r
  | stuck => exact h
theorem SPst.nx {ρ : Slots} {st : Store} {H : Hp} {σ : L2.St} (h : SPst B W g Z (.nx ρ st)) (e : ER B g H σ ρ st) : Z.nx σ H := h g H σ (Gh.le.refl g) e
theorem SPst.pick {α : Type} {o : Option α} {f : α → SR} (h : SPst B W g Z (pickS o f)) : ∃ a, o = some a ∧ SPst B W g Z (f a) := by
  cases o with
  | none => exact h.elim
  | some a => exact ⟨a, rfl, h⟩
/-- an expression, then -/
theorem SPst.ev {α : Type} {r : Res α} {ρ : Slots} {H : Hp} {σ : L2.St} {f : α → Store → SR} (h : SPst B W g Z (r.sr ρ f)) : Pst B W g H σ ρ r (fun a st1 g1 H1 => SPst B W g1 Z (f a st1)) := by
  cases r with
  | ok a st1 => exact fun g1 H1 e1 s1 => SPst.le (show SPst B W g Z (f a st1) from h) s1.le
  | exc x st1 => exact fun g1 H1 cls dd e1 s1 xr => h g1 H1 σ cls dd s1.le e1 xr
  | stuck => exact h
/-- what is handed on, then -/
theorem SPst.fr {v : Val} {ρ : Slots} {st : Store} {H : Hp} {σ : L2.St} {x : V} {f : D → Store → SR} (e : ER B g H σ ρ st) (r : ValR B.R B.ex g.F g.A x v) (h : SPst B W g Z ((fr B.io.length v st).sr ρ f)) :
    ∃ d st' F', ER B ⟨F', g.A⟩ H σ ρ st' ∧ Step g H ⟨F', g.A⟩ H ∧ Rep B.R F' x d ∧ SPst B W ⟨F', g.A⟩ Z (f d st') := by
  cases q : PD.fr B.io.length v st with
  | stuck => rw [q] at h; exact h.elim
  | exc x st1 => exact (fr_no_exc q).elim
  | ok d st' =>
    obtain ⟨F', e', s', r'⟩ := e.fr r q
    rw [q] at h
    exact ⟨d, st', F', e', s', r', SPst.le (show SPst B W g Z (f d st') from h) s'.le⟩
end

structure CxtS (T : Tab) (exc : List Str) (sc : Scope) (cm : Bool) (G : Gam) (B : Bs) (X : Cx) (W : WX) : Prop extends Cxt T sc cm G B X W where
  po : cm = true → PassesOwn (model X.prog X.w) X.A X.env X.xe
  bk : X.env.blockKind = .function
  stk : cm = true → X.stack = X.env :: X.outer ∧ X.env.frame = some X.env.locals ∧ B.ex = none
  raf : ∀ p ∈ T.raf, ∃ C fI, PySem.SupX.SupTxt X.prog X.K X.mg C fI p.1 p.2
  exc_ : ∀ x ∈ exc, ∃ C, X.mg x = some (.ref C) ∧ PySem.W.excIn X.K C [.type "ValueError", .type "Exception", .type "BaseException", .type "object"] "ValueError.__new__" = true ∧ PySem.W.keepIn X.K (.ref C) = true ∧
    PySem.W.subIn X.K (.ref C) (.type "BaseException") = some true ∧ PySem.W.typeIn X.K (.ref C) = some (.type "type")

section
variable {X : Cx}
theorem ps_of {st : Stmt} {t t' : TS} (h : PS X st t) (i : ∀ Z σ H, t' Z σ H → t Z σ H) : PS X st t' := ⟨fun pins s σ H Z I q => h.run pins s σ H Z I (i Z σ H q)⟩
theorem pss_of {st : List Stmt} {t t' : TS} (h : PSs X st t) (i : ∀ Z σ H, t' Z σ H → t Z σ H) : PSs X st t' := ⟨fun pins s σ H Z I q => h.run pins s σ H Z I (i Z σ H q)⟩
end
def OKS (T : Tab) (exc : List Str) (G : Gam) (s : St) : Prop := ∀ {sc : Scope} {calm : Bool} {B : Bs} {X : Cx} {W : WX}, CxtS T exc sc calm G B X W → ∀ t : Stmt, chkSt T exc sc calm s t = true → PS X t (tS B W (ex G s))
def OKSs (T : Tab) (exc : List Str) (G : Gam) (s : Sts) : Prop := ∀ {sc : Scope} {calm : Bool} {B : Bs} {X : Cx} {W : WX}, CxtS T exc sc calm G B X W → ∀ t : List Stmt, chkSs T exc sc calm s t = true → PSs X t (tS B W (exs G s))

section
variable {T : Tab} {exc : List Str} {G : Gam}
theorem swap_no {v : Expr} {t : Option Expr} {n : Nat} {env : Env} (h : notComp v = true) : swapsWith v t n env = pure false := by
  cases v <;> first
    | rfl
    | exact Bool.noConfusion (show false = true from h)
theorem swap_lc {X : Cx} {sc : Scope} (hb : X.env.blockKind = .function) (hs : ScR sc X.env.scope) {x : Str} {p : Pos} {a : Expr} {gs : List Comprehension} {scope : Scope} {d : Pos} (h : lcOwn sc x p (.ListComp a gs scope d) scope = true) :
    swapsWith (.ListComp a gs scope d) (some (.Name x p)) p.line X.env = pure true ∧ X.env.scope.names.lookup x = some .local := by
  obtain ⟨h1, h2⟩ := b2 h
  obtain ⟨h2, h3⟩ := b2 h2
  have hl := locB_ok hs h1
  refine ⟨?_, hl⟩
  show (pure (X.env.blockKind == .function && X.env.kindOf x == some .local && p.line == (Expr.ListComp a gs scope d).pos.line && !(scope.names.any fun (n, k) => n == x && (k == .local || k == .cell))) : Sem Bool) = pure true
  have e1 : (X.env.blockKind == ScopeKind.function) = true := by rw [hb]; rfl
  have e2 : (X.env.kindOf x == some NameKind.local) = true := by
    have : X.env.kindOf x = some .local := hl
    rw [this]; rfl
  rw [e1, e2, h2]
  rw [show (scope.names.any fun (n, k) => n == x && (k == .local || k == .cell)) = (scope.names.any fun q => q.1 == x && (q.2 == .local || q.2 == .cell)) from rfl]
  rw [h3]
  rfl
theorem sok_asg (t : Tg) (e : Ex) : OKS T exc G (.asg t e) := by
  intro sc calm B X W C s h
  cases s with
  | Assign ts v pos =>
    cases ts with
    | nil => exact Bool.noConfusion (show false = true from h)
    | cons tg ts =>
      cases ts with
      | cons _ _ => exact Bool.noConfusion (show false = true from h)
      | nil =>
        obtain ⟨k1, q1⟩ := b2 h
        obtain ⟨k2, q2⟩ := b2 q1
        obtain ⟨k3, k4⟩ := b2 q2
        have read : ∀ (Z : Ends) (σ : L2.St) (H : Hp), tS B W (ex G (.asg t e)) Z σ H → tE B W (ev G e) σ H (fun x H1 => tgG X.K t x σ H1 Z.nx) := fun Z σ H ⟨g, ρ, st, er, p⟩ => by
          have p' : SPst B W g Z ((ev G e ρ st).sr ρ fun v st => pickS (asgT t v ρ st) fun ρ => .nx ρ st) := p
          refine ⟨g, ρ, st, er, p'.ev.imp fun v st1 g1 H1 e1 s1 p1 x rx => ?_⟩
          obtain ⟨ρ', q, p1⟩ := p1.pick
          rw [C.K]
          exact tg_ok e1 rx q fun σ' e2 _ => p1.nx e2
        cases t with
        | nm i =>
          obtain ⟨_, x, p, rfl⟩ := nmB_ok (i := i) C.N C.nd C.sc C.fn (show nmB T sc i tg = true by cases tg <;> exact k2)
          obtain ⟨n1, n2⟩ := b2 (show (decide (T.N[i]? = some x) && (locB sc x || celB sc x)) = true from k2)
          have hL : Loc X.env.scope x ∧ (X.fn x = true ∨ X.env.scope.names.lookup x = some .local) := by
            rcases Bool.or_eq_true_iff.mp n2 with n2 | n2
            · exact ⟨.inl (locB_ok C.sc n2), .inr (locB_ok C.sc n2)⟩
            · exact ⟨.inr (C.sc.cl x (celB_ok n2)), .inl (C.fn x (celB_ok n2))⟩
          by_cases hv : notComp v = true
          · exact ps_of (ps_set (i := i) (by rw [C.N]; exact C.nd) (by rw [C.N]; exact of_decide_eq_true n1) hL.1 ((ev_ok e C.toCxt v).1 k3) (swap_no hv) hL.2) fun Z σ H q => read Z σ H q
          · cases v <;> first
              | exact absurd rfl hv
              | skip
            · rename_i a gs scope d
              cases e <;> first
                | (exfalso; cases gs <;> exact Bool.noConfusion (show false = true from k3))
                | skip
              rename_i own tg it c elt
              obtain ⟨eelt, etg, eit, ifs, scope', pos', e0, hm, j1, j2, j3, j4, j5, j6, j7⟩ := chk_lc k3
              cases e0
              obtain ⟨cm, room⟩ := C.calm j1
              obtain ⟨_, nd, hI, pl, blk, vs, pg', pt, pe⟩ := lc_parts (evI_ok it) (ev_ok c) (ev_ok elt) C.toCxt j1 j2 j3 j5 j6 j7
              rcases Bool.or_eq_true_iff.mp (show (lcOwn sc x p (.ListComp a [⟨etg, eit, ifs, 0⟩] scope d) scope || celB sc x) = true from k4) with k4 | k4
              rotate_left
              · have kk : X.env.kindOf x = some .cell := C.sc.cl x (celB_ok k4)
                exact ps_of (ps_set (i := i) (by rw [C.N]; exact C.nd) (by rw [C.N]; exact of_decide_eq_true n1) hL.1 ((ev_ok (.lc own tg it c elt) C.toCxt _).1 k3) (by
                  show (pure (X.env.blockKind == .function && X.env.kindOf x == some .local && p.line == (Expr.ListComp a [⟨etg, eit, ifs, 0⟩] scope d).pos.line && !(scope.names.any fun (n, k) => n == x && (k == .local || k == .cell))) : Sem Bool) = pure false
                  have e2 : (X.env.kindOf x == some NameKind.local) = false := by rw [kk]; rfl
                  rw [e2, Bool.and_false, Bool.false_and, Bool.false_and]) hL.2) fun Z σ H q => read Z σ H q
              obtain ⟨sw, hl⟩ := swap_lc (X := X) C.bk C.sc k4
              refine ps_of (ps_setLc (i := i) cm nd (by rw [C.N]; exact of_decide_eq_true n1) hl sw hI blk pg' pt pe (fold_ok pl)) fun Z σ H q => ?_
              rw [vs]
              exact lc_read C.toCxt j4 (read Z σ H q)
            · exact Bool.noConfusion (show false = true from k4)
            · exact Bool.noConfusion (show false = true from k4)
        | tp is =>
          cases tg <;> first
            | exact Bool.noConfusion (show false = true from k2)
            | skip
          rename_i es k p
          obtain ⟨hv, ht⟩ := b2 (show (notComp v && notTup v) = true from k4)
          have kc : calm = true := by simpa using (show (calm || false) = true from k1)
          obtain ⟨cm, room⟩ := C.calm kc
          have pg := tgB_ok (t := .tp is) (e := Expr.Tuple es k p) C.N C.nd C.sc C.fn cm k2
          have hs : swapsWithSole [Expr.Tuple es k p] v pos.line X.env = pure false := by
            show swapsWith v (some (Expr.Tuple es k p)) pos.line X.env = pure false
            exact swap_no hv
          have hw : swappedStores [Expr.Tuple es k p] v X.env = pure none := by
            cases v <;> first
              | rfl
              | exact Bool.noConfusion (show false = true from ht)
          exact ps_of (ps_asg ((ev_ok e C.toCxt v).1 k3) pg hs hw rfl) fun Z σ H q => read Z σ H q
  | _ => exact Bool.noConfusion (show false = true from h)
theorem chkSt_six {sc : Scope} {calm : Bool} {i : Nat} {k e : Ex} {s : Stmt} (h : chkSt T exc sc calm (.six i k e) s = true) : ∃ x p1 ek p2 v pos, s = .Assign [.Subscript (.Name x p1) ek p2] v pos ∧ T.N[i]? = some x ∧ visB sc x = true ∧ PD.seen x = true ∧ notComp v = true ∧ chk T sc calm e false v = true ∧ plainE ek = true ∧ chk T sc calm k false ek = true := by
  cases s with
  | Assign ts v pos =>
    cases ts with
    | nil => exact Bool.noConfusion (show false = true from h)
    | cons tg ts =>
      cases tg with
      | Subscript o ek p2 =>
        cases o with
        | Name x p1 =>
          cases ts with
          | cons _ _ => exact Bool.noConfusion (show false = true from h)
          | nil =>
            obtain ⟨k1, q1⟩ := b2 h
            obtain ⟨k2, q2⟩ := b2 q1
            obtain ⟨k3, q3⟩ := b2 q2
            obtain ⟨k4, q4⟩ := b2 q3
            obtain ⟨k5, q5⟩ := b2 q4
            obtain ⟨k6, k7⟩ := b2 q5
            exact ⟨x, p1, ek, p2, v, pos, rfl, of_decide_eq_true k1, k2, k3, k4, k5, k6, k7⟩
        | _ => cases ts <;> exact Bool.noConfusion (show false = true from h)
      | _ => cases ts <;> exact Bool.noConfusion (show false = true from h)
  | _ => exact Bool.noConfusion (show false = true from h)
theorem ER.varAt {B : Bs} {g : Gh} {H : Hp} {σ : L2.St} {ρ : Slots} {st : Store} (er : ER B g H σ ρ st) {i : Nat} {v : Val} (q : ρ[i]? = some (some v)) : ∃ x, σ[i]? = some (some x) ∧ ValR B.R B.ex g.F g.A x v := by
  have hi : i < σ.length := by
    rw [er.slen]; exact (List.getElem?_eq_some_iff.mp q).1
  obtain ⟨x, e1, r⟩ := er.slots i _ _ (List.getElem?_eq_getElem hi) q
  exact ⟨x, by rw [List.getElem?_eq_getElem hi, e1], r⟩
theorem assign_sub {o ek : Expr} {p : Pos} {env : Env} {v : Value} (h : plainE ek = true) : assign (.Subscript o ek p) env v = (do
      let ov ← holding [v] (eval o env)
      let iv ← holding [v, ov] (eval ek env)
      standAt p
      holding [v, ov, iv] (setItem ov iv v)
      release [v, ov, iv] []) := by
  cases ek <;> first
    | rfl
    | exact Bool.noConfusion (show false = true from h)
theorem sok_six (i : Nat) (k e : Ex) : OKS T exc G (.six i k e) := by
  intro sc calm B X W C s h
  obtain ⟨x, p1, ek, p2, v, pos, rfl, k1, k2, k3, k4, k5, k6, k7⟩ := chkSt_six h
  obtain ⟨n1, n2, _, _⟩ := seen_ok k3
  have pgs : PG X (.Subscript (.Name x p1) ek p2) (gSub (tVar i) (tE B W (ev G k)) rSetL) := pg_sub (pe_var (i := i) (by rw [C.N]; exact k1) (C.vis k2) n1 n2) ((ev_ok k C.toCxt ek).1 k7) set_list (fun _ => assign_sub k6)
  have hs : swapsWithSole [Expr.Subscript (.Name x p1) ek p2] v pos.line X.env = pure false := by
    show swapsWith v (some (Expr.Subscript (.Name x p1) ek p2)) pos.line X.env = pure false
    exact swap_no k4
  refine ps_of (ps_asg ((ev_ok e C.toCxt v).1 k5) pgs hs rfl rfl) fun Z σ H ⟨g, ρ, st, er, p⟩ => ?_
  have p' : SPst B W g Z ((ev G e ρ st).sr ρ fun v st => match ρ[i]? with
    | some (some (.loc n)) => (ev G k ρ st).sr ρ fun y st => (fr G.io v st).sr ρ fun d st => (match dr st y, st[n]? with
      | some (.int j), some (.lst ds) => pickS (ixN ds.length j) fun m => .nx ρ (st.set n (.lst (ds.set m d)))
      | _, _ => .stuck)
    | _ => .stuck) := p
  refine ⟨g, ρ, st, er, p'.ev.imp fun w st1 g1 H1 e1 s1 p1 xv rv => ?_⟩
  cases q : ρ[i]? with
  | none => simp only [q] at p1; exact p1.elim
  | some o =>
    cases o with
    | none => simp only [q] at p1; exact p1.elim
    | some vi =>
      cases vi with
      | fz _ => simp only [q] at p1; exact p1.elim
      | exn _ => simp only [q] at p1; exact p1.elim
      | loc n =>
        simp only [q] at p1
        obtain ⟨xo, hx, rx⟩ := e1.varAt q
        refine ⟨xo, hx, g1, ρ, st1, e1, p1.ev.imp fun y st2 g2 H2 e2 s2 p2 yv ry => ?_⟩
        rw [C.io] at p2
        obtain ⟨d, st3, F3, e3, s3, r3, p3⟩ := p2.fr e2 (rv.up s2.le)
        cases q1 : dr st3 y with
        | none => simp only [q1] at p3; exact p3.elim
        | some dy =>
          cases q2 : st3[n]? with
          | none => simp only [q1, q2] at p3; cases dy <;> exact p3.elim
          | some c =>
            cases dy with
            | int j =>
              cases c with
              | lst ds =>
                simp only [q1, q2] at p3
                obtain ⟨m, q3, p4⟩ := p3.pick
                obtain ⟨a, hA, rfl⟩ := rx.up (s2.le.trans s3.le)
                obtain rfl := (e3.rd (ry.up s3.le) q1).int
                obtain ⟨_, xs, hxs, k⟩ := e3.conts n a _ hA q2
                refine ⟨a, xs, j, m, rfl, rfl, hxs, by rw [k.length]; exact q3, ?_⟩
                obtain ⟨e4, s4⟩ := e3.put (c := .lst (ds.set m d)) (o := .lst (xs.set m xv)) hA q2 rfl rfl fun H' hH => ⟨(e3.conts n a _ hA q2).out rfl, _, hH, k.set m r3⟩
                exact p4 _ _ _ (Gh.le.refl _) e4
              | _ => simp only [q1, q2] at p3; exact p3.elim
            | _ => simp only [q1, q2] at p3; exact p3.elim
theorem chkSt_app {sc : Scope} {calm : Bool} {i : Nat} {e : Ex} {s : Stmt} (h : chkSt T exc sc calm (.app i e) s = true) : ∃ x p1 ap ee cp pos, s = .Expr (.Call (.Attribute (.Name x p1) "append" ap) [ee] [] cp) pos ∧ T.N[i]? = some x ∧ visB sc x = true ∧ PD.seen x = true ∧ (ap.endLine == cp.line) = true ∧ plainE ee = true ∧ chk T sc calm e false ee = true := by
  cases s with
  | Expr v pos =>
    cases v with
    | Call f es kws cp =>
      cases f with
      | Attribute o m ap =>
        cases o with
        | Name x p1 =>
          cases es with
          | nil => exact Bool.noConfusion (show false = true from h)
          | cons ee es =>
            cases es with
            | cons _ _ => exact Bool.noConfusion (show false = true from h)
            | nil =>
              cases kws with
              | cons _ _ => exact Bool.noConfusion (show false = true from h)
              | nil =>
                obtain ⟨k1, q1⟩ := b2 h
                obtain ⟨k2, q2⟩ := b2 q1
                obtain ⟨k3, q3⟩ := b2 q2
                obtain ⟨k4, q4⟩ := b2 q3
                obtain ⟨k5, q5⟩ := b2 q4
                obtain ⟨k6, k7⟩ := b2 q5
                have hm : m = "append" := of_decide_eq_true k4
                subst hm
                exact ⟨x, p1, ap, ee, cp, pos, rfl, of_decide_eq_true k1, k2, k3, k5, k6, k7⟩
        | _ => cases es <;> exact Bool.noConfusion (show false = true from h)
      | _ => cases es <;> exact Bool.noConfusion (show false = true from h)
    | _ => exact Bool.noConfusion (show false = true from h)
  | _ => exact Bool.noConfusion (show false = true from h)
theorem sok_app (i : Nat) (e : Ex) : OKS T exc G (.app i e) := by
  intro sc calm B X W C s h
  obtain ⟨x, p1, ap, ee, cp, pos, rfl, k1, k2, k3, k4, k5, k6⟩ := chkSt_app h
  obtain ⟨n1, n2, _, _⟩ := seen_ok k3
  have hfew : ((backTo cp (starEach (ee :: []) X.env)).all (fun x => !x.1) && (backToKw cp (keywordEach [] X.env)).all (fun x => x.1.isSome) && decide ((ee :: []).length + ([] : List Keyword).length + (if ([] : List Keyword).isEmpty then 0 else 1) < 30)) = true := by
    rw [star_ok k5] <;> rfl
  refine ps_of (ps_expr (pe_bm PySem.F.plainAttrs_list PySem.F.slot_list_append PySem.F.type_list_append mt_append (pe_var (i := i) (by rw [C.N]; exact k1) (C.vis k2) n1 n2)
    (pa_cons ((ev_ok e C.toCxt ee).1 k6) pa_nil (star_ok k5)) rfl hfew k4 (star_ok k5) rfl) rfl) fun Z σ H ⟨g, ρ, st, er, p⟩ => ?_
  have p' : SPst B W g Z (match ρ[i]? with
    | some (some (.loc n)) => (match st[n]? with
      | some (.lst _) => (ev G e ρ st).sr ρ fun v st => (fr G.io v st).sr ρ fun d st => (match st[n]? with
        | some (.lst ds) => if ds.length < LIM then .nx ρ (st.set n (.lst (ds ++ [d]))) else .stuck
        | _ => .stuck)
      | _ => .stuck)
    | _ => .stuck) := p
  cases q : ρ[i]? with
  | none => simp only [q] at p'; exact p'.elim
  | some o =>
    cases o with
    | none => simp only [q] at p'; exact p'.elim
    | some vi =>
      cases vi with
      | fz _ => simp only [q] at p'; exact p'.elim
      | exn _ => simp only [q] at p'; exact p'.elim
      | loc n =>
        simp only [q] at p'
        obtain ⟨xo, hx, rx⟩ := er.varAt q
        refine ⟨xo, hx, ?_⟩
        obtain ⟨a, hA, rfl⟩ := id rx
        cases q0 : st[n]? with
        | none => simp only [q0] at p'; exact p'.elim
        | some c0 =>
          cases c0 with
          | lst ds0 =>
            simp only [q0] at p'
            obtain ⟨_, xs0, hxs0, _⟩ := er.conts n a _ hA q0
            refine ⟨.inl ⟨rfl, xs0, SqL.of hxs0⟩, g, ρ, st, er, p'.ev.imp fun w st1 g1 H1 e1 s1 p1 xv rv => ?_⟩
            rw [C.io] at p1
            obtain ⟨d, st3, F3, e3, s3, r3, p3⟩ := p1.fr e1 rv
            cases q2 : st3[n]? with
            | none => simp only [q2] at p3; exact p3.elim
            | some c =>
              cases c with
              | lst ds =>
                simp only [q2] at p3
                by_cases hz : ds.length < LIM
                · rw [if_pos hz] at p3
                  obtain ⟨a', hA', e'⟩ := rx.up (s1.le.trans s3.le)
                  cases e'
                  obtain ⟨_, xs, hxs, k⟩ := e3.conts n a _ hA' q2
                  refine ⟨a, xs, xv, rfl, rfl, hxs, by rw [k.length, ← lim_eq]; exact hz, ?_⟩
                  obtain ⟨e4, s4⟩ := e3.put (c := .lst (ds ++ [d])) (o := .lst (xs ++ [xv])) hA' q2 rfl rfl fun H' hH => ⟨(e3.conts n a _ hA' q2).out rfl, _, hH, k.append (.cons r3 .nil)⟩
                  exact p3 _ _ _ (Gh.le.refl _) e4
                · rw [if_neg hz] at p3; exact p3.elim
              | _ => simp only [q2] at p3; exact p3.elim
          | _ => simp only [q0] at p'; exact p'.elim
theorem sok_exp (e : Ex) : OKS T exc G (.exp e) := by
  intro sc calm B X W C s h
  cases s with
  | Expr v pos =>
    obtain ⟨k1, k2⟩ := b2 (show (notComp v && chk T sc calm e false v) = true from h)
    refine ps_of (ps_expr ((ev_ok e C.toCxt v).1 k2) (swap_no k1)) fun Z σ H ⟨g, ρ, st, er, p⟩ => ?_
    have p' : SPst B W g Z ((ev G e ρ st).sr ρ fun _ st => .nx ρ st) := p
    exact ⟨g, ρ, st, er, p'.ev.imp fun w st1 g1 H1 e1 s1 p1 xv rv => p1.nx e1⟩
  | _ => exact Bool.noConfusion (show false = true from h)
theorem spst_bool {B : Bs} {W : WX} {g : Gh} {Z : Ends} {x : Val} {kt kf : SR} (p : SPst B W g Z (match x with | .fz (.bl true) => kt | .fz (.bl false) => kf | _ => .stuck)) : (x = .fz (.bl true) ∧ SPst B W g Z kt) ∨ (x = .fz (.bl false) ∧ SPst B W g Z kf) := by
  split at p
  · exact .inl ⟨rfl, p⟩
  · exact .inr ⟨rfl, p⟩
  · exact p.elim
theorem sok_if (c : Ex) {a b : Sts} (ha : OKSs T exc G a) (hb : OKSs T exc G b) : OKS T exc G (.if_ c a b) := by
  intro sc calm B X W C s h
  cases s with
  | If ec ea eb pos =>
    obtain ⟨k1, q1⟩ := b2 (show (chk T sc calm c true ec && (chkSs T exc sc calm a ea && chkSs T exc sc calm b eb)) = true from h)
    obtain ⟨k2, k3⟩ := b2 q1
    refine ps_of (ps_if ((ev_ok c C.toCxt ec).2 k1).1 (ha C ea k2) (hb C eb k3)) fun Z σ H ⟨g, ρ, st, er, p⟩ => ?_
    have p' : SPst B W g Z ((ev G c ρ st).sr ρ fun x st => match x with
      | .fz (.bl true) => exs G a ρ st
      | .fz (.bl false) => exs G b ρ st
      | _ => .stuck) := p
    refine ⟨g, ρ, st, er, p'.ev.imp fun w st1 g1 H1 e1 s1 p1 => ?_⟩
    rcases spst_bool p1 with ⟨rfl, p2⟩ | ⟨rfl, p2⟩
    · exact ⟨true, rfl, iteT ⟨g1, ρ, st1, e1, p2⟩⟩
    · exact ⟨false, rfl, iteF ⟨g1, ρ, st1, e1, p2⟩⟩
  | _ => exact Bool.noConfusion (show false = true from h)
theorem sok_ret (e : Ex) : OKS T exc G (.ret e) := by
  intro sc calm B X W C s h
  cases s with
  | Return v pos =>
    cases v with
    | none => exact Bool.noConfusion (show false = true from h)
    | some v =>
      refine ps_of (ps_ret ((ev_ok e C.toCxt v).1 h)) fun Z σ H ⟨g, ρ, st, er, p⟩ => ?_
      have p' : SPst B W g Z ((ev G e ρ st).sr ρ fun v st => (fr G.io v st).sr ρ fun d st => .rt d st) := p
      refine ⟨g, ρ, st, er, p'.ev.imp fun w st1 g1 H1 e1 s1 p1 xv rv => ?_⟩
      rw [C.io] at p1
      obtain ⟨d, st3, F3, e3, s3, r3, p3⟩ := p1.fr e1 rv
      exact p3 _ _ _ _ _ (Gh.le.refl _) e3 r3
  | _ => exact Bool.noConfusion (show false = true from h)
theorem sok_retl (e : Ex) : OKS T exc G (.retl e) := by
  intro sc calm B X W C s h
  cases s with
  | Return v pos =>
    cases v with
    | none => exact Bool.noConfusion (show false = true from h)
    | some v =>
      refine ps_of (ps_ret ((ev_ok e C.toCxt v).1 h)) fun Z σ H ⟨g, ρ, st, er, p⟩ => ?_
      have p' : SPst B W g Z ((ev G e ρ st).sr ρ fun v st => match v with
        | .loc n => if G.io ≤ n then (match st[n]? with
          | some (.lst ds) => .rtl ds st
          | _ => .stuck) else .stuck
        | _ => .stuck) := p
      refine ⟨g, ρ, st, er, p'.ev.imp fun w st1 g1 H1 e1 s1 p1 xv rv => ?_⟩
      cases w with
      | fz _ => exact p1.elim
      | exn _ => exact p1.elim
      | loc n =>
        simp only at p1
        by_cases hn : G.io ≤ n
        · rw [if_pos hn] at p1
          cases q : st1[n]? with
          | none => simp only [q] at p1; exact p1.elim
          | some c =>
            cases c with
            | lst ds =>
              simp only [q] at p1
              obtain ⟨a, hA, rfl⟩ := rv
              obtain ⟨hF, xs, hxs, k⟩ := e1.conts n a _ hA q
              exact p1 _ _ _ _ a xs (Gh.le.refl _) e1 hF (e1.own n a (by rw [← C.io]; exact hn) hA) hxs k
            | _ => simp only [q] at p1; exact p1.elim
        · rw [if_neg hn] at p1; exact p1.elim
  | _ => exact Bool.noConfusion (show false = true from h)
theorem ps_never {X : Cx} {t : Stmt} {q : TS} (h : ∀ Z σ H, ¬ q Z σ H) : PS X t q := ⟨fun pins s σ H Z I z => (h Z σ H z).elim⟩
theorem sok_dead : OKS T exc G .dead := by
  intro sc calm B X W C t h
  exact ps_never fun Z σ H ⟨g, ρ, st, er, p⟩ => (show SPst B W g Z .stuck from p)
theorem sok_small {s : St} (hs : s = .retn ∨ s = .pass ∨ s = .brk ∨ s = .cnt) : OKS T exc G s := by
  intro sc calm B X W C t h
  rcases hs with rfl | rfl | rfl | rfl
  · cases t with
    | Return v pos =>
      cases v with
      | some _ => exact Bool.noConfusion (show false = true from h)
      | none => exact ps_of ps_retN fun Z σ H ⟨g, ρ, st, er, p⟩ => (show SPst B W g Z (.rt .non st) from p) g H σ ρ .non (Gh.le.refl g) er .non
    | _ => exact Bool.noConfusion (show false = true from h)
  · cases t with
    | Pass pos => exact ps_of ps_pass fun Z σ H ⟨g, ρ, st, er, p⟩ => (show SPst B W g Z (.nx ρ st) from p) g H σ (Gh.le.refl g) er
    | _ => exact Bool.noConfusion (show false = true from h)
  · cases t with
    | Break pos => exact ps_of ps_break fun Z σ H ⟨g, ρ, st, er, p⟩ => (show SPst B W g Z (.bk ρ st) from p) g H σ (Gh.le.refl g) er
    | _ => exact Bool.noConfusion (show false = true from h)
  · cases t with
    | Continue pos => exact ps_of ps_continue fun Z σ H ⟨g, ρ, st, er, p⟩ => (show SPst B W g Z (.ct ρ st) from p) g H σ (Gh.le.refl g) er
    | _ => exact Bool.noConfusion (show false = true from h)
theorem sok_rais (c : Str) : OKS T exc G (.rais c) := by
  intro sc calm B X W C t h
  cases t with
  | Raise v cs pos =>
    cases v with
    | none => exact Bool.noConfusion (show false = true from h)
    | some v =>
      cases v with
      | Call f es kws p =>
        cases f with
        | Name x p1 =>
          cases es with
          | nil => exact Bool.noConfusion (show false = true from h)
          | cons e es =>
            cases e with
            | Constant k kk p2 =>
              cases k with
              | str m =>
                cases es with
                | cons _ _ => exact Bool.noConfusion (show false = true from h)
                | nil =>
                  cases kws with
                  | cons _ _ => exact Bool.noConfusion (show false = true from h)
                  | nil =>
                    cases cs with
                    | some _ => exact Bool.noConfusion (show false = true from h)
                    | none =>
                      obtain ⟨k1, q1⟩ := b2 h
                      obtain ⟨k2, q2⟩ := b2 q1
                      obtain ⟨k3, q3⟩ := b2 q2
                      obtain ⟨k4, k5⟩ := b2 q3
                      have hx : c = x := of_decide_eq_true k2
                      subst hx
                      obtain ⟨cm, room⟩ := C.calm k1
                      obtain ⟨A, hm, hE, hk, hs, ht⟩ := C.exc_ c (List.contains_iff_mem.mp k3)
                      obtain ⟨n1, _, _, _⟩ := seen_ok k5
                      refine ps_of (ps_raise cm C.tk (pmk_own PySem.F.excBase_ValueError hE hm hk (raises_own hs ht) (C.glob k4) n1)) fun Z σ H ⟨g, ρ, st, er, p⟩ => ?_
                      exact (show SPst B W g Z (.exc ⟨c, []⟩ ρ st) from p) g H σ (.ref A) none (Gh.le.refl g) er ⟨⟨A, by rw [← C.mg]; exact hm, rfl⟩, .inl ⟨rfl, rfl⟩⟩
              | _ => exact Bool.noConfusion (show false = true from h)
            | _ => exact Bool.noConfusion (show false = true from h)
        | _ => cases es <;> exact Bool.noConfusion (show false = true from h)
      | _ => exact Bool.noConfusion (show false = true from h)
  | _ => exact Bool.noConfusion (show false = true from h)
theorem sok_raisf (c f : Str) (e : Ex) : OKS T exc G (.raisf c f e) := by
  intro sc calm B X W C t h
  cases t with
  | Raise v cs pos =>
    cases v with
    | none => exact Bool.noConfusion (show false = true from h)
    | some v =>
      cases v with
      | Call g es kws p =>
        cases g with
        | Name x p1 =>
          cases es with
          | nil => exact Bool.noConfusion (show false = true from h)
          | cons ea es =>
            cases es with
            | cons _ _ => exact Bool.noConfusion (show false = true from h)
            | nil =>
              cases kws with
              | cons _ _ => exact Bool.noConfusion (show false = true from h)
              | nil =>
                cases cs with
                | some _ => exact Bool.noConfusion (show false = true from h)
                | none =>
                  obtain ⟨k1, q1⟩ := b2 (show (calm && (decide (c = x) && (T.raf.contains (c, f) && (T.free.contains "super" && (glB sc x && (PD.seen x && (plainE ea && chk T sc calm e false ea))))))) = true from h)
                  obtain ⟨k2, q2⟩ := b2 q1
                  obtain ⟨k3, q3⟩ := b2 q2
                  obtain ⟨k4, q4⟩ := b2 q3
                  obtain ⟨k5, q5⟩ := b2 q4
                  obtain ⟨k6, q6⟩ := b2 q5
                  obtain ⟨k7, k8⟩ := b2 q6
                  have hx : c = x := of_decide_eq_true k2
                  subst hx
                  obtain ⟨cm, room⟩ := C.calm k1
                  obtain ⟨A, fI, S⟩ := C.raf (c, f) (List.contains_iff_mem.mp k3)
                  obtain ⟨n1, _, _, _⟩ := seen_ok k6
                  refine ps_of (ps_raise cm C.tk (pmk_sup S (C.free _ (List.contains_iff_mem.mp k4)) room (pa_cons ((ev_ok e C.toCxt ea).1 k8) pa_nil (star_ok k7)) (C.glob k5) n1 (star_ok k7))) fun Z σ H ⟨g, ρ, st, er, p⟩ => ?_
                  have p' : SPst B W g Z ((ev G e ρ st).sr ρ fun v st => (fr G.io v st).sr ρ fun d st => .exc ⟨c, [(f, d)]⟩ ρ st) := p
                  refine ⟨g, ρ, st, er, p'.ev.imp fun w st1 g1 H1 e1 s1 p1 xv rv => ?_⟩
                  rw [C.io] at p1
                  obtain ⟨d, st3, F3, e3, s3, r3, p3⟩ := p1.fr e1 rv
                  refine ⟨xv, rfl, fun a ha => ?_⟩
                  obtain ⟨e4, s4⟩ := e3.lay (o := .xd [(f, xv)]) ha
                  exact p3 _ _ _ (.ref A) (some a) s4.le e4 ⟨⟨A, by rw [← C.mg]; exact S.gC, rfl⟩, .inr ⟨a, [(f, xv)], rfl, upd_same, rfl, .cons (r3.mono s4.le.F) .nil⟩⟩
        | _ => cases es <;> exact Bool.noConfusion (show false = true from h)
      | _ => exact Bool.noConfusion (show false = true from h)
  | _ => exact Bool.noConfusion (show false = true from h)
theorem sok_nil : OKSs T exc G .nil := by
  intro sc calm B X W C t h
  cases t with
  | nil => exact pss_of pss_nil fun Z σ H ⟨g, ρ, st, er, p⟩ => (show SPst B W g Z (.nx ρ st) from p) g H σ (Gh.le.refl g) er
  | cons _ _ => exact Bool.noConfusion (show false = true from h)
theorem sok_cons {s : St} {ss : Sts} (hs : OKS T exc G s) (hss : OKSs T exc G ss) : OKSs T exc G (.cons s ss) := by
  intro sc calm B X W C t h
  cases t with
  | nil => exact Bool.noConfusion (show false = true from h)
  | cons t ts =>
    obtain ⟨k1, k2⟩ := b2 (show (chkSt T exc sc calm s t && chkSs T exc sc calm ss ts) = true from h)
    refine pss_of (pss_cons (hs C t k1) (hss C ts k2)) fun Z σ H ⟨g, ρ, st, er, p⟩ => ?_
    have p' : SPst B W g Z ((ex G s ρ st).bind fun ρ st => exs G ss ρ st) := p
    refine ⟨g, ρ, st, er, ?_⟩
    cases q : ex G s ρ st with
    | nx ρ' st' =>
      rw [q] at p'
      exact fun g' H' σ' l e => ⟨g', ρ', st', e, SPst.le (show SPst B W g Z (exs G ss ρ' st') from p') l⟩
    | bk ρ' st' => rw [q] at p'; exact p'
    | ct ρ' st' => rw [q] at p'; exact p'
    | rt d st' => rw [q] at p'; exact p'
    | rtl d st' => rw [q] at p'; exact p'
    | exc x ρ' st' => rw [q] at p'; exact p'
    | stuck => rw [q] at p'; exact p'
end
end PD

/-! PD15 -/
set_option Elab.async false
set_option linter.all false
set_option maxRecDepth 100000
set_option maxHeartbeats 4000000
/-! PD: loops. -/
namespace PD
open PySem PySem.Spec PyProof.Rows L2
section
variable {T : Tab} {exc : List Str} {G : Gam}
theorem spst_if {B : Bs} {W : WX} {g : Gh} {Z : Ends} {c : Prop} [Decidable c] {r : SR} (p : SPst B W g Z (if c then r else .stuck)) : c ∧ SPst B W g Z r := by
  by_cases h : c
  · rw [if_pos h] at p; exact ⟨h, p⟩
  · rw [if_neg h] at p; exact p.elim
theorem sok_for (t : Tg) (it : It) {b : Sts} (hb : OKSs T exc G b) : OKS T exc G (.for_ t it b) := by
  intro sc calm B X W C s h
  cases s with
  | For etg eit eb orelse pos =>
    cases orelse with
    | cons _ _ => exact Bool.noConfusion (show false = true from h)
    | nil =>
      obtain ⟨k1, q1⟩ := b2 (show (calm && (tgB T sc t etg && (chkI T sc calm it eit && chkSs T exc sc calm b eb))) = true from h)
      obtain ⟨k2, q2⟩ := b2 q1
      obtain ⟨k3, k4⟩ := b2 q2
      obtain ⟨cm, room⟩ := C.calm k1
      obtain ⟨hI, pl⟩ := evI_ok it C.toCxt etg eit k3
      refine ps_of (ps_for (C.po k1) cm hI (tgB_ok C.N C.nd C.sc C.fn cm k2) (hb C eb k4) (fold_ok pl)) fun Z σ H ⟨g, ρ, st, er, p⟩ => ?_
      have p' : SPst B W g Z ((evI G it ρ st).sr ρ fun I st => pickS (I.size st) fun n => forLoop I (fun d ρ st => pickS (asgT t (.fz d) ρ st) fun ρ => exs G b ρ st) n 0 ρ st) := p
      refine ⟨g, ρ, st, er, p'.ev.imp fun I st1 g1 H1 e1 s1 p1 J hJ => ?_⟩
      obtain ⟨n, hn, p1⟩ := p1.pick
      generalize hbody : (fun (d : D) (ρ : Slots) (st : Store) => pickS (asgT t (.fz d) ρ st) fun ρ => exs G b ρ st) = body at p1
      refine ⟨fun i m σ H => ∃ g2 ρ2 st2, ER B g2 H σ ρ2 st2 ∧ g1.le g2 ∧ i ≤ n ∧ m = n - i ∧ SPst B W g2 Z (forLoop I body (n - i) i ρ2 st2), ⟨n, g1, ρ, st1, e1, Gh.le.refl _, Nat.zero_le _, rfl, p1⟩, ?_⟩
      rintro i m σ2 H2 ⟨g2, ρ2, st2, e2, l2, hin, rfl, p2⟩
      by_cases hlt : i < n
      · obtain ⟨k, hk⟩ : ∃ k, n - i = k + 1 := ⟨n - i - 1, by omega⟩
        rw [hk] at p2
        obtain ⟨hsz, p3⟩ := spst_if (show SPst B W g2 Z (if I.size st2 = some (i + (k + 1)) then pickS (I.at st2 i) fun d => match body d ρ2 st2 with
          | .nx ρ' st' => forLoop I body k (i + 1) ρ' st'
          | .ct ρ' st' => forLoop I body k (i + 1) ρ' st'
          | .bk ρ' st' => .nx ρ' st'
          | r => r else .stuck) from p2)
        obtain ⟨d, hd, p4⟩ := p3.pick
        obtain ⟨go, yl⟩ := it_go e2 (hJ.up l2) hsz (by omega) hd
        have hk' : n - (i + 1) = k := by omega
        refine .inr ⟨go, fun σ' H' => ∃ g3 ρ3 st3, ER B g3 H' σ' ρ3 st3 ∧ g1.le g3 ∧ SPst B W g3 Z (forLoop I body (n - (i + 1)) (i + 1) ρ3 st3), fun σ' H' ⟨g3, ρ3, st3, z1, z2, z3⟩ => ⟨n - (i + 1), by omega, g3, ρ3, st3, z1, z2, by omega, rfl, z3⟩, fun x H' y => ?_⟩
        obtain ⟨rfl, rx⟩ := yl x H' y
        have hb1 : body d ρ2 st2 = pickS (asgT t (.fz d) ρ2 st2) fun ρ => exs G b ρ st2 := by rw [← hbody]
        cases hasg : asgT t (.fz d) ρ2 st2 with
        | none =>
          rw [hb1, hasg] at p4
          exact p4.elim
        | some ρ3 =>
          rw [hb1, hasg] at p4
          rw [C.K]
          refine tg_ok e2 (v := .fz d) rx hasg fun σ3 e3 _ => ⟨g2, ρ3, st2, e3, ?_⟩
          have p5 : SPst B W g2 Z (match exs G b ρ3 st2 with
            | .nx ρ' st' => forLoop I body k (i + 1) ρ' st'
            | .ct ρ' st' => forLoop I body k (i + 1) ρ' st'
            | .bk ρ' st' => .nx ρ' st'
            | r => r) := p4
          rw [hk']
          cases q : exs G b ρ3 st2 with
          | nx ρ4 st4 => rw [q] at p5; exact fun g4 H4 σ4 l4 e4 => ⟨g4, ρ4, st4, e4, l2.trans l4, SPst.le p5 l4⟩
          | ct ρ4 st4 => rw [q] at p5; exact fun g4 H4 σ4 l4 e4 => ⟨g4, ρ4, st4, e4, l2.trans l4, SPst.le p5 l4⟩
          | bk ρ4 st4 => rw [q] at p5; exact p5
          | rt d4 st4 => rw [q] at p5; exact p5
          | rtl d4 st4 => rw [q] at p5; exact p5
          | exc x4 ρ4 st4 => rw [q] at p5; exact p5
          | stuck => rw [q] at p5; exact p5.elim
      · have hin' : i = n := by omega
        subst hin'
        rw [Nat.sub_self] at p2
        obtain ⟨hsz, p3⟩ := spst_if (show SPst B W g2 Z (if I.size st2 = some i then .nx ρ2 st2 else .stuck) from p2)
        exact .inl ⟨it_stop e2 (hJ.up l2) hsz, p3.nx e2⟩
  | _ => exact Bool.noConfusion (show false = true from h)

theorem whileN_up {c : Slots → Store → Res Val} {body : Slots → Store → SR} : ∀ {n : Nat} {ρ : Slots} {st : Store} {r : SR}, whileN c body n ρ st = some r → ∀ k, whileN c body (n + k) ρ st = some r
  | 0, _, _, _, h, _ => by cases h
  | n + 1, ρ, st, r, h, k => by
    have e : n + 1 + k = (n + k) + 1 := by omega
    rw [e]
    unfold whileN at h ⊢
    cases q : c ρ st with
    | stuck => rw [q] at h; exact h
    | exc x st1 => rw [q] at h; exact h
    | ok v st1 =>
      rw [q] at h
      cases v with
      | loc _ => exact h
      | exn _ => exact h
      | fz d =>
        cases d with
        | bl b =>
          cases b with
          | false => exact h
          | true =>
            simp only at h ⊢
            cases q2 : body ρ st1 with
            | nx ρ2 st2 => simp only [q2] at h ⊢; exact whileN_up h k
            | ct ρ2 st2 => simp only [q2] at h ⊢; exact whileN_up h k
            | bk ρ2 st2 => simp only [q2] at h ⊢; exact h
            | rt d st2 => simp only [q2] at h ⊢; exact h
            | rtl d st2 => simp only [q2] at h ⊢; exact h
            | exc x ρ2 st2 => simp only [q2] at h ⊢; exact h
            | stuck => simp only [q2] at h ⊢; exact h
        | _ => exact h
theorem whileS_eq {c : Slots → Store → Res Val} {body : Slots → Store → SR} {ρ : Slots} {st : Store} {n : Nat} {r : SR} (h : whileN c body n ρ st = some r) : whileS c body ρ st = r := by
  have hx : ∃ n r, whileN c body n ρ st = some r := ⟨n, r, h⟩
  unfold whileS
  rw [dif_pos hx]
  have h2 := (Classical.choose_spec hx).choose_spec
  generalize (Classical.choose_spec hx).choose = r2 at *
  generalize Classical.choose hx = n2 at *
  have a := whileN_up h n2
  have b := whileN_up h2 n
  rw [Nat.add_comm] at b
  rw [a] at b
  exact (Option.some.inj b).symm
theorem sok_whl (c : Ex) {b : Sts} (hb : OKSs T exc G b) : OKS T exc G (.whl c b) := by
  intro sc calm B X W C s h
  cases s with
  | While ec eb orelse pos =>
    cases orelse with
    | cons _ _ => exact Bool.noConfusion (show false = true from h)
    | nil =>
      obtain ⟨k1, q1⟩ := b2 (show (calm && (chk T sc calm c true ec && chkSs T exc sc calm b eb)) = true from h)
      obtain ⟨k2, k3⟩ := b2 q1
      refine ps_of (ps_while (C.po k1) ((ev_ok c C.toCxt ec).2 k2).1 (hb C eb k3)) fun Z σ H ⟨g, ρ, st, er, p⟩ => ?_
      have p' : SPst B W g Z (whileS (ev G c) (exs G b) ρ st) := p
      have hx : ∃ n r, whileN (ev G c) (exs G b) n ρ st = some r := by
        cases Classical.em (∃ n r, whileN (ev G c) (exs G b) n ρ st = some r) with
        | inl h => exact h
        | inr h =>
          unfold whileS at p'
          rw [dif_neg h] at p'
          exact p'.elim
      obtain ⟨n, r, hn⟩ := hx
      rw [whileS_eq hn] at p'
      refine ⟨fun m σ H => ∃ g ρ st r, ER B g H σ ρ st ∧ whileN (ev G c) (exs G b) m ρ st = some r ∧ SPst B W g Z r, ⟨n, g, ρ, st, r, er, hn, p'⟩, ?_⟩
      clear hn p' p er
      rintro m σ2 H2 ⟨g2, ρ2, st2, r2, e2, hm, p2⟩
      cases m with
      | zero => cases hm
      | succ m =>
        refine ⟨g2, ρ2, st2, e2, ?_⟩
        unfold whileN at hm
        cases q : ev G c ρ2 st2 with
        | stuck => rw [q] at hm; cases hm; exact p2
        | exc x st3 =>
          rw [q] at hm; cases hm
          exact fun g3 H3 cls dd e3 s3 xr => p2 g3 H3 _ cls dd s3.le e3 xr
        | ok v st3 =>
          rw [q] at hm
          intro g3 H3 e3 s3
          have bad : some SR.stuck = some r2 → False := fun z => by cases z; exact p2
          cases v with
          | loc _ => exact (bad hm).elim
          | exn _ => exact (bad hm).elim
          | fz d =>
            cases d with
            | bl bv =>
              refine ⟨bv, rfl, ?_⟩
              cases bv with
              | false =>
                have hm' : some (SR.nx ρ2 st3) = some r2 := hm
                cases hm'
                rw [if_neg (by decide)]
                exact (SPst.le p2 s3.le).nx e3
              | true =>
                rw [if_pos rfl]
                refine ⟨fun σ' H' => ∃ g ρ st r, ER B g H' σ' ρ st ∧ whileN (ev G c) (exs G b) m ρ st = some r ∧ SPst B W g Z r, fun σ' H' z => ⟨m, Nat.lt_succ_self m, z⟩, g3, ρ2, st3, e3, ?_⟩
                simp only at hm
                have p3 := SPst.le p2 s3.le
                cases q2 : exs G b ρ2 st3 with
                | nx ρ4 st4 => simp only [q2] at hm; exact fun g4 H4 σ4 l4 e4 => ⟨g4, ρ4, st4, r2, e4, hm, SPst.le p3 l4⟩
                | ct ρ4 st4 => simp only [q2] at hm; exact fun g4 H4 σ4 l4 e4 => ⟨g4, ρ4, st4, r2, e4, hm, SPst.le p3 l4⟩
                | bk ρ4 st4 => simp only [q2] at hm; cases hm; exact p3
                | rt d st4 => simp only [q2] at hm; cases hm; exact p3
                | rtl d st4 => simp only [q2] at hm; cases hm; exact p3
                | exc x ρ4 st4 => simp only [q2] at hm; cases hm; exact p3
                | stuck => simp only [q2] at hm; cases hm; exact p3.elim
            | _ => exact (bad hm).elim
  | _ => exact Bool.noConfusion (show false = true from h)
end
end PD

/-! PD16 -/
set_option Elab.async false
set_option linter.all false
set_option maxRecDepth 100000
set_option maxHeartbeats 4000000
/-! PD: several except clauses, some with a name. -/
namespace PD
open PySem PySem.Spec PyProof.Rows L2
abbrev ClT := Value × (Option Nat × (Addr → Value → Option Addr → TS))
def wMix (K : PySem.W.Frag) (Wout : WX) (D : Ends) : List ClT → WX
  | [] => Wout
  | (c, none, ts) :: r => fun cls d σ H => ∃ b, PySem.W.exmOne K cls c = some b ∧ (b = true → ∀ a, H a = none → ts a cls d D σ H) ∧ (b = false → wMix K Wout D r cls d σ H)
  | (c, some i, ts) :: r => fun cls d σ H => ∃ b, PySem.W.exmOne K cls c = some b ∧ (b = true → ∀ a, H a = none → ts a cls d { nx := fun σ' H' => D.nx (σ'.set i none) H', rt := D.rt, bk := fun σ' H' => D.bk (σ'.set i none) H', ct := fun σ' H' => D.ct (σ'.set i none) H' } (σ.set i (some (.ref a))) H) ∧ (b = false → wMix K Wout D r cls d σ H)
abbrev SuOk (X : Cx) (suite : List Stmt) (ts : Addr → Value → Option Addr → TS) : Prop := ∀ (a : Addr) (oe : Obj) (cls : Value) (d : Option Addr) (pn : List (Addr × Obj)), Zc cls d oe → (∃ vs, oe.data = .fields vs) → PSs (X.suite a ((a, oe) :: pn)) suite (ts a cls d)
inductive HdsMix (X : Cx) : List ExceptHandler → List ClT → Prop
  | nil : HdsMix X [] []
  | cons {x : Str} {c : Value} {ts : Addr → Value → Option Addr → TS} {b₀ : Stmt} {suite : List Stmt} {np pos' : Pos} {hds : List ExceptHandler} {l : List ClT} (hc : Names X x c)
      (hsu : SuOk X (b₀ :: suite) ts) (r : HdsMix X hds l) :
      HdsMix X (.ExceptHandler (some (.Name x np)) none (b₀ :: suite) pos' :: hds) ((c, none, ts) :: l)
  | consA {x n : Str} {i : Nat} {c : Value} {ts : Addr → Value → Option Addr → TS} {b₀ : Stmt} {suite : List Stmt} {np pos' : Pos} {hds : List ExceptHandler} {l : List ClT} (hc : Names X x c)
      (hi : X.N[i]? = some n) (hln : X.env.kindOf n = some .local) (hsu : SuOk X (b₀ :: suite) ts) (r : HdsMix X hds l) :
      HdsMix X (.ExceptHandler (some (.Name x np)) (some n) (b₀ :: suite) pos' :: hds) ((c, some i, ts) :: l)
section
variable {X : Cx} {body : List Stmt} {h₀ : ExceptHandler} {hds : List ExceptHandler} {l : List ClT} {pos : Pos} {tb : WX → TS} {Wout : WX}
theorem ps_try_mix (hs : X.stack = X.env :: X.outer) (hf : X.env.frame = some X.env.locals) (hN : X.N.Nodup) (tk : Takes X Wout)
    (hb : ∀ (W : WX) (pn : List (Addr × Obj)) (xe : Value → Shared → Prop), Takes (X.tr pn xe) W → PassesOwn (model X.prog X.w) X.A X.env xe → PSs (X.tr pn xe) body (tb W))
    (hh : HdsMix X (h₀ :: hds) l) : PS X (.Try body (h₀ :: hds) [] [] pos) (fun D σ H => tb (wMix X.K Wout D l) D σ H) := by
  refine ⟨fun pins s σ H D I h => ?_⟩
  have ok := I.ok
  have hfr : X.A.frames = some (X.env :: X.outer) := by rw [ok.frames, hs]
  refine wpAny_Try_except ?_
  refine wpAny_mono ((hb (wMix X.K Wout D l) (X.pn ++ pins) (fun e s₁ => wpAny (model X.prog X.w) X.A (noteFrame e X.env) (fun _ s₂ => wpAny (model X.prog X.w) X.A (setFlight e none) (fun _ s₃ =>
    wpAny (model X.prog X.w) X.A (handleBy e X.env (h₀ :: hds)) (SP X pins D) X.xe s₃) X.xe s₂) X.xe s₁) (fun u s' xx => ?_) PassesOwn.looking).run [] s σ H D (I.toTry _) h) (fun f s1 hsp => ?_) (fun e s1 he => he)
  · obtain ⟨a, B, sI, pins', σ', H', cls, d, rfl, J', nb, up, sky, na, os, ag, w⟩ := xx
    have J : Inv X pins σ' H' sI := J'.ofTry ok
    have sky' : Sky B (X.env :: X.outer) a (Zc cls d) X.env.locals s'.heap := by rw [← hs]; exact sky
    show wpAny (model X.prog X.w) X.A (noteFrame (.ref a) X.env) _ _ _
    refine Sky.land Zc.steady hfr hf sky' fun h3 fl3 up3 => ?_
    have J3 : Inv X pins σ' H' { s' with heap := h3 } := J.landed nb fl3.1 (up.trans up3) os ag
    obtain ⟨oe3, vs3, he3, hz3, hd3⟩ := fl3.there
    have notFr : ∀ {h : Heap} {o : Obj} {vs : Array Value}, h.FunFrames B (X.env :: X.outer) → h.get? a = some o → o.data = .fields vs → a ∉ L2.frs (X.env :: X.outer) := fun {h o vs} ff e dd hm => by
      obtain ⟨_, o', e', hnf⟩ := ff.mem hm
      rw [e] at e'; cases e'
      exact hnf _ dd
    have nfr := notFr fl3.2.2.1 he3 hd3
    have nL : a ≠ X.env.locals := fun z => nfr (List.mem_filterMap.mpr ⟨X.env, List.mem_cons_self, by rw [hf, z]⟩)
    have nF : a ∉ X.fs := fun hm => by
      obtain ⟨e, he, q⟩ := List.mem_filterMap.mp hm
      exact nfr (List.mem_filterMap.mpr ⟨e, List.mem_cons_of_mem _ he, q⟩)
    have S3 := J3.suite he3 hd3 na nL nF
    have LT : PySem.W.Looks (model X.prog X.w) h3 (typeOf (.ref a)) cls := fun A Q E s k q => wpAny_typeOf_ref (k _ _ he3) (by rw [hz3.1]; exact q)
    have test : ∀ {x : Str} {np : Pos} {c : Value} {Q : Value → Shared → Prop} {E : Value → Shared → Prop}, Names X x c → Q c { s' with heap := h3 } → wpAny (model X.prog X.w) (X.A.mark (some (.ref a))) (eval (.Name x np) X.env) Q E { s' with heap := h3 } := fun {x np c Q E} hc q => by
      obtain ⟨hg, hdbg, hm | ⟨hm, hv, hnn⟩⟩ := hc
      · exact ld_glob (X := X.suite a ((a, oe3) :: (X.pn ++ pins))) S3 hg hm q hdbg
      · exact ld_blt (X := X.suite a ((a, oe3) :: (X.pn ++ pins))) S3 hg hm hv q hnn hdbg
    have go : ∀ {hds' : List ExceptHandler} {l' : List ClT}, HdsMix X hds' l' → wMix X.K Wout D l' cls d σ' H' →
        wpAny (model X.prog X.w) X.A (handleBy (.ref a) X.env hds') (SP X pins D) X.xe { s' with heap := h3 } := by
      intro hds' l' hk
      induction hk with
      | nil =>
        intro w
        refine wpAny_handleBy_nil ?_
        obtain ⟨k1, k2, k3, oe, vs, T, oT, ts', he, hz, hd, h1, hr⟩ := id fl3
        unfold PySem.passOn
        refine wpAny_bind (wpAny_field he hd h1 ?_)
        rw [if_neg (show ¬ ((Value.ref T == Value.none) = true) from by simp)]
        have fin : wpAny (model X.prog X.w) X.A (setFlight (.ref a) X.env.frame) (fun _ s4 => wpAny (model X.prog X.w) X.A (throw (.ref a) : Sem Flow) (SP X pins D) X.xe s4) X.xe { s' with heap := h3 } := by
          rw [hf]
          refine HandSPX.setFlight_upZ fl3 fun h4 hh4 up4 => wpAny_throw (tk _ _ ?_)
          exact ⟨a, B, sI, pins, σ', H', cls, d, rfl, J, nb, (up.trans up3).trans up4, .inr (.inr (by rw [hs]; exact hh4)), na, os, ag, w⟩
        first
          | exact wpAny_bind (wpAny_pure (wpAny_bind fin))
          | exact wpAny_bind fin
      | @cons x c ts b₀ suite np pos' hds2 l2 hc hsu r ih =>
        intro w
        obtain ⟨b, hb1, hyes, hno⟩ := w
        refine wpAny_handleBy_cons (codeAny_handlers_test ?_) (by intro q; cases q)
        have LM := PySem.W.exm_one (M := model X.prog X.w) (J3.kIn) LT hb1
        refine test hc (LM.here ?_)
        cases b with
        | true =>
          refine codeAny_handlers_suite ?_
          refine HandSPX.lands_againZ fl3 fun h4 fl4 up4 => ?_
          have J4 : Inv X pins σ' H' { s' with heap := h4 } := J.landed nb fl4.1 ((up.trans up3).trans up4) os ag
          obtain ⟨oe4, vs4, he4, hz4, hd4⟩ := fl4.there
          have S4 := J4.suite he4 hd4 na nL nF
          refine wpAny_mono ((hsu a oe4 cls d (X.pn ++ pins) hz4 ⟨_, hd4⟩).run [] _ _ H' _ S4 (hyes rfl a na)) (fun f s6 hsp => ?_) (fun _ _ z => False.elim z)
          cases f with
          | next =>
            obtain ⟨σ6, H6, S6, q6⟩ := hsp
            exact ⟨_, _, S6.unsuite ok, q6⟩
          | brk =>
            obtain ⟨σ6, H6, S6, q6⟩ := hsp
            exact ⟨_, _, S6.unsuite ok, q6⟩
          | cont =>
            obtain ⟨σ6, H6, S6, q6⟩ := hsp
            exact ⟨_, _, S6.unsuite ok, q6⟩
          | ret u =>
            obtain ⟨v6, σ6, H6, S6, r6, q6⟩ := hsp
            exact ⟨_, _, _, S6.unsuite ok, r6, q6⟩
        | false =>
          show wpAny _ X.A (handleBy (.ref a) X.env hds2) _ _ _
          exact ih (hno rfl)
      | @consA x n i c ts b₀ suite np pos' hds2 l2 hc hi hln hsu r ih =>
        intro w
        obtain ⟨b, hb1, hyes, hno⟩ := w
        have hloc : Loc X.env.scope n := .inl hln
        refine wpAny_handleBy_cons (codeAny_handlers_test ?_) (by intro q; cases q)
        have LM := PySem.W.exm_one (M := model X.prog X.w) (J3.kIn) LT hb1
        refine test hc (LM.here ?_)
        cases b with
        | true =>
          refine codeAny_handlers_suite_as ?_
          refine HandSPX.lands_againZ fl3 fun h4 fl4 up4 => ?_
          have J4 : Inv X pins σ' H' { s' with heap := h4 } := J.landed nb fl4.1 ((up.trans up3).trans up4) os ag
          obtain ⟨oe4, vs4, he4, hz4, hd4⟩ := fl4.there
          have S4 := J4.suite he4 hd4 na nL nF
          refine store_ok (X := X.suite a ((a, oe4) :: (X.pn ++ pins))) (v := .ref a) S4 hN hi hloc rfl (fun s5 S5 => ?_) (.inr hln)
          refine wpAny_mono ((hsu a oe4 cls d (X.pn ++ pins) hz4 ⟨_, hd4⟩).run [] s5 _ H' _ S5 (hyes rfl a na)) (fun f s6 hsp => ?_) (fun _ _ z => False.elim z)
          have end_ : ∀ {σ6 : L2.St} {H6 : Hp} {Q : Shared → Prop}, Inv (X.suite a ((a, oe4) :: (X.pn ++ pins))) [] σ6 H6 s6 → (∀ s7, Inv X pins (σ6.set i none) H6 s7 → Q s7) →
              wpAny (model X.prog X.w) X.A (do bindName X.env n .none; unbindBehindTheSuite X.env n pos') (fun _ s7 => Q s7) X.xe s6 := fun {σ6 H6 Q} S6 hq => gone_ok (S6.unsuite ok) hN hi hln hq
          cases f with
          | next =>
            obtain ⟨σ6, H6, S6, q6⟩ := hsp
            exact end_ S6 fun s7 J7 => ⟨_, _, J7, q6⟩
          | brk =>
            obtain ⟨σ6, H6, S6, q6⟩ := hsp
            exact end_ S6 fun s7 J7 => ⟨_, _, J7, q6⟩
          | cont =>
            obtain ⟨σ6, H6, S6, q6⟩ := hsp
            exact end_ S6 fun s7 J7 => ⟨_, _, J7, q6⟩
          | ret u =>
            obtain ⟨v6, σ6, H6, S6, r6, q6⟩ := hsp
            exact end_ S6 fun s7 J7 => ⟨_, _, _, J7, r6, q6⟩
        | false =>
          show wpAny _ X.A (handleBy (.ref a) X.env hds2) _ _ _
          exact ih (hno rfl)
    exact go hh w
  · cases f with
    | next =>
      obtain ⟨σ', H', J', q⟩ := hsp
      exact wpAny_execs_nil ⟨σ', H', J'.ofTry ok, q⟩
    | brk =>
      obtain ⟨σ', H', J', q⟩ := hsp
      exact ⟨σ', H', J'.ofTry ok, q⟩
    | cont =>
      obtain ⟨σ', H', J', q⟩ := hsp
      exact ⟨σ', H', J'.ofTry ok, q⟩
    | ret u =>
      obtain ⟨v, σ', H', J', r, q⟩ := hsp
      exact ⟨v, σ', H', J'.ofTry ok, r, q⟩
end
end PD

/-! PD17 -/
set_option Elab.async false
set_option linter.all false
set_option maxRecDepth 100000
set_option maxHeartbeats 4000000
/-! PD: try. -/
namespace PD
open PySem PySem.Spec PyProof.Rows L2
abbrev Bs.exd (B : Bs) (x : ExH) : Bs := { B with ex := x }
section
variable {B : Bs} {W : WX} {g : Gh} {H : Hp} {σ : L2.St} {ρ : Slots} {st : Store}
theorem ER.exd {x : ExH} (e : ER B g H σ ρ st) (h : ∀ (i : Nat) (o : Option V) (v : Option Val), σ[i]? = some o → ρ[i]? = some v → SlotR B.R x g o v) : ER (B.exd x) g H σ ρ st :=
  ⟨e.same0, e.le, e.fresh, e.keep, e.lkd, e.len, e.nodup, e.io, e.iolive, e.own, e.there, e.conts, e.slen, h⟩
theorem ER.unexd {x : ExH} (e : ER (B.exd x) g H σ ρ st) (h : ∀ (i : Nat) (o : Option V) (v : Option Val), σ[i]? = some o → ρ[i]? = some v → SlotR B.R B.ex g o v) : ER B g H σ ρ st :=
  ⟨e.same0, e.le, e.fresh, e.keep, e.lkd, e.len, e.nodup, e.io, e.iolive, e.own, e.there, e.conts, e.slen, h⟩
theorem slot_up {R : RC} {x : ExH} {g : Gh} {o : Option V} {v : Option Val} (h : SlotR R none g o v) : SlotR R x g o v := by
  cases v with
  | none => trivial
  | some v =>
    obtain ⟨y, e, r⟩ := h
    refine ⟨y, e, ?_⟩
    cases v with
    | fz d => exact r
    | loc n => exact r
    | exn q =>
      obtain ⟨_, _, _, z, _⟩ := r
      cases z
theorem noExn_at : ∀ {ρ : Slots} {i : Nat} {q : XD}, noExn ρ = true → ρ[i]? ≠ some (some (.exn q))
  | [], i, q, _, h => by simp at h
  | o :: ρ, 0, q, h, e => by
    have e' : o = some (.exn q) := by simpa using e
    subst e'
    cases h
  | o :: ρ, i + 1, q, h, e => by
    have h' : noExn ρ = true := by
      cases o with
      | none => exact h
      | some v => cases v <;> first | exact h | cases h
    exact noExn_at h' (by simpa using e)
theorem slot_down {R : RC} {x y : ExH} {g : Gh} {o : Option V} {v : Option Val} (h : SlotR R x g o v) (n : ∀ q, v ≠ some (.exn q)) : SlotR R y g o v := by
  cases v with
  | none => trivial
  | some v =>
    obtain ⟨z, e, r⟩ := h
    refine ⟨z, e, ?_⟩
    cases v with
    | fz d => exact r
    | loc n => exact r
    | exn q => exact absurd rfl (n q)
theorem ER.leave {x : ExH} {as_ : Option Nat} (e : ER (B.exd x) g H σ ρ st) (h : noExn (goneH as_ ρ) = true) : ER B g H (match as_ with | none => σ | some i => σ.set i none) (goneH as_ ρ) st := by
  cases as_ with
  | none => exact e.unexd fun i o v h1 h2 => slot_down (e.slots i o v h1 h2) fun q z => noExn_at (ρ := ρ) (i := i) (q := q) h (by rw [h2, z])
  | some i =>
    have e2 : ER (B.exd x) g H (σ.set i none) (ρ.set i none) st := e.slot (by rw [List.length_set, List.length_set]; exact e.slen) fun j o w h1 h2 => by
      rcases setAt h1 with ⟨n1, q1⟩ | ⟨n1, q1⟩
      · rcases setAt h2 with ⟨_, q2⟩ | ⟨n2, _⟩
        · exact e.slots j o w q1 q2
        · exact absurd n2 n1
      · rcases setAt h2 with ⟨n2, _⟩ | ⟨_, q2⟩
        · exact absurd n1 n2
        · rw [← q2]; trivial
    exact e2.unexd fun j o v h1 h2 => slot_down (e2.slots j o v h1 h2) fun q z => noExn_at (ρ := ρ.set i none) (i := j) (q := q) h (by rw [h2, z])
theorem ER.blank {x : ExH} (e : ER (B.exd x) g H σ ρ st) : ER B g H σ (List.replicate ρ.length none) st :=
  ⟨e.same0, e.le, e.fresh, e.keep, e.lkd, e.len, e.nodup, e.io, e.iolive, e.own, e.there, e.conts, by rw [List.length_replicate]; exact e.slen, fun i o v h1 h2 => by
    have : v = none := by
      rw [List.getElem?_replicate] at h2
      split at h2
      · cases h2; rfl
      · cases h2
    rw [this]; trivial⟩
end
abbrev endsH (as_ : Option Nat) (D : Ends) : Ends := match as_ with
  | none => D
  | some i => { nx := fun σ' H' => D.nx (σ'.set i none) H', rt := D.rt, bk := fun σ' H' => D.bk (σ'.set i none) H', ct := fun σ' H' => D.ct (σ'.set i none) H' }
/-- the suite's end -/
theorem suite_end {B : Bs} {W : WX} {g : Gh} {Z : Ends} {x : ExH} {as_ : Option Nat} {r : SR} (h : SPst B W g Z (endH as_ r)) : SPst (B.exd x) (fun _ _ _ _ => False) g (endsH as_ Z) r := by
  cases r with
  | nx ρ st =>
    obtain ⟨hn, p⟩ := spst_if (show SPst B W g Z (if noExn (goneH as_ ρ) = true then .nx (goneH as_ ρ) st else .stuck) from h)
    intro g' H σ l e
    have e2 := e.leave hn
    cases as_ with
    | none => exact p g' H _ l e2
    | some i => exact p g' H _ l e2
  | bk ρ st =>
    obtain ⟨hn, p⟩ := spst_if (show SPst B W g Z (if noExn (goneH as_ ρ) = true then .bk (goneH as_ ρ) st else .stuck) from h)
    intro g' H σ l e
    have e2 := e.leave hn
    cases as_ with
    | none => exact p g' H _ l e2
    | some i => exact p g' H _ l e2
  | ct ρ st =>
    obtain ⟨hn, p⟩ := spst_if (show SPst B W g Z (if noExn (goneH as_ ρ) = true then .ct (goneH as_ ρ) st else .stuck) from h)
    intro g' H σ l e
    have e2 := e.leave hn
    cases as_ with
    | none => exact p g' H _ l e2
    | some i => exact p g' H _ l e2
  | rt d st =>
    intro g' H σ ρ y l e rep
    have p := (show SPst B W g Z (.rt d st) from h) g' H σ _ y l e.blank rep
    cases as_ with
    | none => exact p
    | some i => exact p
  | rtl ds st =>
    intro g' H σ ρ a xs l e f1 f2 f3 rep
    have p := (show SPst B W g Z (.rtl ds st) from h) g' H σ _ a xs l e.blank f1 f2 f3 rep
    cases as_ with
    | none => exact p
    | some i => exact p
  | exc y ρ st => exact h.elim
  | stuck => exact h.elim
section
variable {T : Tab} {exc : List Str} {G : Gam}
theorem CxtS.tr {sc : Scope} {calm : Bool} {B : Bs} {X : Cx} {W W' : WX} (C : CxtS T exc sc calm G B X W) (hc : calm = true) {pn : List (Addr × Obj)} {xe : Value → Shared → Prop} (tk : Takes (X.tr pn xe) W') (po : PassesOwn (model X.prog X.w) X.A X.env xe) : CxtS T exc sc calm G B (X.tr pn xe) W' :=
  ⟨⟨C.K, C.mg, C.N, C.fn, C.sc, C.nd, (fun z => by rw [hc] at z; cases z), C.calm, C.units, tk, C.io, C.con, C.fns, C.free, C.exn, C.exm, C.xf, C.gcd⟩, fun _ => po, C.bk, C.stk, C.raf, C.exc_⟩
theorem CxtS.suite {sc : Scope} {calm : Bool} {B : Bs} {X : Cx} {W : WX} (C : CxtS T exc sc calm G B X W) {a : Addr} {oe : Obj} {cls : Value} {d : Option Addr} {pn : List (Addr × Obj)} (hz : Zc cls d oe) (hf : ∃ vs, oe.data = .fields vs) :
    CxtS T exc sc false G (B.exd (some (a, cls, d))) (X.suite a ((a, oe) :: pn)) (fun _ _ _ _ => False) :=
  ⟨⟨C.K, C.mg, C.N, C.fn, C.sc, C.nd, (fun _ a' cls' d' e => by cases e; exact ⟨oe, hz, hf, List.mem_cons_self⟩), (fun z => by cases z), C.units, takes0, C.io, C.con, C.fns, C.free, C.exn, C.exm, C.xf, C.gcd⟩, (fun z => by cases z), C.bk, (fun z => by cases z), C.raf, C.exc_⟩
def OKH (T : Tab) (exc : List Str) (G : Gam) (hs : Hds) : Prop := ∀ {sc : Scope} {B : Bs} {X : Cx} {W : WX}, CxtS T exc sc true G B X W → ∀ ehs : List ExceptHandler, chkHs T exc sc hs ehs = true →
  ∃ l, HdsMix X ehs l ∧ ∀ (x : XD) (ρ : Slots) (st : Store) (g : Gh) (Z : Ends), SPst B W g Z (exh G hs x ρ st) → ∀ g' H σ cls dd, g.le g' → ER B g' H σ ρ st → XR B.R g'.F x cls dd → wMix X.K W Z l cls dd σ H
theorem sok_hnil : OKH T exc G .nil := by
  intro sc B X W C ehs h
  cases ehs with
  | cons _ _ => exact Bool.noConfusion (show false = true from h)
  | nil => exact ⟨[], .nil, fun x ρ st g Z p g' H σ cls dd l e xr => (show SPst B W g Z (.exc x ρ st) from p) g' H σ cls dd l e xr⟩
theorem sok_hcons (cs : List Str) (tp : Bool) (as_ : Option Nat) {b : Sts} {hs : Hds} (hb : OKSs T exc G b) (hh : OKH T exc G hs) : OKH T exc G (.cons cs tp as_ b hs) := by
  intro sc B X W C ehs h
  have bad : ∀ {p : Prop}, (false = true) → p := fun z => Bool.noConfusion z
  cases ehs with
  | nil => cases cs with
    | nil => exact bad h
    | cons c cs => cases cs <;> cases tp <;> exact bad h
  | cons eh rest =>
    cases eh with
    | ExceptHandler te n body pos =>
      cases cs with
      | nil => exact bad h
      | cons c cs =>
        cases cs with
        | cons _ _ => exact bad h
        | nil =>
          cases tp with
          | true => exact bad h
          | false =>
            cases te with
            | none => exact bad h
            | some te =>
              cases body with
              | nil => exact bad h
              | cons b0 bs =>
                obtain ⟨k1, q1⟩ := b2 (show (clsB T sc c te && (asB T sc as_ n && (chkSs T exc sc false b (b0 :: bs) && chkHs T exc sc hs rest))) = true from h)
                obtain ⟨k2, q2⟩ := b2 q1
                obtain ⟨k3, k4⟩ := b2 q2
                cases te <;> first
                  | exact bad k1
                  | skip
                rename_i x p
                obtain ⟨j1, j2⟩ := b2 k1
                obtain ⟨j2, j3⟩ := b2 j2
                obtain ⟨j3, j4⟩ := b2 j3
                have hx : c = x := of_decide_eq_true j1
                subst hx
                obtain ⟨A, hA⟩ := C.exn c (List.contains_iff_mem.mp j2)
                obtain ⟨n1, _, _, _⟩ := seen_ok j4
                have nm : Names X c (.ref A) := ⟨C.glob j3, n1, .inl hA⟩
                obtain ⟨l, hl, hq⟩ := hh C rest k4
                have hexn : B.ex = none := (C.stk rfl).2.2
                have su : SuOk X (b0 :: bs) (fun a cls dd => tS (B.exd (some (a, cls, dd))) (fun _ _ _ _ => False) (exs G b)) := fun a oe cls d pn hz hf => hb (C.suite hz hf) (b0 :: bs) k3
                have core : ∀ (x : XD) (ρ : Slots) (st : Store) (g : Gh) (Z : Ends), SPst B W g Z (exh G (.cons [c] false as_ b hs) x ρ st) → ∀ g' H σ cls dd, g.le g' → ER B g' H σ ρ st → XR B.R g'.F x cls dd →
                    ∃ bv, PySem.W.exmOne X.K cls (.ref A) = some bv ∧ (bv = true → ∀ a, H a = none → tS (B.exd (some (a, cls, dd))) (fun _ _ _ _ => False) (exs G b) (endsH as_ Z) (match as_ with | none => σ | some i => σ.set i (some (.ref a))) H) ∧ (bv = false → wMix X.K W Z l cls dd σ H) := fun x ρ st g Z p g' H σ cls dd le e xr => by
                  have p' : SPst B W g Z (match hitS G.exm x.cls [c] with
                    | some true => endH as_ (exs G b (begH as_ x ρ) st)
                    | some false => exh G hs x ρ st
                    | none => .stuck) := p
                  cases q : hitS G.exm x.cls [c] with
                  | none => rw [q] at p'; exact p'.elim
                  | some bv =>
                    have q' : (match G.exm x.cls c with | some true => some true | some false => some false | none => none) = some bv := q
                    obtain ⟨D, hD, rfl⟩ := xr.1
                    have hD' : X.mg x.cls = some (.ref D) := by rw [C.mg]; exact hD
                    refine ⟨bv, ?_, fun hv a ha => ?_, fun hv => ?_⟩
                    · cases q2 : G.exm x.cls c with
                      | none => rw [q2] at q'; cases q'
                      | some b' =>
                        obtain ⟨D2, C2, e1, e2, _, e3, _⟩ := C.exm _ _ _ q2
                        rw [hD'] at e1; cases e1
                        rw [hA] at e2; cases e2
                        rw [q2] at q'
                        cases b' <;> (cases q'; exact e3)
                    · subst hv
                      rw [q] at p'
                      have e0 : ER (B.exd (some (a, .ref D, dd))) g' H σ ρ st := e.exd fun i o v h1 h2 => slot_up (by have := e.slots i o v h1 h2; rw [hexn] at this; exact this)
                      have p2 := SPst.le (suite_end (x := some (a, .ref D, dd)) p') le
                      cases as_ with
                      | none => exact ⟨g', ρ, st, e0, p2⟩
                      | some i => exact ⟨g', ρ.set i (some (.exn x)), st, e0.setV (v := .exn x) ⟨a, .ref D, dd, rfl, rfl, xr⟩ i, p2⟩
                    · subst hv
                      rw [q] at p'
                      exact hq x ρ st g Z p' g' H σ (.ref D) dd le e xr
                cases as_ with
                | none =>
                  cases n with
                  | some _ => exact bad k2
                  | none => exact ⟨_, .cons nm su hl, fun x ρ st g Z p g' H σ cls dd le e xr => core x ρ st g Z p g' H σ cls dd le e xr⟩
                | some i =>
                  cases n with
                  | none => exact bad k2
                  | some y =>
                    obtain ⟨m1, m2⟩ := b2 (show (decide (T.N[i]? = some y) && locB sc y) = true from k2)
                    exact ⟨_, .consA nm (by rw [C.N]; exact of_decide_eq_true m1) (locB_ok C.sc m2) su hl, fun x ρ st g Z p g' H σ cls dd le e xr => core x ρ st g Z p g' H σ cls dd le e xr⟩
theorem sok_try {b : Sts} {hs : Hds} (hb : OKSs T exc G b) (hh : OKH T exc G hs) : OKS T exc G (.try_ b hs) := by
  intro sc calm B X W C t h
  cases t with
  | Try eb ehs orelse fin pos =>
    cases ehs with
    | nil => exact Bool.noConfusion (show false = true from h)
    | cons eh ehs =>
      cases orelse with
      | cons _ _ => exact Bool.noConfusion (show false = true from h)
      | nil =>
        cases fin with
        | cons _ _ => exact Bool.noConfusion (show false = true from h)
        | nil =>
          obtain ⟨k1, q1⟩ := b2 (show (calm && (chkSs T exc sc calm b eb && chkHs T exc sc hs (eh :: ehs))) = true from h)
          obtain ⟨k2, k3⟩ := b2 q1
          subst k1
          obtain ⟨s1, s2, s3⟩ := C.stk rfl
          obtain ⟨l, hl, hq⟩ := hh C (eh :: ehs) k3
          refine ps_of (ps_try_mix (tb := fun W' => tS B W' (exs G b)) s1 s2 (by rw [C.N]; exact C.nd) C.tk (fun W' pn xe tk po => hb (C.tr rfl tk po) eb k2) hl) fun Z σ H ⟨g, ρ, st, er, p⟩ => ⟨g, ρ, st, er, ?_⟩
          have p' : SPst B W g Z (match exs G b ρ st with
            | .exc x ρ st => exh G hs x ρ st
            | r => r) := p
          cases q : exs G b ρ st with
          | exc x ρ' st' =>
            rw [q] at p'
            exact fun g' H' σ' cls dd le e xr => hq x ρ' st' g Z p' g' H' σ' cls dd le e xr
          | nx ρ' st' => rw [q] at p'; exact p'
          | bk ρ' st' => rw [q] at p'; exact p'
          | ct ρ' st' => rw [q] at p'; exact p'
          | rt d st' => rw [q] at p'; exact p'
          | rtl d st' => rw [q] at p'; exact p'
          | stuck => rw [q] at p'; exact p'
  | _ => exact Bool.noConfusion (show false = true from h)
end
end PD

/-! PD18 -/
set_option Elab.async false
set_option linter.all false
set_option maxRecDepth 100000
set_option maxHeartbeats 4000000
/-! PD: all statements; a def keeps its promise. -/
namespace PD
open PySem PySem.Spec PyProof.Rows L2
section
variable {T : Tab} {exc : List Str} {G : Gam}
mutual
theorem ex_ok : ∀ s : St, OKS T exc G s
  | .asg t e => sok_asg t e
  | .six i k e => sok_six i k e
  | .app i e => sok_app i e
  | .exp e => sok_exp e
  | .if_ c a b => sok_if c (exs_ok a) (exs_ok b)
  | .whl c b => sok_whl c (exs_ok b)
  | .for_ t it b => sok_for t it (exs_ok b)
  | .ret e => sok_ret e
  | .retl e => sok_retl e
  | .dead => sok_dead
  | .retn => sok_small (.inl rfl)
  | .pass => sok_small (.inr (.inl rfl))
  | .brk => sok_small (.inr (.inr (.inl rfl)))
  | .cnt => sok_small (.inr (.inr (.inr rfl)))
  | .rais c => sok_rais c
  | .raisf c f e => sok_raisf c f e
  | .try_ b hs => sok_try (exs_ok b) (exh_ok hs)
theorem exs_ok : ∀ ss : Sts, OKSs T exc G ss
  | .nil => sok_nil
  | .cons s ss => sok_cons (ex_ok s) (exs_ok ss)
theorem exh_ok : ∀ hs : Hds, OKH T exc G hs
  | .nil => sok_hnil
  | .cons cs tp as_ b hs => sok_hcons cs tp as_ (exs_ok b) (exh_ok hs)
end
end

/-! ### the entry -/
theorem ArgsR.conts {R : RC} {F H : Hp} {vs : List V} {args : List Arg} {l : List Addr} (h : ArgsR R F H vs args l) : l.length = (contsOf args).length ∧ ∀ (i : Nat) (a : Addr) (c : Cont), l[i]? = some a → (contsOf args)[i]? = some c → c.live = true ∧ ContR R F H a c := by
  induction h with
  | nil => exact ⟨rfl, fun i a c h _ => by cases i <;> cases h⟩
  | fz _ _ ih => exact ih
  | @mu a0 xs c0 as l h1 h2 t ih =>
    obtain ⟨e, q⟩ := ih
    refine ⟨congrArg Nat.succ e, fun i a c h h' => ?_⟩
    cases i with
    | zero =>
      have ea : a0 = a := by simpa using h
      have ec : c0 = c := by simpa [contsOf] using h'
      subst ea ec
      exact ⟨h1, h2⟩
    | succ i => exact q i a c (by simpa using h) (by simpa [contsOf] using h')
theorem slotsOf_length : ∀ {args : List Arg} {k : Nat}, (slotsOf k args).length = args.length
  | [], _ => rfl
  | .mu _ :: as, k => congrArg Nat.succ (slotsOf_length (args := as))
  | .fz _ :: as, k => congrArg Nat.succ (slotsOf_length (args := as))
theorem ArgsR.slots {R : RC} {F H : Hp} {E : ExH} {A : List Addr} : ∀ {vs : List V} {args : List Arg} {l : List Addr} {k : Nat}, ArgsR R F H vs args l → (∀ (i : Nat) (a : Addr), l[i]? = some a → A[k + i]? = some a) →
    ∀ (i : Nat) (o : Option V) (v : Option Val), (vs.map some)[i]? = some o → (slotsOf k args)[i]? = some v → SlotR R E ⟨F, A⟩ o v
  | _, _, _, _, .nil, _, i, o, v, h, _ => by simp at h
  | _, _, _, _, .fz r t, hA, 0, o, v, h, h' => by
    simp [slotsOf] at h h'
    subst h h'
    exact ⟨_, rfl, r⟩
  | _, _, _, _, .fz r t, hA, i + 1, o, v, h, h' => ArgsR.slots t hA i o v (by simpa using h) (by simpa [slotsOf] using h')
  | _, _, _, k, .mu h1 h2 t, hA, 0, o, v, h, h' => by
    simp [slotsOf] at h h'
    subst h h'
    exact ⟨_, rfl, _, hA 0 _ rfl, rfl⟩
  | _, _, _, k, .mu h1 h2 t, hA, i + 1, o, v, h, h' => ArgsR.slots (k := k + 1) t (fun j a e => by
      have := hA (j + 1) a (by simpa using e)
      rw [show k + 1 + j = k + (j + 1) by omega]
      exact this) i o v (by simpa using h) (by simpa [slotsOf] using h')

/-! ### the module -/
structure ModX (P : Program) (K : PySem.W.Frag) (mg : Str → Option Value) (T : Tab) (exc : List Str) (G : Gam) : Prop where
  con : ∀ (j : Nat) (d : D) (x : Str), G.con[j]? = some d → T.con[j]? = some x → ∃ v u, mg x = some u ∧ RelV v u ∧ ∀ F, Rep ⟨K, mg⟩ F v d
  free : ∀ x ∈ T.free, mg x = none
  exn : ∀ x ∈ T.exn, ∃ C, mg x = some (.ref C)
  exm : ∀ c t b, G.exm c t = some b → ∃ D C, mg c = some (.ref D) ∧ mg t = some (.ref C) ∧ PySem.W.kitOne K (.ref D) (.ref C) = some b ∧ PySem.W.exmOne K (.ref D) (.ref C) = some b ∧ ExcC K D
  xf : ∀ c f, G.xfl c f = true → ∃ D, mg c = some (.ref D) ∧ XfC K D ∧ PySem.W.findIn K (.ref D) f = some none
  raf : ∀ p ∈ T.raf, ∃ C fI, PySem.SupX.SupTxt P K mg C fI p.1 p.2
  exc_ : ∀ x ∈ exc, ∃ C, mg x = some (.ref C) ∧ PySem.W.excIn K C [.type "ValueError", .type "Exception", .type "BaseException", .type "object"] "ValueError.__new__" = true ∧ PySem.W.keepIn K (.ref C) = true ∧
    PySem.W.subIn K (.ref C) (.type "BaseException") = some true ∧ PySem.W.typeIn K (.ref C) = some (.type "type")
  gcd : T.gcd = true → mg "gcd" = some (.builtin "math.gcd")
def FnH (R : RC) (P : Program) (w : World) (base : Heap) (k : Nat) (x : Str) (n : Nat) (fi : FnI) : Prop :=
  ∃ (f : Addr) (fd : FuncData) (ps : List Str) (ds : List Value) (dvs : List V), R.mg x = some (.ref f) ∧ PySem.W.keepIn R.K (.ref f) = true ∧ Binds R.K fd ps ds ∧ Vals dvs ds ∧
    FnOk P w R.K R.mg base (L2.CX P w) k f fd ps (spOf R ps.length fi.f) ∧ n + dvs.length = ps.length ∧ ∀ F, RepL R F dvs fi.dfl
theorem post_of {B : Bs} {g g' : Gh} {H' : Hp} {σ : L2.St} {ρ : Slots} {st : Store} (hl : B.lk = []) (e : ER B g' H' σ ρ st) : PostR B.R B.F0 B.H0 g'.F H' B.io (st.take B.io.length) := by
  refine ⟨e.same0, e.le, e.fresh, fun b o h hb => e.keep b o h hb (by rw [hl]; simp), ?_⟩
  have key : ∀ (l : List Addr) (cs : List Cont), l.length = cs.length → (∀ (i : Nat) (a : Addr) (c : Cont), l[i]? = some a → cs[i]? = some c → c.live = true ∧ ContR B.R g'.F H' a c) → ContsR B.R g'.F H' l cs := by
    intro l
    induction l with
    | nil => intro cs hlen _; cases cs with
      | nil => exact .nil
      | cons _ _ => cases hlen
    | cons a l ih =>
      intro cs hlen h
      cases cs with
      | nil => cases hlen
      | cons c cs =>
        obtain ⟨h1, h2⟩ := h 0 a c rfl rfl
        exact .cons h1 h2 (ih cs (Nat.succ.inj hlen) fun i a' c' e1 e2 => h (i + 1) a' c' (by simpa using e1) (by simpa using e2))
  have hle : B.io.length ≤ st.length := by
    rw [← e.len]
    exact e.io.length_le
  refine key _ _ (by rw [List.length_take]; omega) fun i a c e1 e2 => ?_
  have hi : i < B.io.length := (List.getElem?_eq_some_iff.mp e1).1
  have e3 : st[i]? = some c := by
    rw [List.getElem?_take] at e2
    rw [if_pos hi] at e2
    exact e2
  have e4 : g'.A[i]? = some a := by
    obtain ⟨t, ht⟩ := e.io
    rw [← ht, List.getElem?_append_left hi]
    exact e1
  exact ⟨e.iolive i c hi e3, e.conts i a c e4 e3⟩
section
variable {P : Program} {w : World} {K : PySem.W.Frag} {mg : Str → Option Value} {base : Heap} {x qual : Str} {params : Arguments} {body : List Stmt} {scope : Scope} {dvs : List V} {kws : List (Str × V)} {f : Addr} {fd : FuncData} {T : Tab} {exc : List Str} {G : Gam}
/-- A DEF DOES WHAT ITS DATA SAY -/
theorem def_ok {N ps : List Str} {d : Def} (F : FunD K x qual params body scope dvs kws f fd) (S : FnScope N ps scope) (M : ModX P K mg T exc G) (hN : T.N = N) (hn : d.n = N.length) (hc : chkSs T exc scope true d.body body = true)
    (hf : ∀ (j : Nat) (fi : FnI) (y : Str) (n : Nat), G.fns[j]? = some fi → T.fns[j]? = some (y, n) → FnH ⟨K, mg⟩ P w base T.lv y n fi) :
    FnOk P w K mg base (L2.CX P w) (T.lv + 1) f fd ps (spOf ⟨K, mg⟩ ps.length (runDef G d)) := by
  refine F.ok S (fun vs H Q E h => ?_) (fun cdv A outer s H vs Q E hr h => ?_)
  · obtain ⟨F0, args, l, hlen, _, ha, _⟩ := h
    rw [ha.length, hlen]
  · obtain ⟨F0, args, l, hlen, hle, ha, hnd, post⟩ := h
    obtain ⟨cl, cc⟩ := ha.conts
    obtain ⟨B, hB⟩ : ∃ B : Bs, B = ⟨⟨K, mg⟩, F0, H, l, [], none⟩ := ⟨_, rfl⟩
    obtain ⟨G', hG⟩ : ∃ G' : Gam, G' = { G with io := (contsOf args).length } := ⟨_, rfl⟩
    have C : CxtS T exc scope true G' B (cxOf (L2.CX P w) P w K mg base N qual scope f cdv A outer s H E) (fun cls d _ H => E cls d H) := by
      subst hB hG
      refine ⟨⟨rfl, rfl, hN.symm, (fun _ _ => rfl), ScR.refl _, by rw [hN]; exact S.nd, (fun z => by cases z), (fun _ => ⟨rfl, hr⟩), (by show (A.deeper (envOfC qual scope s.heap.objs.size f cdv)).units + 64 < cLine; have := hr.un; omega), takes_of rfl rfl rfl rfl, cl.symm, M.con, fun j fi y n e1 e2 => hf j fi y n e1 e2, M.free, M.exn, M.exm, M.xf, M.gcd⟩, fun _ => passes_of rfl, ?_, fun _ => ⟨rfl, rfl, rfl⟩, M.raf, M.exc_⟩
      show (if scope.kind.isAnnotationScope then ScopeKind.function else scope.kind) = .function
      rw [S.kind]; rfl
    refine ⟨tS B (fun cls d _ H => E cls d H) (exs G' d.body), exs_ok d.body C body hc, ?_⟩
    have hv : vs.length = args.length := ha.length
    refine ⟨⟨F0, l⟩, slotsOf 0 args ++ List.replicate (d.n - args.length) none, contsOf args, ?_, ?_⟩
    · subst hB
      refine ⟨Same.refl _, hle, fun b hb => .inl hb, fun b o e _ _ => e, (fun b hb => by cases hb), cl, hnd, List.prefix_refl _, fun i c hi e => ?_, fun i a hi e => ?_, fun i a e => ?_, fun i a c e1 e2 => (cc i a c e1 e2).2, ?_, fun i o v e1 e2 => ?_⟩
      · obtain ⟨a, ea⟩ : ∃ a, l[i]? = some a := ⟨_, List.getElem?_eq_getElem hi⟩
        exact (cc i a c ea e).1
      · have hi2 := (List.getElem?_eq_some_iff.mp e).1
        exact absurd hi2 (by show ¬ i < l.length; have : l.length ≤ i := hi; omega)
      · obtain ⟨c, ec⟩ : ∃ c, (contsOf args)[i]? = some c := by
          have hi2 := (List.getElem?_eq_some_iff.mp (show l[i]? = some a from e)).1
          rw [cl] at hi2
          exact ⟨_, List.getElem?_eq_getElem hi2⟩
        obtain ⟨z1, z2⟩ := cc i a c e ec
        exact z2.there z1
      · unfold L2.start
        rw [List.length_append, List.length_append, List.length_map, List.length_replicate, List.length_replicate, slotsOf_length, hv, hn]
      · by_cases hi : i < vs.length
        · unfold L2.start at e1
          rw [List.getElem?_append_left (by rw [List.length_map]; exact hi)] at e1
          rw [List.getElem?_append_left (by rw [slotsOf_length, ← hv]; exact hi)] at e2
          exact ha.slots (k := 0) (fun j a e => by rw [Nat.zero_add]; exact e) i o v e1 e2
        · rw [List.getElem?_append_right (by rw [slotsOf_length, ← hv]; omega)] at e2
          rw [List.getElem?_replicate] at e2
          split at e2
          · cases e2; trivial
          · cases e2
    · have hrun : runDef G d args = (match exs G' d.body (slotsOf 0 args ++ List.replicate (d.n - args.length) none) (contsOf args) with
        | .nx _ st => .ok .non (st.take (contsOf args).length)
        | .rt d st => .ok d (st.take (contsOf args).length)
        | .rtl ds st => .okl ds (st.take (contsOf args).length)
        | .exc x _ st => .exc x (st.take (contsOf args).length)
        | _ => .stuck) := by subst hG; rfl
      have hlk : B.lk = [] := by rw [hB]
      have hio : (contsOf args).length = B.io.length := by rw [hB]; exact cl.symm
      rw [hio] at hrun
      have pst : ∀ {g' : Gh} {H' : Hp} {σ : L2.St} {ρ : Slots} {st : Store}, ER B g' H' σ ρ st → PostR ⟨K, mg⟩ F0 H g'.F H' l (st.take B.io.length) := fun {g' H' σ ρ st} e => by
        have p := post_of (g := ⟨F0, l⟩) hlk e
        subst hB
        exact p
      have hR : B.R = ⟨K, mg⟩ := by rw [hB]
      cases q : exs G' d.body (slotsOf 0 args ++ List.replicate (d.n - args.length) none) (contsOf args) with
      | nx ρ st =>
        rw [q] at hrun
        simp only [hrun] at post
        exact fun g' H' σ _ e => post .non g'.F H' (pst e) .non
      | rt dd st =>
        rw [q] at hrun
        simp only [hrun] at post
        exact fun g' H' σ ρ y _ e rep => post y g'.F H' (pst e) (by rw [hR] at rep; exact rep)
      | rtl ds st =>
        rw [q] at hrun
        simp only [hrun] at post
        exact fun g' H' σ ρ a xs _ e f1 f2 f3 rep => post a xs g'.F H' (pst e) f1 (by rw [hB] at f2; exact f2) f3 (by rw [hR] at rep; exact rep)
      | exc y ρ st =>
        rw [q] at hrun
        simp only [hrun] at post
        exact fun g' H' σ cls dd _ e xr => post cls dd g'.F H' (pst e) (by rw [hR] at xr; exact xr)
      | bk ρ st => rw [q] at hrun; simp only [hrun] at post
      | ct ρ st => rw [q] at hrun; simp only [hrun] at post
      | stuck => rw [q] at hrun; simp only [hrun] at post
end
end PD

/-! PD19 -/
set_option Elab.async false
set_option linter.all false
set_option maxRecDepth 100000
set_option maxHeartbeats 4000000
/-! PD: the head's facts for a whole module. -/
namespace PySem
namespace SupX
open PySem.W PySem.Calls PyProof.Rows PySem.HandSPX
abbrev FnS : Type := Option (Str × Str × Arguments × FuncBody × Scope × Addr × List Str × Addr × Value × Value)
def fnS (K : Frag) (p : Str × Option Str) : FnS := match K.lookup (He.fAd K p) with
  | some ⟨_, _, .func fd, _⟩ => some (fd.name, fd.qualname, fd.params, fd.body, fd.scope, fd.globals, fd.closure.map (·.1), fd.builtins, fd.defaults, fd.kwdefaults)
  | _ => none
/-- an own exception class: its name, its field, its __init__'s qualified name, parameters, body, scope -/
structure SupD where
  c : Str
  f : Str
  qual : Str
  params : Arguments
  body : List Stmt
  scope : Scope
def SupD.val (d : SupD) : FnS := some ("__init__", d.qual, d.params, .stmts d.body, d.scope, mainGlobals, ["__class__"], builtinsNs, .none, .none)
def SupD.Ok (d : SupD) : Prop := ∃ (pn m : Str) (kk : Nat) (a1 a2 : Option Expr) (q1 q2 p0 p1 p2 p3 p4 p5 p6 p7 p8 p9 : Pos), d.params = iPar pn a1 a2 q1 q2 ∧ d.body = iBody d.f pn m kk p0 p1 p2 p3 p4 p5 p6 p7 p8 p9 ∧ ScopeOk d.scope pn ∧
  (pn == ("self" : Str)) = false ∧ (pn == ("__debug__" : Str)) = false ∧ (p2.endLine == p4.line) = true
def clsT (K : Frag) (C : Addr) : Bool := match K.lookup C with
  | some ⟨.type "type", _, .cls cd, sl⟩ => (match cd.mro, sl.toList with
    | .ref C' :: bm, [_, _, _, _, some (.builtin n), _] => decide (C' = C) && (decide (n = "ValueError.__new__") && (!cd.hasDel && (cd.hasDict && refsVE bm)))
    | _, _ => false)
  | _ => false
theorem clsT_ok {K : Frag} {C : Addr} (q : clsT K C = true) : ∃ nm q N bs bm sn sub ab col dd k0 k1 k2 k3 k5, K.lookup C = some (excClassObj nm q C N bs bm true sn sub ab col dd k0 k1 k2 k3 k5 "ValueError.__new__") ∧ refsVE bm = true := by
  unfold clsT at q
  split at q
  · rename_i dd cd sl ho
    split at q
    · rename_i C' bm k0 k1 k2 k3 n k5 hm hs
      obtain ⟨q1, q⟩ := He.ba q
      obtain ⟨q2, q⟩ := He.ba q
      obtain ⟨q3, q⟩ := He.ba q
      obtain ⟨q4, q5⟩ := He.ba q
      have e1 : C' = C := of_decide_eq_true q1
      have e2 : n = "ValueError.__new__" := of_decide_eq_true q2
      have e3 : cd.hasDel = false := by simpa using q3
      subst e1 e2
      obtain ⟨nm, bs, mro, ns, qn, hd, sn, sub, ab, col, del⟩ := cd
      dsimp only at hm e3 q4
      subst hm e3 q4
      have hsl : sl = #[k0, k1, k2, k3, some (.builtin "ValueError.__new__"), k5] := by
        obtain ⟨l⟩ := sl
        simp only at hs
        rw [hs]
      subst hsl
      exact ⟨nm, qn, ns, bs, bm, sn, sub, ab, col, dd, k0, k1, k2, k3, k5, ho, q5⟩
    · cases q
  · cases q
def fileB (P : Program) : Option Value → Bool
  | some (.str file _) => ((P.main.file : Str) == file)
  | _ => false
def cellT (P : Program) (K : Frag) (C fI : Addr) (qual : Str) : Bool := match K.lookup fI with
  | some ⟨_, _, .func fd, _⟩ => (match fd.code, fd.closure with
    | .ref cda, [(_, cc)] => codeIn K (.ref cda) qual && ((match K.lookup cda with
      | some ⟨_, _, .fields vs, _⟩ => fileB P vs[2]?
      | _ => false) && (match K.lookup cc with
      | some ⟨_, _, .cell (some (.ref D)), _⟩ => decide (D = C)
      | _ => false))
    | _, _ => false)
  | _ => false
def supB (P : Program) (K : Frag) (d : SupD) : Bool :=
  He.eqO (nsIn K mainGlobals d.c) (some (some (.ref (He.ga K d.c)))) && (clsT K (He.ga K d.c) && (excInitIn K (He.ga K d.c) [.type "ValueError", .type "Exception", .type "BaseException", .type "object"] "ValueError.__new__" &&
  (He.eqO (findIn K (.ref (He.ga K d.c)) "__setattr__") (some (some (.builtin "object.__setattr__"))) && (He.eqO (findIn K (.ref (He.ga K d.c)) d.f) (some none) && (He.eqO (findIn K (.ref (He.ga K d.c)) "__init__") (some (some (.ref (He.ma K (He.ga K d.c) "__init__")))) &&
  (decide (typeIn K (.ref (He.ma K (He.ga K d.c) "__init__")) = some (.type "function")) && (keepIn K (.ref (He.ga K d.c)) && (decide (subIn K (.ref (He.ga K d.c)) (.type "BaseException") = some true) && (decide (subIn K (.ref (He.ga K d.c)) (.type "ValueError") = some true) &&
  (decide (typeIn K (.ref (He.ga K d.c)) = some (.type "type")) && (decide (mroIn K (He.ga K d.c) (.ref (He.ga K d.c)) = some true) && (He.eqO (nsIn K cStatics "thirdparty.any") (some none) && (He.eqO (ks_superIn K (He.ga K d.c) (He.ga K d.c) "__init__") (some (some (.builtin "ValueError.__init__"))) &&
  (!(P.main.scope.names.lookup ("super" : Str)).isSome && cellT P K (He.ga K d.c) (He.ma K (He.ga K d.c) "__init__") d.qual))))))))))))))
theorem sup_of {P : Program} {K : Frag} {h : Heap} {mg : Str → Option Value} {d : SupD} (X : K.In h) (G : h.Ns mainGlobals mg) (e : fnS K (d.c, some "__init__") = d.val) (b : supB P K d = true) (D : d.Ok) : ∃ C fI, SupTxt P K mg C fI d.c d.f := by
  obtain ⟨h1, b⟩ := He.ba b
  obtain ⟨h2, b⟩ := He.ba b
  obtain ⟨h3, b⟩ := He.ba b
  obtain ⟨h4, b⟩ := He.ba b
  obtain ⟨h5, b⟩ := He.ba b
  obtain ⟨h6, b⟩ := He.ba b
  obtain ⟨h7, b⟩ := He.ba b
  obtain ⟨h8, b⟩ := He.ba b
  obtain ⟨h9, b⟩ := He.ba b
  obtain ⟨h10, b⟩ := He.ba b
  obtain ⟨h11, b⟩ := He.ba b
  obtain ⟨h12, b⟩ := He.ba b
  obtain ⟨h13, b⟩ := He.ba b
  obtain ⟨h14, b⟩ := He.ba b
  obtain ⟨h15, h16⟩ := He.ba b
  refine ⟨He.ga K d.c, He.ma K (He.ga K d.c) "__init__", mg_of X G (He.eqO_ok h1), clsT_ok h2, h3, He.eqO_ok h4, He.eqO_ok h5, He.eqO_ok h6, of_decide_eq_true h7, h8, of_decide_eq_true h9, of_decide_eq_true h10, of_decide_eq_true h11, of_decide_eq_true h12, He.eqO_ok h13, He.eqO_ok h14, by simpa using h15, ?_⟩
  obtain ⟨pn, m, kk, a1, a2, q1, q2, p0, p1, p2, p3, p4, p5, p6, p7, p8, p9, e1, e2, SC, n1, n2, n3⟩ := D
  have e' : (match K.lookup (He.ma K (He.ga K d.c) "__init__") with
    | some ⟨_, _, .func fd, _⟩ => (some (fd.name, fd.qualname, fd.params, fd.body, fd.scope, fd.globals, fd.closure.map (·.1), fd.builtins, fd.defaults, fd.kwdefaults) : FnS)
    | _ => none) = d.val := e
  unfold cellT at h16
  cases q : K.lookup (He.ma K (He.ga K d.c) "__init__") with
  | none => rw [q] at h16; cases h16
  | some o =>
    obtain ⟨oc, od, dt, osl⟩ := o
    rw [q] at h16 e'
    cases dt with
    | func fd =>
      obtain ⟨n1', n2', n3', n4', n5', n6', n7', n8', n9', n10', n11', n12', n13', n14', n15'⟩ := fd
      have e3 : (some (n1', n2', n3', n4', n5', n6', n7'.map (·.1), n15', n8', n9') : FnS) = (some (("__init__" : Str), d.qual, d.params, FuncBody.stmts d.body, d.scope, mainGlobals, [("__class__" : Str)], builtinsNs, Value.none, Value.none) : FnS) := e'
      simp only [Option.some.injEq, Prod.mk.injEq] at e3
      obtain ⟨z1, z2, z3, z4, z5, z6, z7, z8, z9, z10⟩ := e3
      subst z1 z2 z3 z4 z5 z6 z8 z9 z10
      dsimp only at h16
      cases n13' with
      | ref cda =>
        cases n7' with
        | nil => cases z7
        | cons p l =>
          cases l with
          | cons _ _ =>
            have zl := congrArg List.length z7
            simp at zl
          | nil =>
            obtain ⟨cn, cc⟩ := p
            have zc : cn = "__class__" := (List.cons.inj z7).1
            subst zc
            obtain ⟨k1, k2⟩ := He.ba h16
            obtain ⟨k2, k3⟩ := He.ba k2
            cases r1 : K.lookup cda with
            | none => rw [r1] at k2; cases k2
            | some o1 =>
              obtain ⟨ccl, cdd, dt1, ccs⟩ := o1
              rw [r1] at k2
              cases dt1 with
              | fields vs =>
                dsimp only at k2
                cases r2 : vs[2]? with
                | none => rw [r2] at k2; cases k2
                | some v =>
                  rw [r2] at k2
                  cases v with
                  | str file tf =>
                    cases r3 : K.lookup cc with
                    | none => rw [r3] at k3; cases k3
                    | some o2 =>
                      obtain ⟨cl, cld, dt2, csl⟩ := o2
                      rw [r3] at k3
                      cases dt2 with
                      | cell ov =>
                        cases ov with
                        | none => cases k3
                        | some v2 =>
                          cases v2 with
                          | ref D =>
                            have zD : D = He.ga K d.c := of_decide_eq_true k3
                            subst zD
                            exact ⟨oc, od, d.qual, n10', n11', n12', cda, cc, n14', osl, pn, m, kk, a1, a2, q1, q2, p0, p1, p2, p3, p4, p5, p6, p7, p8, p9, d.scope, ccl, cdd, vs, ccs, file, tf, cl, cld, csl, by rw [e1, e2], k1, SC, r1, r2, k2, r3, n1, n2, n3⟩
                          | _ => cases k3
                      | _ => cases k3
                  | _ => cases k2
              | _ => cases k2
      | _ => cases h16
    | _ => cases h16
end SupX
end PySem
namespace PD
open PySem PySem.Spec PyProof.Rows L2
/-! ### constants -/
mutual
def repB (K : PySem.W.Frag) : D → Value → Bool
  | .non, .none => true
  | .bl b, .bool c => b == c
  | .int i, .int j _ => decide (i = j)
  | .str s, .str t _ => decide (s = t)
  | .tup ds, .ref a => (match K.lookup a with
    | some ⟨.type c, _, .seq its _, _⟩ => decide (c = "tuple") && (decide (its.size ≤ sizeLine) && repsB K ds its.toList)
    | _ => false)
  | _, _ => false
def repsB (K : PySem.W.Frag) : List D → List Value → Bool
  | [], [] => true
  | d :: ds, u :: us => repB K d u && repsB K ds us
  | _, _ => false
end
mutual
theorem repB_ok {K : PySem.W.Frag} {mg : Str → Option Value} : ∀ {d : D} {u : Value}, repB K d u = true → ∃ v, RelV v u ∧ ∀ F, Rep ⟨K, mg⟩ F v d
  | .non, u, h => by cases u <;> first | exact ⟨.non, rfl, fun F => .non⟩ | cases h
  | .bl b, u, h => by
    cases u with
    | bool c => exact ⟨.bl b, (by rw [show b = c from eq_of_beq h]; rfl), fun F => .bl b⟩
    | _ => cases h
  | .int i, u, h => by
    cases u with
    | int j t => exact ⟨.int i, ⟨t, by rw [show i = j from of_decide_eq_true h]⟩, fun F => .int i⟩
    | _ => cases h
  | .str s, u, h => by
    cases u with
    | str j t => exact ⟨.str s, ⟨t, by rw [show s = j from of_decide_eq_true h]⟩, fun F => .str s⟩
    | _ => cases h
  | .tup ds, u, h => by
    cases u with
    | ref a =>
      have h1 : (match K.lookup a with
        | some ⟨.type c, _, .seq its _, _⟩ => decide (c = "tuple") && (decide (its.size ≤ sizeLine) && repsB K ds its.toList)
        | _ => false) = true := h
      cases q : K.lookup a with
      | none => rw [q] at h1; cases h1
      | some o =>
        obtain ⟨oc, od, dt, osl⟩ := o
        rw [q] at h1
        cases oc with
        | type c =>
          cases dt with
          | seq its n =>
            obtain ⟨h2, h3⟩ := He.ba h1
            obtain ⟨h3, h4⟩ := He.ba h3
            obtain ⟨vs, rv, rep⟩ := repsB_ok (mg := mg) h4
            exact ⟨.ref a, rfl, fun F => .tup (.inr ⟨_, its, n, q, congrArg Value.type (of_decide_eq_true h2), rfl, of_decide_eq_true h3, rv⟩) (rep F)⟩
          | _ => cases h1
        | _ => cases dt <;> cases h1
    | _ => cases h
  | .lst ds, u, h => by cases u <;> cases h
  | .dct _ _, u, h => by cases u <;> cases h
  | .obj _ _ _, u, h => by cases u <;> cases h
theorem repsB_ok {K : PySem.W.Frag} {mg : Str → Option Value} : ∀ {ds : List D} {us : List Value}, repsB K ds us = true → ∃ vs, Vals vs us ∧ ∀ F, RepL ⟨K, mg⟩ F vs ds
  | [], us, h => by
    cases us with
    | nil => exact ⟨[], .nil, fun F => .nil⟩
    | cons _ _ => cases h
  | d :: ds, us, h => by
    cases us with
    | nil => cases h
    | cons u us =>
      obtain ⟨h1, h2⟩ := He.ba (show (repB K d u && repsB K ds us) = true from h)
      obtain ⟨v, rv, rep⟩ := repB_ok (mg := mg) h1
      obtain ⟨vs, rvs, reps⟩ := repsB_ok (mg := mg) h2
      exact ⟨v :: vs, .cons rv rvs, fun F => .cons (rep F) (reps F)⟩
end
/-! ### a module's data -/
structure ModD where
  con : List (Str × D)
  free : List Str
  exn : List Str
  exc : List Str
  exm : List (Str × Str × Bool)
  xfl : List (Str × Str)
  sup : List PySem.SupX.SupD
  gcd : Bool
  defs : List He.DefD
def exmL : List (Str × Str × Bool) → Str → Str → Option Bool
  | [], _, _ => none
  | p :: l, c, t => if p.1 = c ∧ p.2.1 = t then some p.2.2 else exmL l c t
def ModD.gam (m : ModD) (fns : List FnI) : Gam := { io := 0, con := m.con.map (·.2), fns := fns, exm := exmL m.exm, xfl := fun c f => m.xfl.contains (c, f) }
def ModD.tab (m : ModD) (N : List Str) (fns : List (Str × Nat)) (lv : Nat) : Tab := ⟨N, m.con.map (·.1), fns, m.free, m.gcd, m.exn, m.sup.map fun d => (d.c, d.f), lv⟩
def gloB (K : PySem.W.Frag) (x : Str) : Bool := He.eqO (PySem.W.nsIn K mainGlobals x) (some (some (.ref (He.ga K x))))
def excCB (K : PySem.W.Frag) (C : Addr) : Bool :=
  He.eqO (PySem.W.findIn K (.ref C) "__getattribute__") (some (some (.builtin "BaseException.__getattribute__"))) && (He.eqO (PySem.W.findIn K (.ref C) "__getattr__") (some none) &&
  (decide (PySem.W.subIn K (.ref C) (.type "BaseException") = some true) && (PySem.W.hasDictIn K C && (He.eqO (PySem.W.findIn K (.ref C) "__class__") (some (some (.builtin "object.__class__"))) &&
  (He.eqO (PySem.W.specialIn K (.builtin "object.__class__") "__get__") (some (some (.builtin "getset_descriptor.__get__"))) && (decide (PySem.W.takesIn K (.builtin "object.__class__") = some true) && decide (PySem.W.mroIn K C (.type "object") = some true)))))))
theorem excCB_ok {K : PySem.W.Frag} {C : Addr} (h : excCB K C = true) : ExcC K C := by
  obtain ⟨h1, h⟩ := He.ba h
  obtain ⟨h2, h⟩ := He.ba h
  obtain ⟨h3, h⟩ := He.ba h
  obtain ⟨h4, h⟩ := He.ba h
  obtain ⟨h5, h⟩ := He.ba h
  obtain ⟨h6, h⟩ := He.ba h
  obtain ⟨h7, h8⟩ := He.ba h
  exact ⟨He.eqO_ok h1, He.eqO_ok h2, of_decide_eq_true h3, h4, He.eqO_ok h5, He.eqO_ok h6, of_decide_eq_true h7, of_decide_eq_true h8⟩
def conB (K : PySem.W.Frag) (p : Str × D) : Bool := match PySem.W.nsIn K mainGlobals p.1 with
  | some (some u) => repB K p.2 u
  | _ => false
def exmB (K : PySem.W.Frag) (p : Str × Str × Bool) : Bool := gloB K p.1 && (gloB K p.2.1 && (decide (PySem.W.kitOne K (.ref (He.ga K p.1)) (.ref (He.ga K p.2.1)) = some p.2.2) && (decide (PySem.W.exmOne K (.ref (He.ga K p.1)) (.ref (He.ga K p.2.1)) = some p.2.2) && excCB K (He.ga K p.1))))
def factB (P : Program) (m : ModD) (K : PySem.W.Frag) : Bool :=
  m.con.all (conB K) && ((m.free.all fun x => He.eqO (PySem.W.nsIn K mainGlobals x) (some none)) && (m.exn.all (gloB K) && (m.exm.all (exmB K) &&
  ((m.xfl.all fun p => gloB K p.1 && (xfB K (He.ga K p.1) && He.eqO (PySem.W.findIn K (.ref (He.ga K p.1)) p.2) (some none))) &&
  ((m.exc.all fun x => gloB K x && (He.Fa.exc x).ok K) && ((!m.gcd || He.eqO (PySem.W.nsIn K mainGlobals "gcd") (some (some (.builtin "math.gcd")))) && m.sup.all (PySem.SupX.supB P K)))))))
theorem exmL_mem : ∀ {l : List (Str × Str × Bool)} {c t : Str} {b : Bool}, exmL l c t = some b → (c, t, b) ∈ l
  | [], _, _, _, h => by cases h
  | p :: l, c, t, b, h => by
    have h' : (if p.1 = c ∧ p.2.1 = t then some p.2.2 else exmL l c t) = some b := h
    split at h'
    · rename_i q
      obtain ⟨p1, p2, p3⟩ := p
      obtain ⟨rfl, rfl⟩ := q
      cases h'
      exact List.mem_cons_self
    · exact List.mem_cons_of_mem _ (exmL_mem h')
/-! ### the Hook -/
def asP (g : Addr → Option Obj) : Nat → List Addr
  | 0 => [mainGlobals, PySem.cStatics]
  | n + 1 => He.growD g (asP g n)
abbrev AlP : Type := Bool × (List He.FnW × List PySem.SupX.FnS)
def obsK (P : Program) (m : ModD) (K : PySem.W.Frag) : AlP := (factB P m K && m.defs.all fun d => d.ok K && gloB K d.at_.1, (m.defs.map fun d => He.fnW K d.at_, m.sup.map fun d => PySem.SupX.fnS K (d.c, some "__init__")))
def valK (m : ModD) : AlP := (true, (m.defs.map He.DefD.val, m.sup.map PySem.SupX.SupD.val))
def SaysP (P : Program) (m : ModD) (K : PySem.W.Frag) : Prop := obsK P m K = valK m
def obsP (n : Nat) (P : Program) (m : ModD) (g : Addr → Option Obj) : AlP := obsK P m (He.frG g (asP g n))
def hookP (n : Nat) (P : Program) (m : ModD) : PySem.W.Hook where
  α := AlP
  obs := fun s => obsP n P m s.heap.get?
  val := fun _ => valK m
  says := fun _ h => ∃ K : PySem.W.Frag, K.In h ∧ SaysP P m K
  of := fun _ _ e => ⟨_, He.frG_in, e⟩
  keeps := fun _ _ _ ⟨K, hK, c⟩ k => ⟨K, PySem.W.Frag.In.keeps hK k, c⟩
theorem obsP_eq {n : Nat} {P : Program} {m : ModD} {g : Addr → Option Obj} {s : Shared} (h : ∀ a, g a = s.heap.get? a) : obsP n P m g = (hookP n P m).obs s := by
  have e : g = s.heap.get? := funext h
  rw [e] <;> rfl
section
variable {P : Program} {m : ModD} {K : PySem.W.Frag} {h : Heap} {mg : Str → Option Value}
theorem SaysP.fact (c : SaysP P m K) : factB P m K = true := (He.ba (show (factB P m K && m.defs.all fun d => d.ok K && gloB K d.at_.1) = true from congrArg (fun z : AlP => z.1) c)).1
theorem SaysP.def_ (c : SaysP P m K) (i : Nat) {d : He.DefD} (hd : m.defs[i]? = some d) : ∃ fd, FunD K d.name d.qual d.params d.body d.scope (d.dvs K) (d.kws K) (He.fAd K d.at_) fd := by
  have c2 := (He.ba (show (factB P m K && m.defs.all fun d => d.ok K && gloB K d.at_.1) = true from congrArg (fun z : AlP => z.1) c)).2
  have e : m.defs.map (fun d => He.fnW K d.at_) = m.defs.map He.DefD.val := congrArg (fun z : AlP => z.2.1) c
  have e2 : (m.defs.map fun d => He.fnW K d.at_)[i]? = (m.defs.map He.DefD.val)[i]? := by rw [e]
  rw [List.getElem?_map, List.getElem?_map, hd] at e2
  exact He.DefD.funD (Option.some.inj e2) (He.ba (List.all_eq_true.mp c2 d (List.mem_of_getElem? hd))).1
theorem SaysP.glo (c : SaysP P m K) {d : He.DefD} (hd : d ∈ m.defs) : gloB K d.at_.1 = true := by
  have c2 := (He.ba (show (factB P m K && m.defs.all fun d => d.ok K && gloB K d.at_.1) = true from congrArg (fun z : AlP => z.1) c)).2
  exact (He.ba (List.all_eq_true.mp c2 d hd)).2
theorem gloB_ok (X : K.In h) (G : h.Ns mainGlobals mg) {x : Str} (q : gloB K x = true) : mg x = some (.ref (He.ga K x)) := PySem.W.mg_of X G (He.eqO_ok q)
theorem SaysP.mod (c : SaysP P m K) (X : K.In h) (G : h.Ns mainGlobals mg) (hs : ∀ d ∈ m.sup, d.Ok) (N : List Str) (fns : List (Str × Nat)) (lv : Nat) (gs : List FnI) : ModX P K mg (m.tab N fns lv) m.exc (m.gam gs) := by
  obtain ⟨f1, q⟩ := He.ba c.fact
  obtain ⟨f2, q⟩ := He.ba q
  obtain ⟨f3, q⟩ := He.ba q
  obtain ⟨f4, q⟩ := He.ba q
  obtain ⟨f5, q⟩ := He.ba q
  obtain ⟨f6, q⟩ := He.ba q
  obtain ⟨f7, f8⟩ := He.ba q
  refine ⟨fun j d x e1 e2 => ?_, fun x hx => ?_, fun x hx => ?_, fun a t b e => ?_, fun a f e => ?_, fun p hp => ?_, fun x hx => ?_, fun hg => ?_⟩
  · have e1' : (m.con.map (·.2))[j]? = some d := e1
    have e2' : (m.con.map (·.1))[j]? = some x := e2
    rw [List.getElem?_map] at e1' e2'
    cases z : m.con[j]? with
    | none => rw [z] at e1'; cases e1'
    | some p =>
      rw [z] at e1' e2'
      obtain ⟨p1, p2⟩ := p
      cases e1'
      cases e2'
      have f := List.all_eq_true.mp f1 _ (List.mem_of_getElem? z)
      have f' : (match PySem.W.nsIn K mainGlobals p1 with
        | some (some u) => repB K p2 u
        | _ => false) = true := f
      cases y : PySem.W.nsIn K mainGlobals p1 with
      | none => rw [y] at f'; cases f'
      | some o =>
        rw [y] at f'
        cases o with
        | none => cases f'
        | some u =>
          obtain ⟨v, rv, rep⟩ := repB_ok (mg := mg) f'
          exact ⟨v, u, PySem.W.mg_of X G y, rv, rep⟩
  · exact PySem.W.mg_none_of X G (He.eqO_ok (List.all_eq_true.mp f2 x hx))
  · exact ⟨_, gloB_ok X G (List.all_eq_true.mp f3 x hx)⟩
  · obtain ⟨g1, g⟩ := He.ba (List.all_eq_true.mp f4 _ (exmL_mem e))
    obtain ⟨g2, g⟩ := He.ba g
    obtain ⟨g3, g⟩ := He.ba g
    obtain ⟨g4, g5⟩ := He.ba g
    exact ⟨_, _, gloB_ok X G g1, gloB_ok X G g2, of_decide_eq_true g3, of_decide_eq_true g4, excCB_ok g5⟩
  · obtain ⟨g1, g⟩ := He.ba (List.all_eq_true.mp f5 _ (List.contains_iff_mem.mp e))
    obtain ⟨g2, g3⟩ := He.ba g
    exact ⟨_, gloB_ok X G g1, xfB_ok g2, He.eqO_ok g3⟩
  · obtain ⟨d, hd, rfl⟩ := List.mem_map.mp (show p ∈ m.sup.map fun d => (d.c, d.f) from hp)
    obtain ⟨i, hi, e⟩ := List.mem_iff_getElem.mp hd
    have e0 : m.sup.map (fun d => PySem.SupX.fnS K (d.c, some "__init__")) = m.sup.map PySem.SupX.SupD.val := congrArg (fun z : AlP => z.2.2) c
    have e2 : (m.sup.map (fun d => PySem.SupX.fnS K (d.c, some "__init__")))[i]? = (m.sup.map PySem.SupX.SupD.val)[i]? := by rw [e0]
    rw [List.getElem?_map, List.getElem?_map, List.getElem?_eq_getElem hi, e] at e2
    exact PySem.SupX.sup_of X G (Option.some.inj e2) (List.all_eq_true.mp f8 d hd) (hs d hd)
  · obtain ⟨g1, g⟩ := He.ba (List.all_eq_true.mp f6 x hx)
    obtain ⟨k1, k2, k3, k4⟩ := He.exc_ok g
    exact ⟨_, gloB_ok X G g1, k1, k2, k3, k4⟩
  · have hg' : m.gcd = true := hg
    rw [hg'] at f7
    exact PySem.W.mg_of X G (He.eqO_ok (by simpa using f7))
end
/-- nothing leaves -/
theorem ok_none {P : Program} {w : World} {K : PySem.W.Frag} {mg : Str → Option Value} {base : Heap} {k : Nat} {f : Addr} {fd : FuncData} {ps : List Str} {sp : Sp} (F : FnOk P w K mg base (L2.CX P w) k f fd ps sp) :
    FnOk P w K mg base L2.CX0 k f fd ps (fun vs H Q _ => sp vs H Q (fun _ _ _ => False)) :=
  ⟨fun vs H Q E q => F.len _ _ _ _ q, fun A outer s H args us vs Q E hr he hb hv hs => codeAny_mono (F.run A outer s H args us vs Q (fun _ _ _ => False) hr he hb hv hs) fun r s' z => by
    cases r with
    | ok fl => cases fl <;> exact z
    | error e =>
      obtain ⟨_, _, _, _, _, _, _, _, _, _, _, _, q⟩ := (show L2.CX P w outer H s (fun _ _ _ => False) e s' from z)
      exact q.elim⟩
end PD

/-! PD20 -/
set_option Elab.async false
set_option linter.all false
set_option maxRecDepth 100000
set_option maxHeartbeats 4000000
/-! PD: the chain of a module's defs, and the law's end. -/
namespace PD
open PySem PySem.Spec PyProof.Rows L2
structure EnvK (P : Program) (m : ModD) (K : PySem.W.Frag) (mg : Str → Option Value) : Prop where
  mod : ∀ (N : List Str) (fns : List (Str × Nat)) (lv : Nat) (gs : List FnI), ModX P K mg (m.tab N fns lv) m.exc (m.gam gs)
  fun_ : ∀ (i : Nat) (d : He.DefD), m.defs[i]? = some d → ∃ fd, FunD K d.name d.qual d.params d.body d.scope (d.dvs K) (d.kws K) (He.fAd K d.at_) fd
  glo : ∀ d ∈ m.defs, mg d.at_.1 = some (.ref (He.ga K d.at_.1))
theorem SaysP.env {P : Program} {m : ModD} {K : PySem.W.Frag} {h : Heap} {mg : Str → Option Value} (c : SaysP P m K) (X : K.In h) (G : h.Ns mainGlobals mg) (hs : ∀ d ∈ m.sup, d.Ok) : EnvK P m K mg :=
  ⟨fun N fns lv gs => c.mod X G hs N fns lv gs, fun i d hd => c.def_ i hd, fun d hd => gloB_ok X G (c.glo hd)⟩
inductive FnsH (R : RC) (P : Program) (w : World) (base : Heap) (k : Nat) : List (Str × Nat) → List FnI → Prop
  | nil : FnsH R P w base k [] []
  | cons {x : Str} {n : Nat} {fi : FnI} {l : List (Str × Nat)} {gs : List FnI} : FnH R P w base k x n fi → FnsH R P w base k l gs → FnsH R P w base k ((x, n) :: l) (fi :: gs)
theorem FnsH.at {R : RC} {P : Program} {w : World} {base : Heap} {k : Nat} {l : List (Str × Nat)} {gs : List FnI} (h : FnsH R P w base k l gs) : ∀ (j : Nat) (fi : FnI) (y : Str) (n : Nat), gs[j]? = some fi → l[j]? = some (y, n) → FnH R P w base k y n fi := by
  induction h with
  | nil => intro j fi y n e; cases j <;> cases e
  | cons h t ih =>
    intro j fi y n e1 e2
    cases j with
    | zero =>
      simp at e1 e2
      obtain ⟨rfl, rfl⟩ := e2
      subst e1
      exact h
    | succ j => exact ih j fi y n (by simpa using e1) (by simpa using e2)
theorem FnH.mono {R : RC} {P : Program} {w : World} {base : Heap} {j k : Nat} {x : Str} {n : Nat} {fi : FnI} (h : FnH R P w base j x n fi) (l : j ≤ k) : FnH R P w base k x n fi := by
  obtain ⟨f, fd, ps, ds, dvs, h1, h2, h3, h4, h5, h6, h7⟩ := h
  exact ⟨f, fd, ps, ds, dvs, h1, h2, h3, h4, h5.mono l, h6, h7⟩
section
variable {P : Program} {m : ModD} {K : PySem.W.Frag} {mg : Str → Option Value} {w : World} {base : Heap}
theorem fn_make (E : EnvK P m K mg) {x : Str} {prm : Arguments} {bdy : List Stmt} {scp : Scope} (i : Nat) (hd : m.defs[i]? = some ⟨(x, none), x, x, prm, bdy, scp, [], []⟩) {N ps : List Str} {fns : List (Str × Nat)} {gs : List FnI} {lv nn : Nat} {b : Sts} (muts : List Bool)
    (S : FnScope N ps scp) (hn : nn = N.length) (hc : chkSs (m.tab N fns lv) m.exc scp true b bdy = true)
    (hb : ∀ (kV doc pm : Value) (an : Option Addr) (cdv ct : Value) (us : List Value), us.length = ps.length → bindArgs (PySem.W.fnOf x x prm bdy scp .none kV doc pm an cdv ct) ⟨us, []⟩ = pure (ps.zip us))
    (hf : FnsH ⟨K, mg⟩ P w base lv fns gs) : FnH ⟨K, mg⟩ P w base (lv + 1) x ps.length ⟨muts, [], runDef (m.gam gs) ⟨nn, b⟩⟩ := by
  obtain ⟨fd, F⟩ := E.fun_ i _ hd
  exact ⟨_, fd, ps, [], [], E.glo _ (List.mem_of_getElem? hd), F.kp, F.bindsN hb, .nil, def_ok F S (E.mod N fns lv gs) rfl hn hc hf.at, rfl, fun F => .nil⟩
theorem law_make (E : EnvK P m K mg) {x : Str} {prm : Arguments} {bdy : List Stmt} {scp : Scope} (i : Nat) (hd : m.defs[i]? = some ⟨(x, none), x, x, prm, bdy, scp, [], []⟩) {N : List Str} {y : Str} {fns : List (Str × Nat)} {gs : List FnI} {lv nn : Nat} {b : Sts}
    (S : FnScope N [y] scp) (hn : nn = N.length) (hc : chkSs (m.tab N fns lv) m.exc scp true b bdy = true)
    (hb : ∀ (kV doc pm : Value) (an : Option Addr) (cdv ct : Value) (us : List Value), us.length = [y].length → bindArgs (PySem.W.fnOf x x prm bdy scp .none kV doc pm an cdv ct) ⟨us, []⟩ = pure ([y].zip us))
    (hf : ∀ base : Heap, FnsH ⟨K, mg⟩ P w base lv fns gs) : ∃ fd : FuncData, mg x = some (.ref (He.ga K x)) ∧ (∀ (s : Shared) (v : Value), BindsTo s fd ⟨[v], []⟩ [(y, v)]) ∧
      ∀ base : Heap, FnOk P w K mg base L2.CX0 (lv + 1) (He.ga K x) fd [y] (fun vs H Q _ => spOf ⟨K, mg⟩ 1 (runDef (m.gam gs) ⟨nn, b⟩) vs H Q (fun _ _ _ => False)) := by
  obtain ⟨fd, F⟩ := E.fun_ i _ hd
  exact ⟨fd, E.glo _ (List.mem_of_getElem? hd), fun s v => F.bindsA hb s [v] rfl, fun base => ok_none (def_ok F S (E.mod N fns lv gs) rfl hn hc (hf base).at)⟩
end
theorem rep_ints {R : RC} {F : Hp} : ∀ ns : List Int, RepL R F (ns.map V.int) (ns.map D.int)
  | [] => .nil
  | n :: ns => .cons (.int n) (rep_ints ns)
/-- THE END of a law -/
theorem walk_ofP {l : PySem.W.OpenLaw} {k n0 : Nat} {q : Program} {loose : List Str} {XP : (Str → Option Value) → Heap → Prop} {m : ModD} {d : DefRec} {y : Str} {f : List Arg → FRes}
    (hn : l.most = some 63) (hdf : d.params.defaults = []) (hr : Room k callerA) (hs : ∀ d ∈ m.sup, d.Ok)
    (F : ∀ (w : World) (mg : Str → Option Value) (K : PySem.W.Frag), EnvK l.prog m K mg → ∃ fd : FuncData, mg d.name = some (.ref (He.ga K d.name)) ∧ (∀ (s : Shared) (v : Value), BindsTo s fd ⟨[v], []⟩ [(y, v)]) ∧
      ∀ base : Heap, FnOk l.prog w K mg base L2.CX0 k (He.ga K d.name) fd [y] (fun vs H Q _ => spOf ⟨K, mg⟩ 1 f vs H Q (fun _ _ _ => False)))
    (plain : ∀ ns : List Int, ns.length ≤ 63 → (∀ z ∈ ns, Builtin.Int.intBits z ≤ 1048576) → f [.fz (.lst (ns.map D.int))] = .ok (.bl true) []) :
    PySem.W.WalkO q loose XP (hookP n0 l.prog m).says l.row.toRowW d [] (fun f vs => PySem.call f vs) := by
  refine Att.attach_callB hn hdf fun w s₀ s₁ mg mb fa o pm cd doc a vs ns G Y ho hd hcd hmg hobj hints hlen hbits hg => ?_
  obtain ⟨K, KX, c⟩ := Y
  have Gg := G.T.g
  obtain ⟨fd, hm, hb, hF⟩ := F w mg K (c.env KX Gg hs)
  have e := hm.symm.trans hmg
  cases e
  refine law_call KX Gg G.T.b G.T.builtins G.T.nolimit hg hobj hints (Nat.le_trans hlen (by rw [sizeLine_eq]; decide)) hr (fun base _ _ => hF base) hb (fun H hO hS => ?_) fun H e s' z => z
  refine ⟨H, [.fz (.lst (ns.map D.int))], [], rfl, Le.refl _, .fz (.lst hS (rep_ints ns)) .nil, List.nodup_nil, ?_⟩
  rw [plain ns hlen hbits]
  intro x F' H' _ r
  cases r
  rfl
end PD

/-! PE1 -/
set_option Elab.async false
set_option linter.all false
set_option maxRecDepth 100000
set_option maxHeartbeats 4000000
/-! PE: rules that evaluate the small language by simp, from the left, nothing under a binder. -/
namespace PD
open PySem PySem.Spec PyProof.Rows L2
section
variable {α β : Type} {G : Gam} {ρ : Slots} {st : Store} {a : α} {k : α → Store → Res β} {x : XD}
@[simp] theorem Res.bind_ok' : (Res.ok a st).bind k = k a st := by rfl
@[simp] theorem Res.bind_exc' : (Res.exc x st : Res α).bind k = .exc x st := by rfl
@[simp] theorem Res.nox_ok' : (Res.ok a st).nox = .ok a st := by rfl
@[simp] theorem Res.sr_ok' {k : α → Store → SR} : (Res.ok a st).sr ρ k = k a st := by rfl
@[simp] theorem Res.sr_exc' {k : α → Store → SR} : (Res.exc x st : Res α).sr ρ k = .exc x ρ st := by rfl
@[simp] theorem pick_some' {k : α → Res β} : pick (some a) k = k a := by rfl
@[simp] theorem pickS_some' {k : α → SR} : pickS (some a) k = k a := by rfl
@[simp] theorem SR.bind_nx' {k : Slots → Store → SR} : (SR.nx ρ st).bind k = k ρ st := by rfl
@[simp] theorem SR.bind_rt' {d : D} {k : Slots → Store → SR} : (SR.rt d st).bind k = .rt d st := by rfl
@[simp] theorem SR.bind_rtl' {d : List D} {k : Slots → Store → SR} : (SR.rtl d st).bind k = .rtl d st := by rfl
@[simp] theorem SR.bind_bk' {k : Slots → Store → SR} : (SR.bk ρ st).bind k = .bk ρ st := by rfl
@[simp] theorem SR.bind_ct' {k : Slots → Store → SR} : (SR.ct ρ st).bind k = .ct ρ st := by rfl
@[simp] theorem SR.bind_exc' {k : Slots → Store → SR} : (SR.exc x ρ st).bind k = .exc x ρ st := by rfl
@[simp] theorem dr_fz {d : D} : dr st (.fz d) = some d := by rfl
@[simp] theorem dr_loc {n : Nat} : dr st (.loc n) = (st[n]?).map Cont.d := by
  show (match st[n]? with | some c => some c.d | none => none) = _
  cases st[n]? <;> rfl
@[simp] theorem Cont.d_lst {ds : List D} : (Cont.lst ds).d = .lst ds := by rfl
@[simp] theorem Cont.d_fz {d : D} : (Cont.fz d).d = d := by rfl
@[simp] theorem fr_fz {io : Nat} {d : D} : fr io (.fz d) st = .ok d st := by rfl
theorem fr_loc {io n : Nat} {ds : List D} (h : st[n]? = some (.lst ds)) (hi : io ≤ n) : fr io (.loc n) st = .ok (.lst ds) (st.set n (.fz (.lst ds))) := by
  unfold fr
  simp only [h]
  rw [if_pos hi]
  rfl
theorem fr_locf {io n : Nat} {d : D} (h : st[n]? = some (.fz d)) : fr io (.loc n) st = .ok d st := by
  unfold fr
  simp only [h]
@[simp] theorem opRes_d {d : D} : opRes (.d d) st = .ok (.fz d) st := by rfl
@[simp] theorem opRes_l {ds : List D} : opRes (.l ds) st = .ok (.loc st.length) (st ++ [.lst ds]) := by rfl
/-! operations -/
@[simp] theorem bopS_add {i j : Int} : bopS .add (.int i) (.int j) = .d (.int (i + j)) := by rfl
@[simp] theorem bopS_sub {i j : Int} : bopS .sub (.int i) (.int j) = .d (.int (i - j)) := by rfl
theorem bopS_mul {i j : Int} (h : mok i j = true) : bopS .mul (.int i) (.int j) = .d (.int (i * j)) := if_pos h
theorem bopS_mod {i j : Int} (h : j ≠ 0) : bopS .mod (.int i) (.int j) = .d (.int (i.fmod j)) := if_neg h
theorem bopS_fdv {i j : Int} (h : j ≠ 0) (h2 : Builtin.divisionGoesByPylong i j = false) : bopS .fdv (.int i) (.int j) = .d (.int (i.fdiv j)) := if_neg (by rw [h2]; simp [h])
theorem bopS_pow {i j : Int} (h : 0 ≤ j ∧ (i.natAbs.log2 + 1) * j.toNat < 134217000) : bopS .pow (.int i) (.int j) = .d (.int (i ^ j.toNat)) := if_pos h
theorem bopS_addl {xs ys : List D} (h : xs.length + ys.length ≤ LIM) : bopS .add (.lst xs) (.lst ys) = .l (xs ++ ys) := if_pos h
theorem bopS_addt {xs ys : List D} (h : xs.length + ys.length ≤ LIM) : bopS .add (.tup xs) (.tup ys) = .d (.tup (xs ++ ys)) := if_pos h
@[simp] theorem cmpS_eq {d e : D} : cmpS .eq d e = eqS d e := by rfl
@[simp] theorem cmpS_ne {d e : D} : cmpS .ne d e = (eqS d e).map (!·) := by
  show (match eqS d e with | some r => some (!r) | none => none) = _
  cases eqS d e <;> rfl
@[simp] theorem eqS_int {i j : Int} : eqS (.int i) (.int j) = some (i == j) := by rfl
@[simp] theorem eqS_str {i j : Str} : eqS (.str i) (.str j) = some (i == j) := by rfl
@[simp] theorem eqS_bl {i j : Bool} : eqS (.bl i) (.bl j) = some (i == j) := by rfl
@[simp] theorem cmpS_lt {i j : Int} : cmpS .lt (.int i) (.int j) = some (decide (i < j)) := by rfl
@[simp] theorem cmpS_le {i j : Int} : cmpS .le (.int i) (.int j) = some (decide (i ≤ j)) := by rfl
@[simp] theorem cmpS_gt {i j : Int} : cmpS .gt (.int i) (.int j) = some (decide (j < i)) := by rfl
@[simp] theorem cmpS_ge {i j : Int} : cmpS .ge (.int i) (.int j) = some (decide (j ≤ i)) := by rfl
@[simp] theorem cmpS_is {a b : D} : cmpS .is_ a b = isS a b := by rfl
@[simp] theorem cmpS_isn {a b : D} : cmpS .isn a b = (isS a b).map (!·) := by
  show (match isS a b with | some r => some (!r) | none => none) = _
  cases isS a b <;> rfl
/-! expressions -/
def kBin2 (o : Bop) (x : Val) (y : Val) (st : Store) : Res Val := pick (dr st x) fun dx => pick (dr st y) fun dy => opRes (bopS o dx dy) st
def kBin (G : Gam) (ρ : Slots) (o : Bop) (b : Ex) (x : Val) (st : Store) : Res Val := (ev G b ρ st).bind (kBin2 o x)
@[simp] theorem ev_bin {o : Bop} {a b : Ex} : ev G (.bin o a b) ρ st = (ev G a ρ st).bind (kBin G ρ o b) := by rfl
@[simp] theorem kBin_eq {o : Bop} {b : Ex} {x : Val} : kBin G ρ o b x st = (ev G b ρ st).bind (kBin2 o x) := by rfl
@[simp] theorem kBin2_eq {o : Bop} {x y : Val} : kBin2 o x y st = pick (dr st x) fun dx => pick (dr st y) fun dy => opRes (bopS o dx dy) st := by rfl
def kCmp2 (o : Cop) (x : Val) (y : Val) (st : Store) : Res Val := pick (dr st x) fun dx => pick (dr st y) fun dy => pick (cmpS o dx dy) fun r => .ok (.fz (.bl r)) st
def kCmp (G : Gam) (ρ : Slots) (o : Cop) (b : Ex) (x : Val) (st : Store) : Res Val := (ev G b ρ st).bind (kCmp2 o x)
@[simp] theorem ev_cmp {o : Cop} {a b : Ex} : ev G (.cmp o a b) ρ st = (ev G a ρ st).bind (kCmp G ρ o b) := by rfl
@[simp] theorem kCmp_eq {o : Cop} {b : Ex} {x : Val} : kCmp G ρ o b x st = (ev G b ρ st).bind (kCmp2 o x) := by rfl
@[simp] theorem kCmp2_eq {o : Cop} {x y : Val} : kCmp2 o x y st = pick (dr st x) fun dx => pick (dr st y) fun dy => pick (cmpS o dx dy) fun r => .ok (.fz (.bl r)) st := by rfl
@[simp] theorem ev_var {i : Nat} {v : Val} (h : ρ[i]? = some (some v)) : ev G (.var i) ρ st = .ok v st := by
  show (match ρ[i]? with | some (some v) => Res.ok v st | _ => .stuck) = _
  rw [h]
@[simp] theorem ev_lit {d : D} : ev G (.lit d) ρ st = .ok (.fz d) st := by rfl
@[simp] theorem ev_none : ev G .none_ ρ st = .ok (.fz .non) st := by rfl
@[simp] theorem ev_glo {j : Nat} : ev G (.glo j) ρ st = pick G.con[j]? fun d => .ok (.fz d) st := by rfl
def kNeg (x : Val) (st : Store) : Res Val := match x with
  | .fz (.int i) => .ok (.fz (.int (-i))) st
  | _ => .stuck
@[simp] theorem ev_neg {a : Ex} : ev G (.neg a) ρ st = (ev G a ρ st).bind kNeg := by rfl
@[simp] theorem kNeg_eq {i : Int} : kNeg (.fz (.int i)) st = .ok (.fz (.int (-i))) st := by rfl
def kNot (x : Val) (st : Store) : Res Val := match x with
  | .fz (.bl b) => .ok (.fz (.bl (!b))) st
  | _ => .stuck
@[simp] theorem ev_not {a : Ex} : ev G (.not_ a) ρ st = (ev G a ρ st).bind kNot := by rfl
@[simp] theorem kNot_eq {b : Bool} : kNot (.fz (.bl b)) st = .ok (.fz (.bl (!b))) st := by rfl
def kAnd (G : Gam) (ρ : Slots) (b : Ex) (x : Val) (st : Store) : Res Val := match x with
  | .fz (.bl true) => ev G b ρ st
  | .fz (.bl false) => .ok (.fz (.bl false)) st
  | _ => .stuck
@[simp] theorem ev_and {a b : Ex} : ev G (.and_ a b) ρ st = (ev G a ρ st).bind (kAnd G ρ b) := by rfl
@[simp] theorem kAnd_eq {b : Ex} {t : Bool} : kAnd G ρ b (.fz (.bl t)) st = if t = true then ev G b ρ st else .ok (.fz (.bl false)) st := by cases t <;> rfl
def kOr (G : Gam) (ρ : Slots) (b : Ex) (x : Val) (st : Store) : Res Val := match x with
  | .fz (.bl true) => .ok (.fz (.bl true)) st
  | .fz (.bl false) => ev G b ρ st
  | _ => .stuck
@[simp] theorem ev_or {a b : Ex} : ev G (.or_ a b) ρ st = (ev G a ρ st).bind (kOr G ρ b) := by rfl
@[simp] theorem kOr_eq {b : Ex} {t : Bool} : kOr G ρ b (.fz (.bl t)) st = if t = true then .ok (.fz (.bl true)) st else ev G b ρ st := by cases t <;> rfl
def kIfe (G : Gam) (ρ : Slots) (a b : Ex) (x : Val) (st : Store) : Res Val := match x with
  | .fz (.bl true) => ev G a ρ st
  | .fz (.bl false) => ev G b ρ st
  | _ => .stuck
@[simp] theorem ev_ife {c a b : Ex} : ev G (.ife c a b) ρ st = (ev G c ρ st).bind (kIfe G ρ a b) := by rfl
@[simp] theorem kIfe_eq {a b : Ex} {t : Bool} : kIfe G ρ a b (.fz (.bl t)) st = if t = true then ev G a ρ st else ev G b ρ st := by cases t <;> rfl
def kTru (x : Val) (st : Store) : Res Val := pick (dr st x) fun d => pick (truS d) fun r => .ok (.fz (.bl r)) st
@[simp] theorem ev_tru {a : Ex} : ev G (.tru a) ρ st = (ev G a ρ st).bind kTru := by rfl
@[simp] theorem kTru_eq {x : Val} : kTru x st = pick (dr st x) fun d => pick (truS d) fun r => .ok (.fz (.bl r)) st := by rfl
@[simp] theorem truS_bl {b : Bool} : truS (.bl b) = some b := by rfl
@[simp] theorem truS_int {i : Int} : truS (.int i) = some (i != 0) := by rfl
def kEvs2 (v : Val) (vs : List Val) (st : Store) : Res (List Val) := .ok (v :: vs) st
def kEvs (G : Gam) (ρ : Slots) (es : Exs) (v : Val) (st : Store) : Res (List Val) := (evs G es ρ st).bind (kEvs2 v)
@[simp] theorem evs_nil : evs G .nil ρ st = .ok [] st := by rfl
@[simp] theorem evs_cons {e : Ex} {es : Exs} : evs G (.cons e es) ρ st = (ev G e ρ st).bind (kEvs G ρ es) := by rfl
@[simp] theorem kEvs_eq {es : Exs} {v : Val} : kEvs G ρ es v st = (evs G es ρ st).bind (kEvs2 v) := by rfl
@[simp] theorem kEvs2_eq {v : Val} {vs : List Val} : kEvs2 v vs st = .ok (v :: vs) st := by rfl
def kFrs2 (d : D) (ds : List D) (st : Store) : Res (List D) := .ok (d :: ds) st
def kFrs (io : Nat) (vs : List Val) (d : D) (st : Store) : Res (List D) := (PD.frs io vs st).bind (kFrs2 d)
@[simp] theorem frs_nil {io : Nat} : PD.frs io [] st = .ok [] st := by rfl
@[simp] theorem frs_cons {io : Nat} {v : Val} {vs : List Val} : PD.frs io (v :: vs) st = (fr io v st).bind (kFrs io vs) := by rfl
@[simp] theorem kFrs_eq {io : Nat} {vs : List Val} {d : D} : kFrs io vs d st = (PD.frs io vs st).bind (kFrs2 d) := by rfl
@[simp] theorem kFrs2_eq {d : D} {ds : List D} : kFrs2 d ds st = .ok (d :: ds) st := by rfl
def kTup2 (ds : List D) (st : Store) : Res Val := if ds.length ≤ LIM then .ok (.fz (.tup ds)) st else .stuck
def kTup (io : Nat) (vs : List Val) (st : Store) : Res Val := (PD.frs io vs st).bind kTup2
@[simp] theorem ev_tup {es : Exs} : ev G (.tup es) ρ st = (evs G es ρ st).bind (kTup G.io) := by rfl
@[simp] theorem kTup_eq {io : Nat} {vs : List Val} : kTup io vs st = (PD.frs io vs st).bind kTup2 := by rfl
theorem kTup2_eq {ds : List D} (h : ds.length ≤ LIM) : kTup2 ds st = .ok (.fz (.tup ds)) st := if_pos h
@[simp] theorem kTup2_1 {a : D} : kTup2 [a] st = .ok (.fz (.tup [a])) st := by rfl
@[simp] theorem kTup2_0 : kTup2 [] st = .ok (.fz (.tup [])) st := by rfl
@[simp] theorem kTup2_2 {a b : D} : kTup2 [a, b] st = .ok (.fz (.tup [a, b])) st := by rfl
@[simp] theorem kTup2_3 {a b c : D} : kTup2 [a, b, c] st = .ok (.fz (.tup [a, b, c])) st := by rfl
def kLst2 (ds : List D) (st : Store) : Res Val := if ds.length ≤ LIM then .ok (.loc st.length) (st ++ [.lst ds]) else .stuck
def kLst (io : Nat) (vs : List Val) (st : Store) : Res Val := (PD.frs io vs st).bind kLst2
@[simp] theorem ev_lst {es : Exs} : ev G (.lst es) ρ st = (evs G es ρ st).bind (kLst G.io) := by rfl
@[simp] theorem kLst_eq {io : Nat} {vs : List Val} : kLst io vs st = (PD.frs io vs st).bind kLst2 := by rfl
theorem kLst2_eq {ds : List D} (h : ds.length ≤ LIM) : kLst2 ds st = .ok (.loc st.length) (st ++ [.lst ds]) := if_pos h
@[simp] theorem kLst2_0 : kLst2 [] st = .ok (.loc st.length) (st ++ [.lst []]) := by rfl
@[simp] theorem kLst2_1 {a : D} : kLst2 [a] st = .ok (.loc st.length) (st ++ [.lst [a]]) := by rfl
@[simp] theorem kLst2_2 {a b : D} : kLst2 [a, b] st = .ok (.loc st.length) (st ++ [.lst [a, b]]) := by rfl
def kIdx2 (x y : Val) (st : Store) : Res Val := pick (dr st x) fun dx => pick (dr st y) fun dy => pick (idxS dx dy) fun d => .ok (.fz d) st
def kIdx (G : Gam) (ρ : Slots) (i : Ex) (x : Val) (st : Store) : Res Val := (ev G i ρ st).bind (kIdx2 x)
@[simp] theorem ev_idx {a i : Ex} : ev G (.idx a i) ρ st = (ev G a ρ st).bind (kIdx G ρ i) := by rfl
@[simp] theorem kIdx_eq {i : Ex} {x : Val} : kIdx G ρ i x st = (ev G i ρ st).bind (kIdx2 x) := by rfl
@[simp] theorem kIdx2_eq {x y : Val} : kIdx2 x y st = pick (dr st x) fun dx => pick (dr st y) fun dy => pick (idxS dx dy) fun d => .ok (.fz d) st := by rfl
theorem ixN_nat {n k : Nat} (h : k < n) : ixN n (k : Int) = some k := by
  unfold ixN
  rw [if_pos (by omega), if_pos (by omega)]
  simp
theorem atI_nat {xs : List D} {k : Nat} (h : k < xs.length) : atI xs (k : Int) = some xs[k] := by
  unfold atI
  rw [ixN_nat h]
  simp [h]
theorem idx_lst {ds : List D} {k : Nat} {i : Int} (hi : i = k) (h : k < ds.length) : idxS (.lst ds) (.int i) = some ds[k] := by
  subst hi
  exact atI_nat h
theorem idx_tup {ds : List D} {k : Nat} {i : Int} (hi : i = k) (h : k < ds.length) : idxS (.tup ds) (.int i) = some ds[k] := by
  subst hi
  exact atI_nat h
@[simp] theorem idx_tup0 {a : D} {ds : List D} : idxS (.tup (a :: ds)) (.int 0) = some a := idx_tup (k := 0) rfl (by simp)
@[simp] theorem idx_tup1 {a b : D} {ds : List D} : idxS (.tup (a :: b :: ds)) (.int 1) = some b := idx_tup (k := 1) rfl (by simp)
@[simp] theorem idx_lst0 {a : D} {ds : List D} : idxS (.lst (a :: ds)) (.int 0) = some a := idx_lst (k := 0) rfl (by simp)
@[simp] theorem idx_lst1 {a b : D} {ds : List D} : idxS (.lst (a :: b :: ds)) (.int 1) = some b := idx_lst (k := 1) rfl (by simp)
def kCall (io : Nat) (fi : FnI) (vs : List Val) (st : Store) : Res Val := callS io fi vs st
@[simp] theorem ev_call {j : Nat} {es : Exs} : ev G (.call j es) ρ st = pick G.fns[j]? fun fi => (evs G es ρ st).bind (kCall G.io fi) := by rfl
def kBfn (f : Bfn) (vs : List Val) (st : Store) : Res Val := pick (vs.mapM (dr st)) fun ds => opRes (bfnS f ds) st
@[simp] theorem ev_bfn {f : Bfn} {es : Exs} : ev G (.bfn f es) ρ st = (evs G es ρ st).bind (kBfn f) := by rfl
@[simp] theorem kBfn_eq {f : Bfn} {vs : List Val} : kBfn f vs st = pick (vs.mapM (dr st)) fun ds => opRes (bfnS f ds) st := by rfl

@[simp] theorem bfn_lenl {ds : List D} : bfnS .len [.lst ds] = .d (.int ds.length) := by rfl
@[simp] theorem bfn_lent {ds : List D} : bfnS .len [.tup ds] = .d (.int ds.length) := by rfl
@[simp] theorem bfn_abs {i : Int} : bfnS .abs [.int i] = .d (.int (if i < 0 then -i else i)) := by rfl
@[simp] theorem bfn_min {i j : Int} : bfnS .min2 [.int i, .int j] = .d (.int (if j < i then j else i)) := by rfl
@[simp] theorem bfn_max {i j : Int} : bfnS .max2 [.int i, .int j] = .d (.int (if j > i then j else i)) := by rfl
@[simp] theorem bfn_int {i : Int} : bfnS .int [.int i] = .d (.int i) := by rfl
@[simp] theorem bfn_intb {b : Bool} : bfnS .int [.bl b] = .d (.int (if b then 1 else 0)) := by rfl
@[simp] theorem bfn_tupl {ds : List D} : bfnS .tuple [.lst ds] = .d (.tup ds) := by rfl
@[simp] theorem bfn_tupt {ds : List D} : bfnS .tuple [.tup ds] = .d (.tup ds) := by rfl
@[simp] theorem bfn_lstl {ds : List D} : bfnS .list [.lst ds] = .l ds := by rfl
@[simp] theorem bfn_lstt {ds : List D} : bfnS .list [.tup ds] = .l ds := by rfl
@[simp] theorem bfn_gcd {i j : Int} : bfnS .gcd [.int i, .int j] = .d (.int ((Nat.gcd i.natAbs j.natAbs : Nat) : Int)) := by rfl
def kMth2 (m : Mth) (x : Val) (vs : List Val) (st : Store) : Res Val := pick (dr st x) fun d => pick (vs.mapM (dr st)) fun ds => opRes (mthS m d ds) st
def kMth (G : Gam) (ρ : Slots) (m : Mth) (es : Exs) (x : Val) (st : Store) : Res Val := (evs G es ρ st).bind (kMth2 m x)
@[simp] theorem ev_mth {m : Mth} {a : Ex} {es : Exs} : ev G (.mth m a es) ρ st = (ev G a ρ st).bind (kMth G ρ m es) := by rfl
@[simp] theorem kMth_eq {m : Mth} {es : Exs} {x : Val} : kMth G ρ m es x st = (evs G es ρ st).bind (kMth2 m x) := by rfl
@[simp] theorem kMth2_eq {m : Mth} {x : Val} {vs : List Val} : kMth2 m x vs st = pick (dr st x) fun d => pick (vs.mapM (dr st)) fun ds => opRes (mthS m d ds) st := by rfl
@[simp] theorem mth_bitlen {i : Int} : mthS .bitlen (.int i) [] = .d (.int (Builtin.Int.intBits i : Nat)) := by rfl
def kIsi (ex : Str → Str → Option Bool) (ts : List TyN) (x : Val) (st : Store) : Res Val := pick (dr st x) fun d => pick (isiS ex d ts) fun r => .ok (.fz (.bl r)) st
@[simp] theorem ev_isi {a : Ex} {ts : List TyN} {tp : Bool} : ev G (.isi a ts tp) ρ st = (ev G a ρ st).bind (kIsi G.exm ts) := by rfl
@[simp] theorem kIsi_eq {ex : Str → Str → Option Bool} {ts : List TyN} {x : Val} : kIsi ex ts x st = pick (dr st x) fun d => pick (isiS ex d ts) fun r => .ok (.fz (.bl r)) st := by rfl
theorem ev_isx {i : Nat} {ts : List Str} {tp : Bool} {y : XD} (h : ρ[i]? = some (some (.exn y))) : ev G (.isx i ts tp) ρ st = pick (isxS G.exm y.cls ts) fun r => .ok (.fz (.bl r)) st := by
  show (match ρ[i]? with
    | some (some (.exn x)) => pick (isxS G.exm x.cls ts) fun r => Res.ok (Val.fz (D.bl r)) st
    | _ => .stuck) = _
  rw [h]
theorem ev_xfld {i : Nat} {f : Str} {y : XD} (h : ρ[i]? = some (some (.exn y))) (h2 : G.xfl y.cls f = true) : ev G (.xfld i f) ρ st = pick (y.fs.lookup f) fun d => .ok (.fz d) st := by
  show (match ρ[i]? with
    | some (some (.exn x)) => if G.xfl x.cls f = true then pick (x.fs.lookup f) fun d => Res.ok (Val.fz d) st else .stuck
    | _ => .stuck) = _
  rw [h]
  exact if_pos h2
def kSlc3 (x : Val) (bl : Option Int) (bh : Option Int) (st : Store) : Res Val := pick (dr st x) fun dx => opRes (slcS dx bl bh) st
def kBnd (b : Bool) (l : Val) (st : Store) : Res (Option Int) := pick (bndV b l) fun b => .ok b st
def kSlc2 (G : Gam) (ρ : Slots) (hi : Ex) (x : Val) (bl : Option Int) (st : Store) : Res Val := ((ev G hi ρ st).bind (kBnd hi.isNone)).bind (kSlc3 x bl)
def kSlc (G : Gam) (ρ : Slots) (lo hi : Ex) (x : Val) (st : Store) : Res Val := ((ev G lo ρ st).bind (kBnd lo.isNone)).bind (kSlc2 G ρ hi x)
@[simp] theorem ev_slc {a lo hi : Ex} : ev G (.slc a lo hi) ρ st = (ev G a ρ st).bind (kSlc G ρ lo hi) := by rfl
@[simp] theorem kSlc_eq {lo hi : Ex} {x : Val} : kSlc G ρ lo hi x st = ((ev G lo ρ st).bind (kBnd lo.isNone)).bind (kSlc2 G ρ hi x) := by rfl
@[simp] theorem kSlc2_eq {hi : Ex} {x : Val} {bl : Option Int} : kSlc2 G ρ hi x bl st = ((ev G hi ρ st).bind (kBnd hi.isNone)).bind (kSlc3 x bl) := by rfl
@[simp] theorem kSlc3_eq {x : Val} {bl bh : Option Int} : kSlc3 x bl bh st = pick (dr st x) fun dx => opRes (slcS dx bl bh) st := by rfl
@[simp] theorem kBnd_eq {b : Bool} {l : Val} : kBnd b l st = pick (bndV b l) fun b => .ok b st := by rfl
@[simp] theorem bndV_n {v : Val} : bndV true v = some none := by unfold bndV; cases v <;> rfl
@[simp] theorem bndV_i {i : Int} : bndV false (.fz (.int i)) = some (some i) := by rfl
@[simp] theorem isNone_n : Ex.isNone .none_ = true := by rfl
@[simp] theorem isNone_v {i : Nat} : Ex.isNone (.var i) = false := by rfl
@[simp] theorem isNone_l {d : D} : Ex.isNone (.lit d) = false := by rfl
@[simp] theorem isNone_b {o : Bop} {a b : Ex} : Ex.isNone (.bin o a b) = false := by rfl
@[simp] theorem isNone_c {j : Nat} {es : Exs} : Ex.isNone (.call j es) = false := by rfl
@[simp] theorem slc_lst {ds : List D} {a b : Option Int} : slcS (.lst ds) a b = .l (cutD ds a b) := by rfl
@[simp] theorem slc_tup {ds : List D} {a b : Option Int} : slcS (.tup ds) a b = .d (.tup (cutD ds a b)) := by rfl
/-! ### calls -/
def kRes (ns : List Nat) (st : Store) : FRes → Res Val
  | .ok d cs => pick (putBack ns cs st) fun st => .ok (.fz d) st
  | .okl ds cs => pick (putBack ns cs st) fun st => .ok (.loc st.length) (st ++ [.lst ds])
  | .exc x cs => pick (putBack ns cs st) fun st => .exc x st
  | .stuck => .stuck
def kCal2 (fi : FnI) (as : List (Sum D Nat)) (st : Store) : Res Val := if noDup (locsA as) then
    pick (mkA st as) fun args => kRes (locsA as) st (fi.f (args ++ fi.dfl.map .fz))
  else .stuck
theorem callS_eq {io : Nat} {fi : FnI} {vs : List Val} : callS io fi vs st = (PD.frA io fi.muts vs st).bind (kCal2 fi) := by
  have e : (fun (as : List (Sum D Nat)) (st : Store) => if noDup (locsA as) then
      pick (mkA st as) fun args => match fi.f (args ++ fi.dfl.map .fz) with
        | .ok d cs => pick (putBack (locsA as) cs st) fun st => Res.ok (Val.fz d) st
        | .okl ds cs => pick (putBack (locsA as) cs st) fun st => .ok (.loc st.length) (st ++ [.lst ds])
        | .exc x cs => pick (putBack (locsA as) cs st) fun st => .exc x st
        | .stuck => .stuck
      else .stuck) = kCal2 fi := by
    funext as st
    have e2 : (fun args => match fi.f (args ++ fi.dfl.map .fz) with
        | .ok d cs => pick (putBack (locsA as) cs st) fun st => Res.ok (Val.fz d) st
        | .okl ds cs => pick (putBack (locsA as) cs st) fun st => .ok (.loc st.length) (st ++ [.lst ds])
        | .exc x cs => pick (putBack (locsA as) cs st) fun st => .exc x st
        | .stuck => .stuck) = fun args => kRes (locsA as) st (fi.f (args ++ fi.dfl.map .fz)) := by
      funext args
      cases fi.f (args ++ fi.dfl.map .fz) <;> rfl
    simp only [e2]
    rfl
  rw [← e]
  rfl
@[simp] theorem kCall_eq {io : Nat} {fi : FnI} {vs : List Val} : kCall io fi vs st = (PD.frA io fi.muts vs st).bind (kCal2 fi) := callS_eq
def kFa (io : Nat) (ms : List Bool) (vs : List Val) (d : D) (st : Store) : Res (List (Sum D Nat)) := (PD.frA io ms vs st).bind fun as st => .ok (.inl d :: as) st
def kFa2 (d : Sum D Nat) (as : List (Sum D Nat)) (st : Store) : Res (List (Sum D Nat)) := .ok (d :: as) st
@[simp] theorem frA_nil {io : Nat} {ms : List Bool} : PD.frA io ms [] st = .ok [] st := by
  cases ms with
  | nil => rfl
  | cons m ms => cases m <;> rfl
@[simp] theorem frA_nc {io : Nat} {v : Val} {vs : List Val} : PD.frA io [] (v :: vs) st = (fr io v st).bind (kFa io [] vs) := by rfl
@[simp] theorem frA_fc {io : Nat} {ms : List Bool} {v : Val} {vs : List Val} : PD.frA io (false :: ms) (v :: vs) st = (fr io v st).bind (kFa io ms vs) := by rfl
@[simp] theorem frA_tc {io n : Nat} {ms : List Bool} {vs : List Val} : PD.frA io (true :: ms) (.loc n :: vs) st = (PD.frA io ms vs st).bind (kFa2 (.inr n)) := by rfl
@[simp] theorem kFa_eq {io : Nat} {ms : List Bool} {vs : List Val} {d : D} : kFa io ms vs d st = (PD.frA io ms vs st).bind (kFa2 (.inl d)) := by rfl
@[simp] theorem kFa2_eq {d : Sum D Nat} {as : List (Sum D Nat)} : kFa2 d as st = .ok (d :: as) st := by rfl
@[simp] theorem kCal2_1 {muts : List Bool} {f : List PD.Arg → FRes} {a : D} : kCal2 ⟨muts, [], f⟩ [.inl a] st = kRes [] st (f [.fz a]) := by rfl
@[simp] theorem kCal2_2 {muts : List Bool} {f : List PD.Arg → FRes} {a b : D} : kCal2 ⟨muts, [], f⟩ [.inl a, .inl b] st = kRes [] st (f [.fz a, .fz b]) := by rfl
@[simp] theorem kCal2_3 {muts : List Bool} {f : List PD.Arg → FRes} {a b c : D} : kCal2 ⟨muts, [], f⟩ [.inl a, .inl b, .inl c] st = kRes [] st (f [.fz a, .fz b, .fz c]) := by rfl
@[simp] theorem kCal2_4 {muts : List Bool} {f : List PD.Arg → FRes} {a b c d : D} : kCal2 ⟨muts, [], f⟩ [.inl a, .inl b, .inl c, .inl d] st = kRes [] st (f [.fz a, .fz b, .fz c, .fz d]) := by rfl
theorem kCal2_m {muts : List Bool} {f : List PD.Arg → FRes} {n : Nat} {ds : List D} (h : st[n]? = some (.lst ds)) : kCal2 ⟨muts, [], f⟩ [.inr n] st = kRes [n] st (f [.mu (.lst ds)]) := by
  unfold kCal2
  simp [locsA, noDup, mkA, h, Cont.live]
theorem kCal2_m1 {muts : List Bool} {f : List PD.Arg → FRes} {n : Nat} {ds : List D} {a : D} (h : st[n]? = some (.lst ds)) : kCal2 ⟨muts, [], f⟩ [.inr n, .inl a] st = kRes [n] st (f [.mu (.lst ds), .fz a]) := by
  unfold kCal2
  simp [locsA, noDup, mkA, h, Cont.live]
@[simp] theorem kRes_ok {d : D} : kRes [] st (.ok d []) = .ok (.fz d) st := by rfl
@[simp] theorem kRes_okl {ds : List D} : kRes [] st (.okl ds []) = .ok (.loc st.length) (st ++ [.lst ds]) := by rfl
@[simp] theorem kRes_exc : kRes [] st (.exc x []) = .exc x st := by rfl
@[simp] theorem kRes_okm {n : Nat} {d : D} {ds : List D} : kRes [n] st (.ok d [.lst ds]) = .ok (.fz d) (st.set n (.lst ds)) := by rfl
@[simp] theorem kRes_excm {n : Nat} {ds : List D} : kRes [n] st (.exc x [.lst ds]) = .exc x (st.set n (.lst ds)) := by rfl
/-! ### statements -/
noncomputable def kSeq (G : Gam) (ss : Sts) (ρ : Slots) (st : Store) : SR := exs G ss ρ st
@[simp] theorem exs_nil : exs G .nil ρ st = .nx ρ st := by rfl
@[simp] theorem exs_cons {s : St} {ss : Sts} : exs G (.cons s ss) ρ st = (ex G s ρ st).bind (kSeq G ss) := by rfl
@[simp] theorem kSeq_eq {ss : Sts} : kSeq G ss ρ st = exs G ss ρ st := by rfl
def kAsg (ρ : Slots) (t : Tg) (v : Val) (st : Store) : SR := pickS (asgT t v ρ st) fun ρ => .nx ρ st
@[simp] theorem ex_asg {t : Tg} {e : Ex} : ex G (.asg t e) ρ st = (ev G e ρ st).sr ρ (kAsg ρ t) := by rfl
@[simp] theorem kAsg_nm {i : Nat} {v : Val} : kAsg ρ (.nm i) v st = .nx (ρ.set i (some v)) st := by rfl
@[simp] theorem kAsg_tp {is : List Nat} {ds : List D} : kAsg ρ (.tp is) (.fz (.tup ds)) st = pickS (setAll is ds ρ) fun ρ => .nx ρ st := by rfl
@[simp] theorem setAll_nil : setAll [] [] ρ = some ρ := by rfl
@[simp] theorem setAll_cons {i : Nat} {is : List Nat} {d : D} {ds : List D} : setAll (i :: is) (d :: ds) ρ = setAll is ds (ρ.set i (some (.fz d))) := by rfl
noncomputable def kIf (G : Gam) (ρ : Slots) (a b : Sts) (x : Val) (st : Store) : SR := match x with
  | .fz (.bl true) => exs G a ρ st
  | .fz (.bl false) => exs G b ρ st
  | _ => .stuck
@[simp] theorem ex_if {c : Ex} {a b : Sts} : ex G (.if_ c a b) ρ st = (ev G c ρ st).sr ρ (kIf G ρ a b) := by rfl
@[simp] theorem kIf_eq {a b : Sts} {t : Bool} : kIf G ρ a b (.fz (.bl t)) st = if t = true then exs G a ρ st else exs G b ρ st := by cases t <;> rfl
def kRet2 (d : D) (st : Store) : SR := .rt d st
def kRet (io : Nat) (ρ : Slots) (v : Val) (st : Store) : SR := (fr io v st).sr ρ kRet2
@[simp] theorem ex_ret {e : Ex} : ex G (.ret e) ρ st = (ev G e ρ st).sr ρ (kRet G.io ρ) := by rfl
@[simp] theorem kRet_eq {io : Nat} {v : Val} : kRet io ρ v st = (fr io v st).sr ρ kRet2 := by rfl
@[simp] theorem kRet2_eq {d : D} : kRet2 d st = .rt d st := by rfl
@[simp] theorem ex_retn : ex G .retn ρ st = .rt .non st := by rfl
@[simp] theorem ex_pass : ex G .pass ρ st = .nx ρ st := by rfl
@[simp] theorem ex_rais {c : Str} : ex G (.rais c) ρ st = .exc ⟨c, []⟩ ρ st := by rfl
def kRf2 (ρ : Slots) (c f : Str) (d : D) (st : Store) : SR := .exc ⟨c, [(f, d)]⟩ ρ st
def kRf (io : Nat) (ρ : Slots) (c f : Str) (v : Val) (st : Store) : SR := (fr io v st).sr ρ (kRf2 ρ c f)
@[simp] theorem ex_raisf {c f : Str} {e : Ex} : ex G (.raisf c f e) ρ st = (ev G e ρ st).sr ρ (kRf G.io ρ c f) := by rfl
@[simp] theorem kRf_eq {io : Nat} {c f : Str} {v : Val} : kRf io ρ c f v st = (fr io v st).sr ρ (kRf2 ρ c f) := by rfl
@[simp] theorem kRf2_eq {c f : Str} {d : D} : kRf2 ρ c f d st = .exc ⟨c, [(f, d)]⟩ ρ st := by rfl
def kExp (ρ : Slots) (v : Val) (st : Store) : SR := .nx ρ st
@[simp] theorem ex_exp {e : Ex} : ex G (.exp e) ρ st = (ev G e ρ st).sr ρ (kExp ρ) := by rfl
@[simp] theorem kExp_eq {v : Val} : kExp ρ v st = .nx ρ st := by rfl
def kApp2 (ρ : Slots) (n : Nat) (d : D) (st : Store) : SR := match st[n]? with
  | some (.lst ds) => if ds.length < LIM then .nx ρ (st.set n (.lst (ds ++ [d]))) else .stuck
  | _ => .stuck
def kApp (io : Nat) (ρ : Slots) (n : Nat) (v : Val) (st : Store) : SR := (fr io v st).sr ρ (kApp2 ρ n)
theorem ex_app {i n : Nat} {e : Ex} {ds : List D} (h : ρ[i]? = some (some (.loc n))) (h2 : st[n]? = some (.lst ds)) : ex G (.app i e) ρ st = (ev G e ρ st).sr ρ (kApp G.io ρ n) := by
  show (match ρ[i]? with
    | some (some (.loc n)) => (match st[n]? with
      | some (.lst _) => (ev G e ρ st).sr ρ fun v st => (fr G.io v st).sr ρ fun d st => (match st[n]? with
        | some (.lst ds) => if ds.length < LIM then SR.nx ρ (st.set n (.lst (ds ++ [d]))) else .stuck
        | _ => .stuck)
      | _ => .stuck)
    | _ => .stuck) = _
  simp only [h, h2]
  rfl
@[simp] theorem kApp_eq {io n : Nat} {v : Val} : kApp io ρ n v st = (fr io v st).sr ρ (kApp2 ρ n) := by rfl
theorem kApp2_eq {n : Nat} {ds : List D} {d : D} (h : st[n]? = some (.lst ds)) (h2 : ds.length < LIM) : kApp2 ρ n d st = .nx ρ (st.set n (.lst (ds ++ [d]))) := by
  unfold kApp2
  simp only [h]
  rw [if_pos h2]
def kSix3 (ρ : Slots) (n : Nat) (y : Val) (d : D) (st : Store) : SR := match dr st y, st[n]? with
  | some (.int j), some (.lst ds) => pickS (ixN ds.length j) fun m => .nx ρ (st.set n (.lst (ds.set m d)))
  | _, _ => .stuck
def kSix2 (io : Nat) (ρ : Slots) (n : Nat) (v y : Val) (st : Store) : SR := (fr io v st).sr ρ (kSix3 ρ n y)
def kSix (G : Gam) (ρ : Slots) (i : Nat) (k : Ex) (v : Val) (st : Store) : SR := match ρ[i]? with
  | some (some (.loc n)) => (ev G k ρ st).sr ρ (kSix2 G.io ρ n v)
  | _ => .stuck
@[simp] theorem ex_six {i : Nat} {k e : Ex} : ex G (.six i k e) ρ st = (ev G e ρ st).sr ρ (kSix G ρ i k) := by rfl
theorem kSix_eq {i n : Nat} {k : Ex} {v : Val} (h : ρ[i]? = some (some (.loc n))) : kSix G ρ i k v st = (ev G k ρ st).sr ρ (kSix2 G.io ρ n v) := by
  unfold kSix
  simp only [h]
@[simp] theorem kSix2_eq {io n : Nat} {v y : Val} : kSix2 io ρ n v y st = (fr io v st).sr ρ (kSix3 ρ n y) := by rfl
theorem kSix3_eq {n m : Nat} {j : Int} {d : D} {ds : List D} (h : st[n]? = some (.lst ds)) (h2 : j = m) (h3 : m < ds.length) : kSix3 ρ n (.fz (.int j)) d st = .nx ρ (st.set n (.lst (ds.set m d))) := by
  subst h2
  unfold kSix3
  simp only [h, dr_fz]
  rw [ixN_nat h3]
  rfl
noncomputable def fBody (G : Gam) (t : Tg) (b : Sts) (d : D) (ρ : Slots) (st : Store) : SR := pickS (asgT t (.fz d) ρ st) fun ρ => exs G b ρ st
noncomputable def kFor (G : Gam) (ρ : Slots) (t : Tg) (b : Sts) (I : Iter) (st : Store) : SR := pickS (I.size st) fun n => forLoop I (fBody G t b) n 0 ρ st
@[simp] theorem ex_for {t : Tg} {it : It} {b : Sts} : ex G (.for_ t it b) ρ st = (evI G it ρ st).sr ρ (kFor G ρ t b) := by rfl
theorem kFor_eq {t : Tg} {b : Sts} {I : Iter} {n : Nat} (h : I.size st = some n) : kFor G ρ t b I st = forLoop I (fBody G t b) n 0 ρ st := by
  unfold kFor
  rw [h]
  rfl
@[simp] theorem kFor_rng {t : Tg} {b : Sts} {lo : Int} {n : Nat} : kFor G ρ t b (.rng lo n) st = forLoop (.rng lo n) (fBody G t b) n 0 ρ st := by rfl
@[simp] theorem kFor_tup {t : Tg} {b : Sts} {ds : List D} : kFor G ρ t b (.tup ds) st = forLoop (.tup ds) (fBody G t b) ds.length 0 ρ st := by rfl
@[simp] theorem kFor_lst {t : Tg} {b : Sts} {ds : List D} : kFor G ρ t b (.lst (.fz (.lst ds))) st = forLoop (.lst (.fz (.lst ds))) (fBody G t b) ds.length 0 ρ st := by rfl
@[simp] theorem size_rng {lo : Int} {n : Nat} : Iter.size st (.rng lo n) = some n := by rfl
@[simp] theorem at_rng {lo : Int} {n i : Nat} : Iter.at st i (.rng lo n) = some (.int (lo + i)) := by rfl
@[simp] theorem size_tup {ds : List D} : Iter.size st (.tup ds) = some ds.length := by rfl
@[simp] theorem at_tup {ds : List D} {i : Nat} : Iter.at st i (.tup ds) = ds[i]? := by rfl
@[simp] theorem size_lst {ds : List D} : Iter.size st (.lst (.fz (.lst ds))) = some ds.length := by rfl
@[simp] theorem at_lst {ds : List D} {i : Nat} : Iter.at st i (.lst (.fz (.lst ds))) = ds[i]? := by rfl
@[simp] theorem fBody_nm {i : Nat} {b : Sts} {d : D} : fBody G (.nm i) b d ρ st = exs G b (ρ.set i (some (.fz d))) st := by rfl
def kRng (a : D) (y : Val) (st : Store) : Res Iter := pick (dr st y) fun e => pick (rngS a e) fun I => .ok I st
def kRng2 (G : Gam) (ρ : Slots) (b : Ex) (x : Val) (st : Store) : Res Iter := (ev G b ρ st).bind fun y st => pick (dr st x) fun d => pick (dr st y) fun e => pick (rngS d e) fun I => .ok I st
@[simp] theorem evI_rng1 {a : Ex} : evI G (.rng1 a) ρ st = (ev G a ρ st).bind (kRng (.int 0)) := by rfl
@[simp] theorem evI_rng2 {a b : Ex} : evI G (.rng2 a b) ρ st = (ev G a ρ st).bind (kRng2 G ρ b) := by rfl
theorem rngS_eq {i j : Int} (h : rngOk i = true) (h2 : rngOk j = true) : rngS (.int i) (.int j) = some (.rng i (j - i).toNat) := by
  unfold rngS
  simp [h, h2]
theorem kRng_eq {i j : Int} (h : rngOk i = true) (h2 : rngOk j = true) : kRng (.int i) (.fz (.int j)) st = .ok (.rng i (j - i).toNat) st := by
  unfold kRng
  simp [rngS_eq h h2]
theorem kRng2_eq {b : Ex} {i j : Int} (hb : ev G b ρ st = .ok (.fz (.int j)) st) (h : rngOk i = true) (h2 : rngOk j = true) : kRng2 G ρ b (.fz (.int i)) st = .ok (.rng i (j - i).toNat) st := by
  unfold kRng2
  simp [hb, rngS_eq h h2]
def kSeqI (x : Val) (st : Store) : Res Iter := pick (dr st x) fun d => pick (seqI x d) fun I => .ok I st
@[simp] theorem evI_seq {a : Ex} : evI G (.seq a) ρ st = (ev G a ρ st).bind kSeqI := by rfl
@[simp] theorem kSeqI_tup {ds : List D} : kSeqI (.fz (.tup ds)) st = .ok (.tup ds) st := by rfl
@[simp] theorem kSeqI_lst {ds : List D} : kSeqI (.fz (.lst ds)) st = .ok (.lst (.fz (.lst ds))) st := by rfl
noncomputable def kTry (G : Gam) (hs : Hds) : SR → SR
  | .exc x ρ st => exh G hs x ρ st
  | r => r
@[simp] theorem ex_try {b : Sts} {hs : Hds} : ex G (.try_ b hs) ρ st = kTry G hs (exs G b ρ st) := by
  show (match exs G b ρ st with
    | .exc x ρ st => exh G hs x ρ st
    | r => r) = _
  cases exs G b ρ st <;> rfl
@[simp] theorem kTry_nx {hs : Hds} : kTry G hs (.nx ρ st) = .nx ρ st := by rfl
@[simp] theorem kTry_rt {hs : Hds} {d : D} : kTry G hs (.rt d st) = .rt d st := by rfl
@[simp] theorem kTry_exc {hs : Hds} : kTry G hs (.exc x ρ st) = exh G hs x ρ st := by rfl
theorem exh_hit {c : Str} {tp : Bool} {as_ : Option Nat} {b : Sts} {hs : Hds} {cs : List Str} (h : isxS G.exm x.cls cs = some true) : exh G (.cons cs tp as_ b hs) x ρ st = endH as_ (exs G b (begH as_ x ρ) st) := by
  show (match hitS G.exm x.cls cs with
    | some true => endH as_ (exs G b (begH as_ x ρ) st)
    | some false => exh G hs x ρ st
    | none => .stuck) = _
  rw [show hitS G.exm x.cls cs = some true from h]
theorem exh_miss {tp : Bool} {as_ : Option Nat} {b : Sts} {hs : Hds} {cs : List Str} (h : isxS G.exm x.cls cs = some false) : exh G (.cons cs tp as_ b hs) x ρ st = exh G hs x ρ st := by
  show (match hitS G.exm x.cls cs with
    | some true => endH as_ (exs G b (begH as_ x ρ) st)
    | some false => exh G hs x ρ st
    | none => .stuck) = _
  rw [show hitS G.exm x.cls cs = some false from h]
@[simp] theorem gam_fns {m : ModD} {gs : List FnI} : (m.gam gs).fns = gs := by rfl
@[simp] theorem gam_io {m : ModD} {gs : List FnI} : (m.gam gs).io = 0 := by rfl
@[simp] theorem gam_con {m : ModD} {gs : List FnI} : (m.gam gs).con = m.con.map (·.2) := by rfl
@[simp] theorem gam_exm {m : ModD} {gs : List FnI} : (m.gam gs).exm = exmL m.exm := by rfl
/-! ### a def's end, by a name -/
def fin (n : Nat) : SR → FRes
  | .nx _ st => .ok .non (st.take n)
  | .rt d st => .ok d (st.take n)
  | .rtl ds st => .okl ds (st.take n)
  | .exc x _ st => .exc x (st.take n)
  | _ => .stuck
theorem runDef_eq {d : Def} {args : List PD.Arg} : runDef G d args = fin (contsOf args).length (exs { G with io := (contsOf args).length } d.body (slotsOf 0 args ++ List.replicate (d.n - args.length) none) (contsOf args)) := by
  unfold runDef
  generalize exs { G with io := (contsOf args).length } d.body (slotsOf 0 args ++ List.replicate (d.n - args.length) none) (contsOf args) = r
  cases r <;> rfl
@[simp] theorem fin_nx {n : Nat} : fin n (.nx ρ st) = .ok .non (st.take n) := by rfl
@[simp] theorem fin_rt {n : Nat} {d : D} : fin n (.rt d st) = .ok d (st.take n) := by rfl
@[simp] theorem fin_rtl {n : Nat} {ds : List D} : fin n (.rtl ds st) = .okl ds (st.take n) := by rfl
@[simp] theorem fin_exc {n : Nat} : fin n (.exc x ρ st) = .exc x (st.take n) := by rfl
end
end PD

/-! PE2 -/
set_option Elab.async false
set_option linter.all false
set_option maxRecDepth 100000
set_option maxHeartbeats 4000000
/-! PE: loops by an invariant. -/
namespace PD
open PySem PySem.Spec PyProof.Rows L2
/-- every turn goes on -/
theorem for_all {I : Iter} {body : D → Slots → Store → SR} {n : Nat} (Inv : Nat → Slots → Store → Prop)
    (hs : ∀ i ρ st, i ≤ n → Inv i ρ st → I.size st = some n)
    (step : ∀ i ρ st, i < n → Inv i ρ st → ∃ d, I.at st i = some d ∧ ∃ ρ' st', (body d ρ st = .nx ρ' st' ∨ body d ρ st = .ct ρ' st') ∧ Inv (i + 1) ρ' st') :
    ∀ (k i : Nat) (ρ : Slots) (st : Store), i + k = n → Inv i ρ st → ∃ ρ' st', forLoop I body k i ρ st = .nx ρ' st' ∧ Inv n ρ' st'
  | 0, i, ρ, st, e, h => by
    have e' : i = n := by omega
    subst e'
    refine ⟨ρ, st, ?_, h⟩
    show (if I.size st = some i then SR.nx ρ st else .stuck) = _
    rw [if_pos (hs i ρ st (Nat.le_refl _) h)]
  | k + 1, i, ρ, st, e, h => by
    obtain ⟨d, hd, ρ', st', hb, h'⟩ := step i ρ st (by omega) h
    obtain ⟨ρ2, st2, e2, h2⟩ := for_all Inv hs step k (i + 1) ρ' st' (by omega) h'
    refine ⟨ρ2, st2, ?_, h2⟩
    show (if I.size st = some (i + (k + 1)) then pickS (I.at st i) fun d => match body d ρ st with
      | .nx ρ' st' => forLoop I body k (i + 1) ρ' st'
      | .ct ρ' st' => forLoop I body k (i + 1) ρ' st'
      | .bk ρ' st' => .nx ρ' st'
      | r => r else .stuck) = _
    rw [if_pos (by rw [e]; exact hs i ρ st (by omega) h), hd]
    rcases hb with hb | hb <;> (simp only [pickS, hb]; exact e2)
/-- a turn may leave: by a return, or an exception -/
theorem for_out {I : Iter} {body : D → Slots → Store → SR} {n : Nat} (Inv : Nat → Slots → Store → Prop) (Out : SR → Prop)
    (hs : ∀ i ρ st, i ≤ n → Inv i ρ st → I.size st = some n)
    (step : ∀ i ρ st, i < n → Inv i ρ st → ∃ d, I.at st i = some d ∧ ((∃ ρ' st', (body d ρ st = .nx ρ' st' ∨ body d ρ st = .ct ρ' st') ∧ Inv (i + 1) ρ' st') ∨ ((∃ x s, body d ρ st = .rt x s) ∧ Out (body d ρ st)))) :
    ∀ (k i : Nat) (ρ : Slots) (st : Store), i + k = n → Inv i ρ st → (∃ ρ' st', forLoop I body k i ρ st = .nx ρ' st' ∧ Inv n ρ' st') ∨ Out (forLoop I body k i ρ st)
  | 0, i, ρ, st, e, h => by
    have e' : i = n := by omega
    subst e'
    refine .inl ⟨ρ, st, ?_, h⟩
    show (if I.size st = some i then SR.nx ρ st else .stuck) = _
    rw [if_pos (hs i ρ st (Nat.le_refl _) h)]
  | k + 1, i, ρ, st, e, h => by
    obtain ⟨d, hd, hb⟩ := step i ρ st (by omega) h
    have e0 : forLoop I body (k + 1) i ρ st = (match body d ρ st with
      | .nx ρ' st' => forLoop I body k (i + 1) ρ' st'
      | .ct ρ' st' => forLoop I body k (i + 1) ρ' st'
      | .bk ρ' st' => .nx ρ' st'
      | r => r) := by
      show (if I.size st = some (i + (k + 1)) then pickS (I.at st i) fun d => match body d ρ st with
        | .nx ρ' st' => forLoop I body k (i + 1) ρ' st'
        | .ct ρ' st' => forLoop I body k (i + 1) ρ' st'
        | .bk ρ' st' => .nx ρ' st'
        | r => r else .stuck) = _
      rw [if_pos (by rw [e]; exact hs i ρ st (by omega) h), hd]
      rfl
    rcases hb with ⟨ρ', st', hb, h'⟩ | ⟨⟨x, s, hb⟩, ho⟩
    · rw [e0]
      rcases hb with hb | hb <;> (simp only [hb]; exact for_out Inv Out hs step k (i + 1) ρ' st' (by omega) h')
    · right
      rw [e0]
      rw [hb] at ho ⊢
      exact ho
/-- a list comprehension, every element kept -/
theorem lc_all {I : Iter} {body : D → Store → Res (List D)} {n : Nat} (Inv : Nat → List D → Store → Prop)
    (hs : ∀ i acc st, i ≤ n → Inv i acc st → I.size st = some n)
    (step : ∀ i acc st, i < n → Inv i acc st → ∃ d, I.at st i = some d ∧ ∃ ds st', body d st = .ok ds st' ∧ Inv (i + 1) (acc ++ ds) st') :
    ∀ (k i : Nat) (acc : List D) (st : Store), i + k = n → Inv i acc st → ∃ acc' st', lcLoop I body k i acc st = .ok acc' st' ∧ Inv n acc' st'
  | 0, i, acc, st, e, h => by
    have e' : i = n := by omega
    subst e'
    refine ⟨acc, st, ?_, h⟩
    show (if I.size st = some i then Res.ok acc st else .stuck) = _
    rw [if_pos (hs i acc st (Nat.le_refl _) h)]
  | k + 1, i, acc, st, e, h => by
    obtain ⟨d, hd, ds, st', hb, h'⟩ := step i acc st (by omega) h
    obtain ⟨acc2, st2, e2, h2⟩ := lc_all Inv hs step k (i + 1) (acc ++ ds) st' (by omega) h'
    refine ⟨acc2, st2, ?_, h2⟩
    show (if I.size st = some (i + (k + 1)) then pick (I.at st i) fun d => (body d st).bind fun ds st' => lcLoop I body k (i + 1) (acc ++ ds) st' else .stuck) = _
    rw [if_pos (by rw [e]; exact hs i acc st (by omega) h), hd]
    show (body d st).bind _ = _
    rw [hb]
    exact e2
/-! ### the walked list comprehension -/
def lBody (G : Gam) (own : List Nat) (tg : Tg) (c elt : Ex) (ρ : Slots) (d : D) (st : Store) : Res (List D) :=
  pick (asgT tg (.fz d) (wipeS ρ own) st) fun ρ' => (ev G c ρ' st).nox.bind fun b st => lcTurn b ((ev G elt ρ' st).nox.bind fun v st => lcPut G.io v st) (.ok [] st)
def kLc (G : Gam) (ρ : Slots) (own : List Nat) (tg : Tg) (c elt : Ex) (I : Iter) (st : Store) : Res Val := pick (I.size st) fun n => if n ≤ LIM then (lcLoop I (lBody G own tg c elt ρ) n 0 [] st).bind lcEnd else .stuck
@[simp] theorem ev_lc {G : Gam} {ρ : Slots} {st : Store} {own : List Nat} {tg : Tg} {it : It} {c elt : Ex} : ev G (.lc own tg it c elt) ρ st = (evI G it ρ st).bind (kLc G ρ own tg c elt) := by rfl
theorem kLc_eq {G : Gam} {ρ : Slots} {st : Store} {own : List Nat} {tg : Tg} {c elt : Ex} {I : Iter} {n : Nat} (h : I.size st = some n) (h2 : n ≤ LIM) : kLc G ρ own tg c elt I st = (lcLoop I (lBody G own tg c elt ρ) n 0 [] st).bind lcEnd := by
  unfold kLc
  rw [h]
  exact if_pos h2
@[simp] theorem lcEnd_eq {ds : List D} {st : Store} : lcEnd ds st = .ok (.loc st.length) (st ++ [.lst ds]) := by rfl
/-- an element without a test -/
theorem lBody_1 {G : Gam} {ρ : Slots} {st st' : Store} {own : List Nat} {i : Nat} {elt : Ex} {d e : D} (h : ev G elt ((wipeS ρ own).set i (some (.fz d))) st = .ok (.fz e) st') : lBody G own (.nm i) (.lit (.bl true)) elt ρ d st = .ok [e] st' := by
  show (((ev G elt ((wipeS ρ own).set i (some (.fz d))) st).nox.bind fun v st => lcPut G.io v st)) = _
  rw [h] <;> rfl
end PD

/-! PE3 -/
set_option Elab.async false
set_option linter.all false
set_option maxRecDepth 100000
set_option maxHeartbeats 4000000
/-! PE: kinds, equality of fractions. -/
namespace PD
open PySem PySem.Spec PyProof.Rows L2
theorem isi1 {ex : Str → Str → Option Bool} {d : D} {u n : String} {b : Bool} (h : tyS d = some u) (k : kitB u n = some b) : isiS ex d [.ty n] = some b := by
  show (match (match tyS d with | some u => kitB u n | none => none) with | some true => some true | some false => some false | none => none) = _
  rw [h]
  simp only [k]
  cases b <;> rfl
section
variable {ex : Str → Str → Option Bool} {i : Int} {b : Bool} {s : Str} {ds : List D}
@[simp] theorem isi_ii : isiS ex (.int i) [.ty "int"] = some true := isi1 rfl (by decide +kernel)
@[simp] theorem isi_ib : isiS ex (.int i) [.ty "bool"] = some false := isi1 rfl (by decide +kernel)
@[simp] theorem isi_is : isiS ex (.int i) [.ty "str"] = some false := isi1 rfl (by decide +kernel)
@[simp] theorem isi_it : isiS ex (.int i) [.ty "tuple"] = some false := isi1 rfl (by decide +kernel)
@[simp] theorem isi_bi : isiS ex (.bl b) [.ty "int"] = some true := isi1 rfl (by decide +kernel)
@[simp] theorem isi_bb : isiS ex (.bl b) [.ty "bool"] = some true := isi1 rfl (by decide +kernel)
@[simp] theorem isi_bs : isiS ex (.bl b) [.ty "str"] = some false := isi1 rfl (by decide +kernel)
@[simp] theorem isi_bt : isiS ex (.bl b) [.ty "tuple"] = some false := isi1 rfl (by decide +kernel)
@[simp] theorem isi_ss : isiS ex (.str s) [.ty "str"] = some true := isi1 rfl (by decide +kernel)
@[simp] theorem isi_st : isiS ex (.str s) [.ty "tuple"] = some false := isi1 rfl (by decide +kernel)
@[simp] theorem isi_si : isiS ex (.str s) [.ty "int"] = some false := isi1 rfl (by decide +kernel)
@[simp] theorem isi_tt : isiS ex (.tup ds) [.ty "tuple"] = some true := isi1 rfl (by decide +kernel)
@[simp] theorem isi_ts : isiS ex (.tup ds) [.ty "str"] = some false := isi1 rfl (by decide +kernel)
@[simp] theorem isi_ti : isiS ex (.tup ds) [.ty "int"] = some false := isi1 rfl (by decide +kernel)
@[simp] theorem isi_lt : isiS ex (.lst ds) [.ty "tuple"] = some false := isi1 rfl (by decide +kernel)
@[simp] theorem isi_nt : isiS ex .non [.ty "tuple"] = some false := isi1 rfl (by decide +kernel)
@[simp] theorem isi_ni : isiS ex .non [.ty "int"] = some false := isi1 rfl (by decide +kernel)
end
section
variable {G : Gam} {ρ : Slots} {st : Store}
def kRetl (io : Nat) (v : Val) (st : Store) : SR := match v with
  | .loc n => if io ≤ n then (match st[n]? with
    | some (.lst ds) => .rtl ds st
    | _ => .stuck) else .stuck
  | _ => .stuck
@[simp] theorem ex_retl {e : Ex} : ex G (.retl e) ρ st = (ev G e ρ st).sr ρ (kRetl G.io) := by rfl
theorem kRetl_eq {io n : Nat} {ds : List D} (h : st[n]? = some (.lst ds)) (hi : io ≤ n) : kRetl io (.loc n) st = .rtl ds st := by
  unfold kRetl
  simp only [h]
  rw [if_pos hi]
end
end PD

/-! K03Data -/
set_option Elab.async false
set_option linter.all false
set_option maxRecDepth 100000
set_option maxHeartbeats 0
/-! law_k03_series: the data of its defs (printed by gen.py). -/
namespace K03
open PySem PD L2

def top (i : Nat) : Stmt := PySem.Challenge.pw_trueruns_k03_series.main.body.getD i (.Pass ⟨0, 0, 0, 0⟩)
def sub (s : Stmt) (j : Nat) : Stmt := match s with
  | .ClassDef (body := b) .. => b.getD j (.Pass ⟨0, 0, 0, 0⟩)
  | _ => .Pass ⟨0, 0, 0, 0⟩
def mk (i : Nat) (n : Str) : He.DefD := ⟨(n, none), n, n, defArgs (top i), defBody (top i), defScope (top i), [], []⟩
def sup_TooLarge : PySem.SupX.SupD := ⟨"TooLarge", "what", "TooLarge.__init__", defArgs (sub (top 5) 0), defBody (sub (top 5) 0), defScope (sub (top 5) 0)⟩
def con : List (Str × D) := [("ZERO", .tup [.int (0), .int (1)]), ("ONE", .tup [.int (1), .int (1)]), ("MOST_LENGTH", .int (40))]
def defs : List He.DefD := [mk 9 "lowest", mk 10 "plus", mk 11 "minus", mk 12 "product_of", mk 13 "over", mk 15 "number_at", mk 18 "quotient_series", mk 19 "series_of", mk 20 "powers_series", mk 21 "exp_series", mk 22 "series_times", mk 23 "series_log", mk 24 "series_exp", mk 26 "_law_well", mk 27 "_law_pull", mk 28 "_law_gcd", mk 29 "_law_frac", mk 30 "_law_add", mk 31 "_law_mul", mk 32 "_law_div", mk 33 "_law_whole", mk 34 "_law_is_frac", mk 35 "_law_is_row", mk 36 "_law_number", mk 37 "_law_some", mk 38 "_law_trim", mk 39 "_law_entry", mk 40 "_law_asked", mk 41 "_law_refused", mk 42 "_law_is_told", mk 43 "_law_by", mk 44 "_law_grown", mk 45 "_law_summed", mk 46 "_law_quotient", mk 47 "_law_bounds", mk 48 "_law_logs", mk 49 "_law_starts", mk 50 "law"]
def md : ModD := { con := con, free := ["abs", "bool", "int", "isinstance", "len", "min", "range", "str", "super", "tuple"], exn := ["TooLarge", "RunsError", "BadPoly", "BadNumber"], exc := ["BadNumber", "BadPoly"], exm := [("BadNumber", "BadNumber", true), ("BadNumber", "BadPoly", false), ("BadNumber", "RunsError", true), ("BadNumber", "TooLarge", false), ("BadPoly", "BadNumber", false), ("BadPoly", "BadPoly", true), ("BadPoly", "RunsError", true), ("BadPoly", "TooLarge", false), ("TooLarge", "BadNumber", false), ("TooLarge", "BadPoly", false), ("TooLarge", "RunsError", true), ("TooLarge", "TooLarge", true)], xfl := [("TooLarge", "what")], sup := [sup_TooLarge], gcd := true, defs := defs }
def N_lowest : List Str := ["p", "q", "shared"]
def b_lowest : Sts := (.cons (.asg (.nm 2) (.bfn .gcd (.cons (.var 0) (.cons (.var 1) .nil)))) (.cons (.if_ (.cmp .lt (.var 1) (.lit (.int (0)))) (.cons (.asg (.nm 2) (.neg (.var 2))) .nil) .nil) (.cons (.ret (.tup (.cons (.bin .fdv (.var 0) (.var 2)) (.cons (.bin .fdv (.var 1) (.var 2)) .nil)))) .nil)))
def t_lowest : List (Str × Nat) := []
noncomputable def g_lowest : List FnI := []
noncomputable def f_lowest : List PD.Arg → FRes := runDef (md.gam g_lowest) ⟨3, b_lowest⟩
def N_number_at : List Str := ["p", "k"]
def b_number_at : Sts := (.cons (.ret (.ife (.cmp .lt (.var 1) (.bfn .len (.cons (.var 0) .nil))) (.idx (.var 0) (.var 1)) (.glo 0))) .nil)
def t_number_at : List (Str × Nat) := []
noncomputable def g_number_at : List FnI := []
noncomputable def f_number_at : List PD.Arg → FRes := runDef (md.gam g_number_at) ⟨2, b_number_at⟩
def N_law_well : List Str := ["script", "rows", "spot", "cell", "mixed", "turn"]
def lp0_law_well : Sts := (.cons (.asg (.nm 4) (.bin .mod (.bfn .int (.cons (.bin .add (.bin .add (.bin .add (.bin .mul (.var 4) (.var 4)) (.bin .mul (.lit (.int (40014))) (.var 5))) (.var 2)) (.lit (.int (1)))) .nil)) (.lit (.int (2147483563))))) (.cons (.app 1 (.bin .fdv (.var 4) (.lit (.int (7))))) .nil))
def lp1_law_well : Sts := (.cons (.if_ (.cmp .gt (.var 3) (.lit (.int (0)))) (.cons (.app 1 (.bin .mod (.bfn .int (.cons (.var 3) .nil)) (.lit (.int (60))))) (.cons (.asg (.nm 3) (.bin .fdv (.var 3) (.lit (.int (60))))) .nil)) .nil) .nil)
def lp2_law_well : Sts := (.cons (.if_ (.cmp .lt (.var 2) (.bfn .len (.cons (.var 0) .nil))) (.cons (.asg (.nm 3) (.bfn .int (.cons (.idx (.var 0) (.var 2)) .nil))) (.cons (.if_ (.cmp .lt (.var 3) (.lit (.int (0)))) (.cons (.asg (.nm 3) (.bin .sub (.lit (.int (2))) (.bin .mul (.lit (.int (3))) (.var 3)))) .nil) .nil) (.cons (.if_ (.cmp .lt (.var 3) (.bin .pow (.lit (.int (10))) (.lit (.int (18))))) (.cons (.asg (.nm 4) (.bin .mod (.bfn .int (.cons (.bin .add (.bin .add (.bin .mul (.var 3) (.lit (.int (16807)))) (.bin .mul (.var 2) (.lit (.int (7919))))) (.lit (.int (3)))) .nil)) (.lit (.int (2147483647))))) (.cons (.for_ (.nm 5) (.rng1 (.lit (.int (5)))) lp0_law_well) .nil)) (.cons (.for_ (.nm 5) (.rng1 (.lit (.int (50)))) lp1_law_well) .nil)) .nil))) .nil) .nil)
def b_law_well : Sts := (.cons (.asg (.nm 1) (.lst .nil)) (.cons (.for_ (.nm 2) (.rng1 (.lit (.int (63)))) lp2_law_well) (.cons (.retl (.lst (.cons (.lit (.int (0))) (.cons (.var 1) .nil)))) .nil)))
def t_law_well : List (Str × Nat) := []
noncomputable def g_law_well : List FnI := []
noncomputable def f_law_well : List PD.Arg → FRes := runDef (md.gam g_law_well) ⟨6, b_law_well⟩
def N_law_pull : List Str := ["well", "top", "spot", "rows"]
def b_law_pull : Sts := (.cons (.asg (.nm 2) (.idx (.var 0) (.lit (.int (0))))) (.cons (.asg (.nm 3) (.idx (.var 0) (.lit (.int (1))))) (.cons (.six 0 (.lit (.int (0))) (.bin .add (.var 2) (.lit (.int (1))))) (.cons (.if_ (.cmp .ge (.var 2) (.bfn .len (.cons (.var 3) .nil))) (.cons (.ret (.lit (.int (0)))) .nil) .nil) (.cons (.ret (.bin .mod (.bfn .int (.cons (.idx (.var 3) (.var 2)) .nil)) (.var 1))) .nil)))))
def t_law_pull : List (Str × Nat) := []
noncomputable def g_law_pull : List FnI := []
noncomputable def f_law_pull : List PD.Arg → FRes := runDef (md.gam g_law_pull) ⟨4, b_law_pull⟩
def N_law_gcd : List Str := ["one", "two", "big", "small", "turn", "rest"]
def lp0_law_gcd : Sts := (.cons (.if_ (.cmp .eq (.var 3) (.lit (.int (0)))) (.cons (.ret (.var 2)) .nil) .nil) (.cons (.asg (.nm 5) (.bin .mod (.bfn .int (.cons (.var 2) .nil)) (.var 3))) (.cons (.asg (.nm 2) (.var 3)) (.cons (.asg (.nm 3) (.var 5)) .nil))))
def b_law_gcd : Sts := (.cons (.asg (.nm 2) (.bfn .abs (.cons (.var 0) .nil))) (.cons (.asg (.nm 3) (.bfn .abs (.cons (.var 1) .nil))) (.cons (.for_ (.nm 4) (.rng1 (.bin .add (.bin .add (.bin .mul (.lit (.int (2))) (.mth .bitlen (.var 2) .nil)) (.bin .mul (.lit (.int (2))) (.mth .bitlen (.var 3) .nil))) (.lit (.int (10))))) lp0_law_gcd) (.cons (.ret (.var 2)) .nil))))
def t_law_gcd : List (Str × Nat) := []
noncomputable def g_law_gcd : List FnI := []
noncomputable def f_law_gcd : List PD.Arg → FRes := runDef (md.gam g_law_gcd) ⟨6, b_law_gcd⟩
def N_law_whole : List Str := ["told"]
def b_law_whole : Sts := (.cons (.ret (.and_ (.isi (.var 0) [.ty "int"] false) (.not_ (.isi (.var 0) [.ty "bool"] false)))) .nil)
def t_law_whole : List (Str × Nat) := []
noncomputable def g_law_whole : List FnI := []
noncomputable def f_law_whole : List PD.Arg → FRes := runDef (md.gam g_law_whole) ⟨1, b_law_whole⟩
def N_law_trim : List Str := ["row", "size", "turn", "spot"]
def lp0_law_trim : Sts := (.cons (.if_ (.and_ (.cmp .gt (.var 1) (.lit (.int (0)))) (.cmp .eq (.idx (.idx (.var 0) (.bin .sub (.var 1) (.lit (.int (1))))) (.lit (.int (0)))) (.lit (.int (0))))) (.cons (.asg (.nm 1) (.bin .sub (.var 1) (.lit (.int (1))))) .nil) .nil) .nil)
def b_law_trim : Sts := (.cons (.asg (.nm 1) (.bfn .len (.cons (.var 0) .nil))) (.cons (.for_ (.nm 2) (.rng1 (.bfn .len (.cons (.var 0) .nil))) lp0_law_trim) (.cons (.ret (.bfn .tuple (.cons (.lc [3] (.nm 3) (.rng1 (.var 1)) (.lit (.bl true)) (.idx (.var 0) (.var 3))) .nil))) .nil)))
def t_law_trim : List (Str × Nat) := []
noncomputable def g_law_trim : List FnI := []
noncomputable def f_law_trim : List PD.Arg → FRes := runDef (md.gam g_law_trim) ⟨4, b_law_trim⟩
def N_law_refused : List Str := ["asked", "word"]
def b_law_refused : Sts := (.cons (.ret (.and_ (.isi (.idx (.var 0) (.lit (.int (0)))) [.ty "str"] false) (.and_ (.cmp .eq (.idx (.var 0) (.lit (.int (0)))) (.var 1)) (.cmp .is_ (.idx (.var 0) (.lit (.int (1)))) (.lit (.bl true)))))) .nil)
def t_law_refused : List (Str × Nat) := []
noncomputable def g_law_refused : List FnI := []
noncomputable def f_law_refused : List PD.Arg → FRes := runDef (md.gam g_law_refused) ⟨2, b_law_refused⟩
def N_plus : List Str := ["x", "y"]
def b_plus : Sts := (.cons (.if_ (.and_ (.cmp .eq (.idx (.var 0) (.lit (.int (1)))) (.lit (.int (1)))) (.cmp .eq (.idx (.var 1) (.lit (.int (1)))) (.lit (.int (1))))) (.cons (.ret (.tup (.cons (.bin .add (.idx (.var 0) (.lit (.int (0)))) (.idx (.var 1) (.lit (.int (0))))) (.cons (.lit (.int (1))) .nil)))) .nil) .nil) (.cons (.ret (.call 0 (.cons (.bin .add (.bin .mul (.idx (.var 0) (.lit (.int (0)))) (.idx (.var 1) (.lit (.int (1))))) (.bin .mul (.idx (.var 1) (.lit (.int (0)))) (.idx (.var 0) (.lit (.int (1)))))) (.cons (.bin .mul (.idx (.var 0) (.lit (.int (1)))) (.idx (.var 1) (.lit (.int (1))))) .nil)))) .nil))
def t_plus : List (Str × Nat) := [("lowest", 2)]
noncomputable def g_plus : List FnI := [⟨[false, false], [], f_lowest⟩]
noncomputable def f_plus : List PD.Arg → FRes := runDef (md.gam g_plus) ⟨2, b_plus⟩
def N_product_of : List Str := ["x", "y"]
def b_product_of : Sts := (.cons (.ret (.call 0 (.cons (.bin .mul (.idx (.var 0) (.lit (.int (0)))) (.idx (.var 1) (.lit (.int (0))))) (.cons (.bin .mul (.idx (.var 0) (.lit (.int (1)))) (.idx (.var 1) (.lit (.int (1))))) .nil)))) .nil)
def t_product_of : List (Str × Nat) := [("lowest", 2)]
noncomputable def g_product_of : List FnI := [⟨[false, false], [], f_lowest⟩]
noncomputable def f_product_of : List PD.Arg → FRes := runDef (md.gam g_product_of) ⟨2, b_product_of⟩
def N_over : List Str := ["x", "y"]
def b_over : Sts := (.cons (.if_ (.cmp .eq (.idx (.var 1) (.lit (.int (0)))) (.lit (.int (0)))) (.cons (.rais "BadNumber") .nil) .nil) (.cons (.ret (.call 0 (.cons (.bin .mul (.idx (.var 0) (.lit (.int (0)))) (.idx (.var 1) (.lit (.int (1))))) (.cons (.bin .mul (.idx (.var 0) (.lit (.int (1)))) (.idx (.var 1) (.lit (.int (0))))) .nil)))) .nil))
def t_over : List (Str × Nat) := [("lowest", 2)]
noncomputable def g_over : List FnI := [⟨[false, false], [], f_lowest⟩]
noncomputable def f_over : List PD.Arg → FRes := runDef (md.gam g_over) ⟨2, b_over⟩
def N_law_frac : List Str := ["top", "bottom", "shared"]
def b_law_frac : Sts := (.cons (.if_ (.cmp .lt (.var 1) (.lit (.int (0)))) (.cons (.asg (.nm 0) (.neg (.var 0))) (.cons (.asg (.nm 1) (.neg (.var 1))) .nil)) .nil) (.cons (.asg (.nm 2) (.call 0 (.cons (.var 0) (.cons (.var 1) .nil)))) (.cons (.ret (.tup (.cons (.bin .fdv (.var 0) (.var 2)) (.cons (.bin .fdv (.var 1) (.var 2)) .nil)))) .nil)))
def t_law_frac : List (Str × Nat) := [("_law_gcd", 2)]
noncomputable def g_law_frac : List FnI := [⟨[false, false], [], f_law_gcd⟩]
noncomputable def f_law_frac : List PD.Arg → FRes := runDef (md.gam g_law_frac) ⟨3, b_law_frac⟩
def N_law_is_frac : List Str := ["told"]
def b_law_is_frac : Sts := (.cons (.if_ (.or_ (.not_ (.isi (.var 0) [.ty "tuple"] false)) (.cmp .ne (.bfn .len (.cons (.var 0) .nil)) (.lit (.int (2))))) (.cons (.ret (.lit (.bl false))) .nil) .nil) (.cons (.if_ (.or_ (.not_ (.tru (.call 0 (.cons (.idx (.var 0) (.lit (.int (0)))) .nil)))) (.not_ (.tru (.call 0 (.cons (.idx (.var 0) (.lit (.int (1)))) .nil))))) (.cons (.ret (.lit (.bl false))) .nil) .nil) (.cons (.ret (.and_ (.cmp .ge (.idx (.var 0) (.lit (.int (1)))) (.lit (.int (1)))) (.cmp .eq (.call 1 (.cons (.idx (.var 0) (.lit (.int (0)))) (.cons (.idx (.var 0) (.lit (.int (1)))) .nil))) (.lit (.int (1)))))) .nil)))
def t_law_is_frac : List (Str × Nat) := [("_law_whole", 1), ("_law_gcd", 2)]
noncomputable def g_law_is_frac : List FnI := [⟨[false], [], f_law_whole⟩, ⟨[false, false], [], f_law_gcd⟩]
noncomputable def f_law_is_frac : List PD.Arg → FRes := runDef (md.gam g_law_is_frac) ⟨1, b_law_is_frac⟩
def N_minus : List Str := ["x", "y"]
def b_minus : Sts := (.cons (.ret (.call 0 (.cons (.var 0) (.cons (.tup (.cons (.neg (.idx (.var 1) (.lit (.int (0))))) (.cons (.idx (.var 1) (.lit (.int (1)))) .nil))) .nil)))) .nil)
def t_minus : List (Str × Nat) := [("plus", 2)]
noncomputable def g_minus : List FnI := [⟨[false, false], [], f_plus⟩]
noncomputable def f_minus : List PD.Arg → FRes := runDef (md.gam g_minus) ⟨2, b_minus⟩
def N_powers_series : List Str := ["t", "length", "made", "k"]
def lp0_powers_series : Sts := (.cons (.app 2 (.call 0 (.cons (.call 1 (.cons (.idx (.var 2) (.bin .sub (.var 3) (.lit (.int (1))))) (.cons (.var 0) .nil))) (.cons (.tup (.cons (.var 3) (.cons (.lit (.int (1))) .nil))) .nil)))) .nil)
def b_powers_series : Sts := (.cons (.asg (.nm 2) (.lst (.cons (.glo 1) .nil))) (.cons (.for_ (.nm 3) (.rng2 (.lit (.int (1))) (.bin .add (.var 1) (.lit (.int (1))))) lp0_powers_series) (.cons (.ret (.bfn .tuple (.cons (.var 2) .nil))) .nil)))
def t_powers_series : List (Str × Nat) := [("over", 2), ("product_of", 2)]
noncomputable def g_powers_series : List FnI := [⟨[false, false], [], f_over⟩, ⟨[false, false], [], f_product_of⟩]
noncomputable def f_powers_series : List PD.Arg → FRes := runDef (md.gam g_powers_series) ⟨4, b_powers_series⟩
def N_series_times : List Str := ["s", "r", "made", "k", "x", "j"]
def lp0_series_times : Sts := (.cons (.asg (.nm 4) (.call 0 (.cons (.var 4) (.cons (.call 1 (.cons (.idx (.var 0) (.var 5)) (.cons (.idx (.var 1) (.bin .sub (.var 3) (.var 5))) .nil))) .nil)))) .nil)
def lp1_series_times : Sts := (.cons (.asg (.nm 4) (.glo 0)) (.cons (.for_ (.nm 5) (.rng1 (.bin .add (.var 3) (.lit (.int (1))))) lp0_series_times) (.cons (.app 2 (.var 4)) .nil)))
def b_series_times : Sts := (.cons (.asg (.nm 2) (.lst .nil)) (.cons (.for_ (.nm 3) (.rng1 (.bfn .len (.cons (.var 0) .nil))) lp1_series_times) (.cons (.ret (.bfn .tuple (.cons (.var 2) .nil))) .nil)))
def t_series_times : List (Str × Nat) := [("plus", 2), ("product_of", 2)]
noncomputable def g_series_times : List FnI := [⟨[false, false], [], f_plus⟩, ⟨[false, false], [], f_product_of⟩]
noncomputable def f_series_times : List PD.Arg → FRes := runDef (md.gam g_series_times) ⟨6, b_series_times⟩
def N_series_exp : List Str := ["s", "made", "k", "x", "j"]
def lp0_series_exp : Sts := (.cons (.asg (.nm 3) (.call 0 (.cons (.var 3) (.cons (.call 1 (.cons (.tup (.cons (.var 4) (.cons (.lit (.int (1))) .nil))) (.cons (.call 1 (.cons (.idx (.var 0) (.var 4)) (.cons (.idx (.var 1) (.bin .sub (.var 2) (.var 4))) .nil))) .nil))) .nil)))) .nil)
def lp1_series_exp : Sts := (.cons (.asg (.nm 3) (.glo 0)) (.cons (.for_ (.nm 4) (.rng2 (.lit (.int (1))) (.bin .add (.var 2) (.lit (.int (1))))) lp0_series_exp) (.cons (.app 1 (.call 2 (.cons (.var 3) (.cons (.tup (.cons (.var 2) (.cons (.lit (.int (1))) .nil))) .nil)))) .nil)))
def b_series_exp : Sts := (.cons (.if_ (.cmp .ne (.idx (.var 0) (.lit (.int (0)))) (.glo 0)) (.cons (.rais "BadNumber") .nil) .nil) (.cons (.asg (.nm 1) (.lst (.cons (.glo 1) .nil))) (.cons (.for_ (.nm 2) (.rng2 (.lit (.int (1))) (.bfn .len (.cons (.var 0) .nil))) lp1_series_exp) (.cons (.ret (.bfn .tuple (.cons (.var 1) .nil))) .nil))))
def t_series_exp : List (Str × Nat) := [("plus", 2), ("product_of", 2), ("over", 2)]
noncomputable def g_series_exp : List FnI := [⟨[false, false], [], f_plus⟩, ⟨[false, false], [], f_product_of⟩, ⟨[false, false], [], f_over⟩]
noncomputable def f_series_exp : List PD.Arg → FRes := runDef (md.gam g_series_exp) ⟨5, b_series_exp⟩
def N_law_add : List Str := ["one", "two"]
def b_law_add : Sts := (.cons (.ret (.call 0 (.cons (.bin .add (.bin .mul (.idx (.var 0) (.lit (.int (0)))) (.idx (.var 1) (.lit (.int (1))))) (.bin .mul (.idx (.var 1) (.lit (.int (0)))) (.idx (.var 0) (.lit (.int (1)))))) (.cons (.bin .mul (.idx (.var 0) (.lit (.int (1)))) (.idx (.var 1) (.lit (.int (1))))) .nil)))) .nil)
def t_law_add : List (Str × Nat) := [("_law_frac", 2)]
noncomputable def g_law_add : List FnI := [⟨[false, false], [], f_law_frac⟩]
noncomputable def f_law_add : List PD.Arg → FRes := runDef (md.gam g_law_add) ⟨2, b_law_add⟩
def N_law_mul : List Str := ["one", "two"]
def b_law_mul : Sts := (.cons (.ret (.call 0 (.cons (.bin .mul (.idx (.var 0) (.lit (.int (0)))) (.idx (.var 1) (.lit (.int (0))))) (.cons (.bin .mul (.idx (.var 0) (.lit (.int (1)))) (.idx (.var 1) (.lit (.int (1))))) .nil)))) .nil)
def t_law_mul : List (Str × Nat) := [("_law_frac", 2)]
noncomputable def g_law_mul : List FnI := [⟨[false, false], [], f_law_frac⟩]
noncomputable def f_law_mul : List PD.Arg → FRes := runDef (md.gam g_law_mul) ⟨2, b_law_mul⟩
def N_law_div : List Str := ["one", "two"]
def b_law_div : Sts := (.cons (.ret (.call 0 (.cons (.bin .mul (.idx (.var 0) (.lit (.int (0)))) (.idx (.var 1) (.lit (.int (1))))) (.cons (.bin .mul (.idx (.var 0) (.lit (.int (1)))) (.idx (.var 1) (.lit (.int (0))))) .nil)))) .nil)
def t_law_div : List (Str × Nat) := [("_law_frac", 2)]
noncomputable def g_law_div : List FnI := [⟨[false, false], [], f_law_frac⟩]
noncomputable def f_law_div : List PD.Arg → FRes := runDef (md.gam g_law_div) ⟨2, b_law_div⟩
def N_law_is_row : List Str := ["told", "one"]
def lp0_law_is_row : Sts := (.cons (.if_ (.not_ (.tru (.call 0 (.cons (.var 1) .nil)))) (.cons (.ret (.lit (.bl false))) .nil) .nil) .nil)
def b_law_is_row : Sts := (.cons (.if_ (.not_ (.isi (.var 0) [.ty "tuple"] false)) (.cons (.ret (.lit (.bl false))) .nil) .nil) (.cons (.for_ (.nm 1) (.seq (.var 0)) lp0_law_is_row) (.cons (.ret (.lit (.bl true))) .nil)))
def t_law_is_row : List (Str × Nat) := [("_law_is_frac", 1)]
noncomputable def g_law_is_row : List FnI := [⟨[false], [], f_law_is_frac⟩]
noncomputable def f_law_is_row : List PD.Arg → FRes := runDef (md.gam g_law_is_row) ⟨2, b_law_is_row⟩
def N_law_number : List Str := ["well", "word", "top"]
def b_law_number : Sts := (.cons (.asg (.nm 1) (.call 0 (.cons (.var 0) (.cons (.lit (.int (12))) .nil)))) (.cons (.asg (.nm 2) (.idx (.lst (.cons (.lit (.int (1))) (.cons (.lit (.int (2))) (.cons (.lit (.int (0))) (.cons (.neg (.lit (.int (1)))) (.cons (.lit (.int (3))) (.cons (.neg (.lit (.int (2)))) (.cons (.lit (.int (5))) (.cons (.lit (.int (1))) (.cons (.neg (.lit (.int (3)))) (.cons (.lit (.int (7))) (.cons (.neg (.lit (.int (1)))) (.cons (.lit (.int (4))) .nil))))))))))))) (.call 0 (.cons (.var 0) (.cons (.lit (.int (12))) .nil))))) (.cons (.if_ (.cmp .lt (.var 1) (.lit (.int (5)))) (.cons (.ret (.tup (.cons (.var 2) (.cons (.lit (.int (1))) .nil)))) .nil) .nil) (.cons (.if_ (.cmp .lt (.var 1) (.lit (.int (8)))) (.cons (.ret (.call 1 (.cons (.var 2) (.cons (.lit (.int (2))) .nil)))) .nil) .nil) (.cons (.if_ (.cmp .lt (.var 1) (.lit (.int (10)))) (.cons (.ret (.call 1 (.cons (.var 2) (.cons (.bin .add (.lit (.int (3))) (.call 0 (.cons (.var 0) (.cons (.lit (.int (5))) .nil)))) .nil)))) .nil) .nil) (.cons (.if_ (.cmp .eq (.var 1) (.lit (.int (10)))) (.cons (.ret (.call 1 (.cons (.bin .add (.bin .mul (.var 2) (.lit (.int (60)))) (.call 0 (.cons (.var 0) (.cons (.lit (.int (60))) .nil)))) (.cons (.bin .add (.lit (.int (1))) (.call 0 (.cons (.var 0) (.cons (.lit (.int (60))) .nil)))) .nil)))) .nil) .nil) (.cons (.ret (.call 1 (.cons (.bin .add (.bin .mul (.var 2) (.bin .pow (.lit (.int (10))) (.lit (.int (20))))) (.lit (.int (1)))) (.cons (.bin .add (.bin .pow (.lit (.int (10))) (.lit (.int (19)))) (.bin .mul (.lit (.int (7))) (.call 0 (.cons (.var 0) (.cons (.lit (.int (60))) .nil))))) .nil)))) .nil)))))))
def t_law_number : List (Str × Nat) := [("_law_pull", 2), ("_law_frac", 2)]
noncomputable def g_law_number : List FnI := [⟨[true, false], [], f_law_pull⟩, ⟨[false, false], [], f_law_frac⟩]
noncomputable def f_law_number : List PD.Arg → FRes := runDef (md.gam g_law_number) ⟨3, b_law_number⟩
def N_quotient_series : List Str := ["num", "den", "length", "made", "k", "x", "j"]
def lp0_quotient_series : Sts := (.cons (.asg (.nm 5) (.call 1 (.cons (.var 5) (.cons (.call 2 (.cons (.idx (.var 1) (.var 6)) (.cons (.idx (.var 3) (.bin .sub (.var 4) (.var 6))) .nil))) .nil)))) .nil)
def lp1_quotient_series : Sts := (.cons (.asg (.nm 5) (.call 0 (.cons (.var 0) (.cons (.var 4) .nil)))) (.cons (.for_ (.nm 6) (.rng2 (.lit (.int (1))) (.bin .add (.bfn .min2 (.cons (.var 4) (.cons (.bin .sub (.bfn .len (.cons (.var 1) .nil)) (.lit (.int (1)))) .nil))) (.lit (.int (1))))) lp0_quotient_series) (.cons (.app 3 (.call 3 (.cons (.var 5) (.cons (.idx (.var 1) (.lit (.int (0)))) .nil)))) .nil)))
def b_quotient_series : Sts := (.cons (.asg (.nm 3) (.lst .nil)) (.cons (.for_ (.nm 4) (.rng1 (.bin .add (.var 2) (.lit (.int (1))))) lp1_quotient_series) (.cons (.ret (.bfn .tuple (.cons (.var 3) .nil))) .nil)))
def t_quotient_series : List (Str × Nat) := [("number_at", 2), ("minus", 2), ("product_of", 2), ("over", 2)]
noncomputable def g_quotient_series : List FnI := [⟨[false, false], [], f_number_at⟩, ⟨[false, false], [], f_minus⟩, ⟨[false, false], [], f_product_of⟩, ⟨[false, false], [], f_over⟩]
noncomputable def f_quotient_series : List PD.Arg → FRes := runDef (md.gam g_quotient_series) ⟨7, b_quotient_series⟩
def N_exp_series : List Str := ["t", "length"]
def b_exp_series : Sts := (.cons (.if_ (.cmp .gt (.var 1) (.glo 2)) (.cons (.raisf "TooLarge" "what" (.lit (.str "length"))) .nil) .nil) (.cons (.ret (.call 0 (.cons (.var 0) (.cons (.var 1) .nil)))) .nil))
def t_exp_series : List (Str × Nat) := [("powers_series", 2)]
noncomputable def g_exp_series : List FnI := [⟨[false, false], [], f_powers_series⟩]
noncomputable def f_exp_series : List PD.Arg → FRes := runDef (md.gam g_exp_series) ⟨2, b_exp_series⟩
def N_series_log : List Str := ["s", "made", "k", "x", "j"]
def lp0_series_log : Sts := (.cons (.asg (.nm 3) (.call 0 (.cons (.var 3) (.cons (.call 1 (.cons (.tup (.cons (.var 4) (.cons (.lit (.int (1))) .nil))) (.cons (.call 1 (.cons (.idx (.var 1) (.var 4)) (.cons (.idx (.var 0) (.bin .sub (.var 2) (.var 4))) .nil))) .nil))) .nil)))) .nil)
def lp1_series_log : Sts := (.cons (.asg (.nm 3) (.glo 0)) (.cons (.for_ (.nm 4) (.rng2 (.lit (.int (1))) (.var 2)) lp0_series_log) (.cons (.app 1 (.call 2 (.cons (.idx (.var 0) (.var 2)) (.cons (.call 3 (.cons (.var 3) (.cons (.tup (.cons (.var 2) (.cons (.lit (.int (1))) .nil))) .nil))) .nil)))) .nil)))
def b_series_log : Sts := (.cons (.if_ (.cmp .ne (.idx (.var 0) (.lit (.int (0)))) (.glo 1)) (.cons (.rais "BadNumber") .nil) .nil) (.cons (.asg (.nm 1) (.lst (.cons (.glo 0) .nil))) (.cons (.for_ (.nm 2) (.rng2 (.lit (.int (1))) (.bfn .len (.cons (.var 0) .nil))) lp1_series_log) (.cons (.ret (.bfn .tuple (.cons (.var 1) .nil))) .nil))))
def t_series_log : List (Str × Nat) := [("plus", 2), ("product_of", 2), ("minus", 2), ("over", 2)]
noncomputable def g_series_log : List FnI := [⟨[false, false], [], f_plus⟩, ⟨[false, false], [], f_product_of⟩, ⟨[false, false], [], f_minus⟩, ⟨[false, false], [], f_over⟩]
noncomputable def f_series_log : List PD.Arg → FRes := runDef (md.gam g_series_log) ⟨5, b_series_log⟩
def N_law_some : List Str := ["well", "drawn"]
def b_law_some : Sts := (.cons (.asg (.nm 1) (.call 0 (.cons (.var 0) .nil))) (.cons (.if_ (.cmp .eq (.idx (.var 1) (.lit (.int (0)))) (.lit (.int (0)))) (.cons (.ret (.tup (.cons (.lit (.int (1))) (.cons (.lit (.int (2))) .nil)))) .nil) .nil) (.cons (.ret (.var 1)) .nil)))
def t_law_some : List (Str × Nat) := [("_law_number", 1)]
noncomputable def g_law_some : List FnI := [⟨[true], [], f_law_number⟩]
noncomputable def f_law_some : List PD.Arg → FRes := runDef (md.gam g_law_some) ⟨2, b_law_some⟩
def N_law_entry : List Str := ["well", "long"]
def b_law_entry : Sts := (.cons (.if_ (.tru (.var 1)) (.cons (.ret (.call 0 (.cons (.var 0) .nil))) .nil) .nil) (.cons (.ret (.call 1 (.cons (.bin .sub (.call 2 (.cons (.var 0) (.cons (.lit (.int (13))) .nil))) (.lit (.int (6)))) (.cons (.bin .add (.lit (.int (1))) (.call 2 (.cons (.var 0) (.cons (.lit (.int (4))) .nil)))) .nil)))) .nil))
def t_law_entry : List (Str × Nat) := [("_law_number", 1), ("_law_frac", 2), ("_law_pull", 2)]
noncomputable def g_law_entry : List FnI := [⟨[true], [], f_law_number⟩, ⟨[false, false], [], f_law_frac⟩, ⟨[true, false], [], f_law_pull⟩]
noncomputable def f_law_entry : List PD.Arg → FRes := runDef (md.gam g_law_entry) ⟨2, b_law_entry⟩
def N_law_is_told : List Str := ["asked", "due"]
def b_law_is_told : Sts := (.cons (.if_ (.or_ (.not_ (.isi (.idx (.var 0) (.lit (.int (0)))) [.ty "str"] false)) (.or_ (.cmp .ne (.idx (.var 0) (.lit (.int (0)))) (.lit (.str "told"))) (.not_ (.tru (.call 0 (.cons (.idx (.var 0) (.lit (.int (1)))) .nil)))))) (.cons (.ret (.lit (.bl false))) .nil) .nil) (.cons (.ret (.and_ (.cmp .eq (.bfn .len (.cons (.idx (.var 0) (.lit (.int (1)))) .nil)) (.bfn .len (.cons (.var 1) .nil))) (.cmp .eq (.idx (.var 0) (.lit (.int (1)))) (.bfn .tuple (.cons (.var 1) .nil))))) .nil))
def t_law_is_told : List (Str × Nat) := [("_law_is_row", 1)]
noncomputable def g_law_is_told : List FnI := [⟨[false], [], f_law_is_row⟩]
noncomputable def f_law_is_told : List PD.Arg → FRes := runDef (md.gam g_law_is_told) ⟨2, b_law_is_told⟩
def N_law_by : List Str := ["one", "two", "row", "spot", "now", "back"]
def lp0_law_by : Sts := (.cons (.asg (.nm 4) (.call 0 (.cons (.var 4) (.cons (.call 1 (.cons (.idx (.var 0) (.var 5)) (.cons (.idx (.var 1) (.bin .sub (.var 3) (.var 5))) .nil))) .nil)))) .nil)
def lp1_law_by : Sts := (.cons (.asg (.nm 4) (.tup (.cons (.lit (.int (0))) (.cons (.lit (.int (1))) .nil)))) (.cons (.for_ (.nm 5) (.rng1 (.bin .add (.var 3) (.lit (.int (1))))) lp0_law_by) (.cons (.app 2 (.var 4)) .nil)))
def b_law_by : Sts := (.cons (.asg (.nm 2) (.lst .nil)) (.cons (.for_ (.nm 3) (.rng1 (.bfn .len (.cons (.var 0) .nil))) lp1_law_by) (.cons (.retl (.var 2)) .nil)))
def t_law_by : List (Str × Nat) := [("_law_add", 2), ("_law_mul", 2)]
noncomputable def g_law_by : List FnI := [⟨[false, false], [], f_law_add⟩, ⟨[false, false], [], f_law_mul⟩]
noncomputable def f_law_by : List PD.Arg → FRes := runDef (md.gam g_law_by) ⟨6, b_law_by⟩
def N_law_grown : List Str := ["t", "length", "row", "spot"]
def lp0_law_grown : Sts := (.cons (.app 2 (.call 0 (.cons (.call 1 (.cons (.idx (.var 2) (.var 3)) (.cons (.var 0) .nil))) (.cons (.tup (.cons (.bin .add (.var 3) (.lit (.int (1)))) (.cons (.lit (.int (1))) .nil))) .nil)))) .nil)
def b_law_grown : Sts := (.cons (.asg (.nm 2) (.lst (.cons (.tup (.cons (.lit (.int (1))) (.cons (.lit (.int (1))) .nil))) .nil))) (.cons (.for_ (.nm 3) (.rng1 (.var 1)) lp0_law_grown) (.cons (.ret (.var 2)) .nil)))
def t_law_grown : List (Str × Nat) := [("_law_div", 2), ("_law_mul", 2)]
noncomputable def g_law_grown : List FnI := [⟨[false, false], [], f_law_div⟩, ⟨[false, false], [], f_law_mul⟩]
noncomputable def f_law_grown : List PD.Arg → FRes := runDef (md.gam g_law_grown) ⟨4, b_law_grown⟩
def N_series_of : List Str := ["num", "den", "length"]
def b_series_of : Sts := (.cons (.if_ (.or_ (.cmp .eq (.bfn .len (.cons (.var 1) .nil)) (.lit (.int (0)))) (.cmp .eq (.idx (.idx (.var 1) (.lit (.int (0)))) (.lit (.int (0)))) (.lit (.int (0))))) (.cons (.rais "BadPoly") .nil) .nil) (.cons (.if_ (.cmp .gt (.var 2) (.glo 2)) (.cons (.raisf "TooLarge" "what" (.lit (.str "length"))) .nil) .nil) (.cons (.ret (.call 0 (.cons (.var 0) (.cons (.var 1) (.cons (.var 2) .nil))))) .nil)))
def t_series_of : List (Str × Nat) := [("quotient_series", 3)]
noncomputable def g_series_of : List FnI := [⟨[false, false, false], [], f_quotient_series⟩]
noncomputable def f_series_of : List PD.Arg → FRes := runDef (md.gam g_series_of) ⟨3, b_series_of⟩
def N_law_summed : List Str := ["one", "logs", "told", "part", "power", "share", "k", "spot"]
def lp0_law_summed : Sts := (.cons (.asg (.nm 4) (.call 0 (.cons (.var 4) (.cons (.var 0) .nil)))) (.cons (.if_ (.tru (.var 1)) (.cons (.asg (.nm 5) (.call 1 (.cons (.idx (.lst (.cons (.neg (.lit (.int (1)))) (.cons (.lit (.int (1))) .nil))) (.bin .mod (.bfn .int (.cons (.var 6) .nil)) (.lit (.int (2))))) (.cons (.var 6) .nil)))) .nil) (.cons (.asg (.nm 5) (.call 2 (.cons (.var 5) (.cons (.tup (.cons (.var 6) (.cons (.lit (.int (1))) .nil))) .nil)))) .nil)) (.cons (.asg (.nm 2) (.lc [7] (.nm 7) (.rng1 (.bfn .len (.cons (.var 0) .nil))) (.lit (.bl true)) (.call 3 (.cons (.idx (.var 2) (.var 7)) (.cons (.call 4 (.cons (.idx (.var 4) (.var 7)) (.cons (.var 5) .nil))) .nil))))) .nil)))
def b_law_summed : Sts := (.cons (.asg (.nm 2) (.lc [3] (.nm 3) (.seq (.var 0)) (.lit (.bl true)) (.tup (.cons (.lit (.int (0))) (.cons (.lit (.int (1))) .nil))))) (.cons (.if_ (.and_ (.not_ (.tru (.var 1))) (.cmp .gt (.bfn .len (.cons (.var 2) .nil)) (.lit (.int (0))))) (.cons (.six 2 (.lit (.int (0))) (.tup (.cons (.lit (.int (1))) (.cons (.lit (.int (1))) .nil)))) .nil) .nil) (.cons (.asg (.nm 4) (.lc [3] (.nm 3) (.seq (.var 0)) (.lit (.bl true)) (.tup (.cons (.lit (.int (0))) (.cons (.lit (.int (1))) .nil))))) (.cons (.six 4 (.lit (.int (0))) (.tup (.cons (.lit (.int (1))) (.cons (.lit (.int (1))) .nil)))) (.cons (.asg (.nm 5) (.tup (.cons (.lit (.int (1))) (.cons (.lit (.int (1))) .nil)))) (.cons (.for_ (.nm 6) (.rng2 (.lit (.int (1))) (.bfn .len (.cons (.var 0) .nil))) lp0_law_summed) (.cons (.ret (.var 2)) .nil)))))))
def t_law_summed : List (Str × Nat) := [("_law_by", 2), ("_law_frac", 2), ("_law_div", 2), ("_law_add", 2), ("_law_mul", 2)]
noncomputable def g_law_summed : List FnI := [⟨[false, false], [], f_law_by⟩, ⟨[false, false], [], f_law_frac⟩, ⟨[false, false], [], f_law_div⟩, ⟨[false, false], [], f_law_add⟩, ⟨[false, false], [], f_law_mul⟩]
noncomputable def f_law_summed : List PD.Arg → FRes := runDef (md.gam g_law_summed) ⟨8, b_law_summed⟩
def N_law_asked : List Str := ["door", "one", "two", "length", "asked", "fault"]
def b_law_asked : Sts := (.cons (.asg (.nm 4) (.tup (.cons (.lit (.str "told")) (.cons (.lit (.bl false)) .nil)))) (.cons (.try_ (.cons (.if_ (.cmp .eq (.var 0) (.lit (.str "quotient"))) (.cons (.asg (.nm 4) (.tup (.cons (.lit (.str "told")) (.cons (.call 0 (.cons (.var 1) (.cons (.var 2) (.cons (.var 3) .nil)))) .nil)))) .nil) (.cons (.if_ (.cmp .eq (.var 0) (.lit (.str "powers"))) (.cons (.asg (.nm 4) (.tup (.cons (.lit (.str "told")) (.cons (.call 1 (.cons (.var 1) (.cons (.var 3) .nil))) .nil)))) .nil) (.cons (.if_ (.cmp .eq (.var 0) (.lit (.str "log"))) (.cons (.asg (.nm 4) (.tup (.cons (.lit (.str "told")) (.cons (.call 2 (.cons (.var 1) .nil)) .nil)))) .nil) (.cons (.asg (.nm 4) (.tup (.cons (.lit (.str "told")) (.cons (.call 3 (.cons (.var 1) .nil)) .nil)))) .nil)) .nil)) .nil)) .nil) (.cons ["TooLarge"] false (some 5) (.cons (.asg (.nm 4) (.tup (.cons (.xfld 5 "what") (.cons (.and_ (.isx 5 ["RunsError"] false) (.not_ (.isx 5 ["BadPoly", "BadNumber"] true))) .nil)))) .nil) (.cons ["BadPoly"] false (some 5) (.cons (.asg (.nm 4) (.tup (.cons (.lit (.str "bad poly")) (.cons (.and_ (.isx 5 ["RunsError"] false) (.not_ (.isx 5 ["BadNumber"] false))) .nil)))) .nil) (.cons ["BadNumber"] false (some 5) (.cons (.asg (.nm 4) (.tup (.cons (.lit (.str "bad number")) (.cons (.isx 5 ["RunsError"] false) .nil)))) .nil) .nil)))) (.cons (.ret (.var 4)) .nil)))
def t_law_asked : List (Str × Nat) := [("series_of", 3), ("exp_series", 2), ("series_log", 1), ("series_exp", 1)]
noncomputable def g_law_asked : List FnI := [⟨[false, false, false], [], f_series_of⟩, ⟨[false, false], [], f_exp_series⟩, ⟨[false], [], f_series_log⟩, ⟨[false], [], f_series_exp⟩]
noncomputable def f_law_asked : List PD.Arg → FRes := runDef (md.gam g_law_asked) ⟨6, b_law_asked⟩
def N_law_quotient : List Str := ["num", "den", "length", "asked", "spot", "now", "back", "due"]
def lp0_law_quotient : Sts := (.cons (.if_ (.cmp .lt (.var 6) (.bfn .len (.cons (.var 1) .nil))) (.cons (.asg (.nm 5) (.call 2 (.cons (.var 5) (.cons (.call 3 (.cons (.idx (.var 1) (.var 6)) (.cons (.idx (.idx (.var 3) (.lit (.int (1)))) (.bin .sub (.var 4) (.var 6))) .nil))) .nil)))) .nil) .nil) .nil)
def lp1_law_quotient : Sts := (.cons (.asg (.nm 5) (.tup (.cons (.lit (.int (0))) (.cons (.lit (.int (1))) .nil)))) (.cons (.for_ (.nm 6) (.rng1 (.bin .add (.var 4) (.lit (.int (1))))) lp0_law_quotient) (.cons (.asg (.nm 7) (.tup (.cons (.lit (.int (0))) (.cons (.lit (.int (1))) .nil)))) (.cons (.if_ (.cmp .lt (.var 4) (.bfn .len (.cons (.var 0) .nil))) (.cons (.asg (.nm 7) (.idx (.var 0) (.var 4))) .nil) .nil) (.cons (.if_ (.cmp .ne (.var 5) (.var 7)) (.cons (.ret (.lit (.bl false))) .nil) .nil) .nil)))))
def b_law_quotient : Sts := (.cons (.asg (.nm 3) (.call 0 (.cons (.lit (.str "quotient")) (.cons (.var 0) (.cons (.var 1) (.cons (.var 2) .nil)))))) (.cons (.if_ (.or_ (.cmp .ne (.idx (.var 3) (.lit (.int (0)))) (.lit (.str "told"))) (.or_ (.not_ (.tru (.call 1 (.cons (.idx (.var 3) (.lit (.int (1)))) .nil)))) (.cmp .ne (.bfn .len (.cons (.idx (.var 3) (.lit (.int (1)))) .nil)) (.bin .add (.var 2) (.lit (.int (1))))))) (.cons (.ret (.lit (.bl false))) .nil) .nil) (.cons (.for_ (.nm 4) (.rng1 (.bin .add (.var 2) (.lit (.int (1))))) lp1_law_quotient) (.cons (.ret (.lit (.bl true))) .nil))))
def t_law_quotient : List (Str × Nat) := [("_law_asked", 4), ("_law_is_row", 1), ("_law_add", 2), ("_law_mul", 2)]
noncomputable def g_law_quotient : List FnI := [⟨[false, false, false, false], [], f_law_asked⟩, ⟨[false], [], f_law_is_row⟩, ⟨[false, false], [], f_law_add⟩, ⟨[false, false], [], f_law_mul⟩]
noncomputable def f_law_quotient : List PD.Arg → FRes := runDef (md.gam g_law_quotient) ⟨8, b_law_quotient⟩
def N_law_bounds : List Str := ["num", "low", "t", "many", "spot", "den"]
def lp0_law_bounds : Sts := (.cons (.if_ (.not_ (.tru (.call 2 (.cons (.call 1 (.cons (.lit (.str "quotient")) (.cons (.var 0) (.cons (.var 5) (.cons (.lit (.int (3))) .nil))))) (.cons (.lit (.str "bad poly")) .nil))))) (.cons (.ret (.lit (.bl false))) .nil) .nil) (.cons (.if_ (.not_ (.tru (.call 2 (.cons (.call 1 (.cons (.lit (.str "quotient")) (.cons (.var 0) (.cons (.var 5) (.cons (.lit (.int (41))) .nil))))) (.cons (.lit (.str "bad poly")) .nil))))) (.cons (.ret (.lit (.bl false))) .nil) .nil) .nil))
def b_law_bounds : Sts := (.cons (.asg (.nm 3) (.lc [4] (.nm 4) (.rng1 (.lit (.int (41)))) (.lit (.bl true)) (.tup (.cons (.lit (.int (1))) (.cons (.lit (.int (1))) .nil))))) (.cons (.if_ (.not_ (.tru (.call 0 (.cons (.call 1 (.cons (.lit (.str "quotient")) (.cons (.tup (.cons (.tup (.cons (.lit (.int (1))) (.cons (.lit (.int (1))) .nil))) .nil)) (.cons (.tup (.cons (.tup (.cons (.lit (.int (1))) (.cons (.lit (.int (1))) .nil))) (.cons (.tup (.cons (.neg (.lit (.int (1)))) (.cons (.lit (.int (1))) .nil))) .nil))) (.cons (.lit (.int (40))) .nil))))) (.cons (.var 3) .nil))))) (.cons (.ret (.lit (.bl false))) .nil) .nil) (.cons (.if_ (.not_ (.tru (.call 2 (.cons (.call 1 (.cons (.lit (.str "quotient")) (.cons (.var 0) (.cons (.tup (.cons (.tup (.cons (.lit (.int (1))) (.cons (.lit (.int (1))) .nil))) (.cons (.tup (.cons (.lit (.int (1))) (.cons (.lit (.int (2))) .nil))) .nil))) (.cons (.lit (.int (41))) .nil))))) (.cons (.lit (.str "length")) .nil))))) (.cons (.ret (.lit (.bl false))) .nil) .nil) (.cons (.for_ (.nm 5) (.seq (.tup (.cons (.tup .nil) (.cons (.tup (.cons (.tup (.cons (.lit (.int (0))) (.cons (.lit (.int (1))) .nil))) (.cons (.var 1) .nil))) (.cons (.tup (.cons (.tup (.cons (.lit (.int (0))) (.cons (.lit (.int (1))) .nil))) (.cons (.tup (.cons (.lit (.int (0))) (.cons (.lit (.int (1))) .nil))) (.cons (.tup (.cons (.lit (.int (1))) (.cons (.lit (.int (1))) .nil))) .nil)))) .nil))))) lp0_law_bounds) (.cons (.if_ (.not_ (.tru (.call 2 (.cons (.call 1 (.cons (.lit (.str "powers")) (.cons (.var 2) (.cons (.lit (.non)) (.cons (.lit (.int (41))) .nil))))) (.cons (.lit (.str "length")) .nil))))) (.cons (.ret (.lit (.bl false))) .nil) .nil) (.cons (.ret (.call 0 (.cons (.call 1 (.cons (.lit (.str "powers")) (.cons (.tup (.cons (.neg (.lit (.int (2)))) (.cons (.lit (.int (1))) .nil))) (.cons (.lit (.non)) (.cons (.lit (.int (40))) .nil))))) (.cons (.call 3 (.cons (.tup (.cons (.neg (.lit (.int (2)))) (.cons (.lit (.int (1))) .nil))) (.cons (.lit (.int (40))) .nil))) .nil)))) .nil))))))
def t_law_bounds : List (Str × Nat) := [("_law_is_told", 2), ("_law_asked", 4), ("_law_refused", 2), ("_law_grown", 2)]
noncomputable def g_law_bounds : List FnI := [⟨[false, false], [], f_law_is_told⟩, ⟨[false, false, false, false], [], f_law_asked⟩, ⟨[false, false], [], f_law_refused⟩, ⟨[false, false], [], f_law_grown⟩]
noncomputable def f_law_bounds : List PD.Arg → FRes := runDef (md.gam g_law_bounds) ⟨6, b_law_bounds⟩
def N_law_logs : List Str := ["s", "r", "due", "asked", "both", "other", "spot", "x"]
def b_law_logs : Sts := (.cons (.if_ (.not_ (.tru (.call 0 (.cons (.tup (.cons (.lit (.str "told")) (.cons (.call 1 (.cons (.bfn .tuple (.cons (.var 0) .nil)) (.cons (.var 1) .nil))) .nil))) (.cons (.call 2 (.cons (.var 0) (.cons (.var 1) .nil))) .nil))))) (.cons (.ret (.lit (.bl false))) .nil) .nil) (.cons (.asg (.nm 2) (.call 3 (.cons (.bin .add (.lst (.cons (.tup (.cons (.lit (.int (0))) (.cons (.lit (.int (1))) .nil))) .nil)) (.slc (.var 0) (.lit (.int (1))) .none_)) (.cons (.lit (.bl true)) .nil)))) (.cons (.asg (.nm 3) (.call 4 (.cons (.lit (.str "log")) (.cons (.bfn .tuple (.cons (.var 0) .nil)) (.cons (.lit (.non)) (.cons (.lit (.int (0))) .nil)))))) (.cons (.if_ (.or_ (.not_ (.tru (.call 0 (.cons (.var 3) (.cons (.var 2) .nil))))) (.not_ (.tru (.call 0 (.cons (.call 4 (.cons (.lit (.str "exp")) (.cons (.idx (.var 3) (.lit (.int (1)))) (.cons (.lit (.non)) (.cons (.lit (.int (0))) .nil))))) (.cons (.var 0) .nil)))))) (.cons (.ret (.lit (.bl false))) .nil) .nil) (.cons (.asg (.nm 4) (.call 5 (.cons (.call 1 (.cons (.var 0) (.cons (.bfn .tuple (.cons (.var 1) .nil)) .nil))) .nil))) (.cons (.asg (.nm 5) (.call 3 (.cons (.bin .add (.lst (.cons (.tup (.cons (.lit (.int (0))) (.cons (.lit (.int (1))) .nil))) .nil)) (.slc (.var 1) (.lit (.int (1))) .none_)) (.cons (.lit (.bl true)) .nil)))) (.cons (.if_ (.not_ (.tru (.call 0 (.cons (.tup (.cons (.lit (.str "told")) (.cons (.var 4) .nil))) (.cons (.lc [6] (.nm 6) (.rng1 (.bfn .len (.cons (.var 0) .nil))) (.lit (.bl true)) (.call 6 (.cons (.idx (.var 2) (.var 6)) (.cons (.idx (.var 5) (.var 6)) .nil)))) .nil))))) (.cons (.ret (.lit (.bl false))) .nil) .nil) (.cons (.asg (.nm 7) (.bin .add (.lst (.cons (.tup (.cons (.lit (.int (0))) (.cons (.lit (.int (1))) .nil))) .nil)) (.slc (.var 1) (.lit (.int (1))) .none_))) (.cons (.ret (.call 0 (.cons (.call 4 (.cons (.lit (.str "exp")) (.cons (.var 7) (.cons (.lit (.non)) (.cons (.lit (.int (0))) .nil))))) (.cons (.call 3 (.cons (.var 7) (.cons (.lit (.bl false)) .nil))) .nil)))) .nil)))))))))
def t_law_logs : List (Str × Nat) := [("_law_is_told", 2), ("series_times", 2), ("_law_by", 2), ("_law_summed", 2), ("_law_asked", 4), ("series_log", 1), ("_law_add", 2)]
noncomputable def g_law_logs : List FnI := [⟨[false, false], [], f_law_is_told⟩, ⟨[false, false], [], f_series_times⟩, ⟨[false, false], [], f_law_by⟩, ⟨[false, false], [], f_law_summed⟩, ⟨[false, false, false, false], [], f_law_asked⟩, ⟨[false], [], f_series_log⟩, ⟨[false, false], [], f_law_add⟩]
noncomputable def f_law_logs : List PD.Arg → FRes := runDef (md.gam g_law_logs) ⟨8, b_law_logs⟩
def N_law_starts : List Str := ["s", "head"]
def b_law_starts : Sts := (.cons (.if_ (.and_ (.cmp .ne (.var 1) (.tup (.cons (.lit (.int (1))) (.cons (.lit (.int (1))) .nil)))) (.not_ (.tru (.call 0 (.cons (.call 1 (.cons (.lit (.str "log")) (.cons (.bin .add (.lst (.cons (.var 1) .nil)) (.slc (.var 0) (.lit (.int (1))) .none_)) (.cons (.lit (.non)) (.cons (.lit (.int (0))) .nil))))) (.cons (.lit (.str "bad number")) .nil)))))) (.cons (.ret (.lit (.bl false))) .nil) .nil) (.cons (.if_ (.and_ (.cmp .ne (.idx (.var 1) (.lit (.int (0)))) (.lit (.int (0)))) (.not_ (.tru (.call 0 (.cons (.call 1 (.cons (.lit (.str "exp")) (.cons (.bin .add (.tup (.cons (.var 1) .nil)) (.bfn .tuple (.cons (.slc (.var 0) (.lit (.int (1))) .none_) .nil))) (.cons (.lit (.non)) (.cons (.lit (.int (0))) .nil))))) (.cons (.lit (.str "bad number")) .nil)))))) (.cons (.ret (.lit (.bl false))) .nil) .nil) (.cons (.if_ (.not_ (.tru (.call 0 (.cons (.call 1 (.cons (.lit (.str "log")) (.cons (.tup (.cons (.tup (.cons (.lit (.int (0))) (.cons (.lit (.int (1))) .nil))) .nil)) (.cons (.lit (.non)) (.cons (.lit (.int (0))) .nil))))) (.cons (.lit (.str "bad number")) .nil))))) (.cons (.ret (.lit (.bl false))) .nil) .nil) (.cons (.ret (.call 0 (.cons (.call 1 (.cons (.lit (.str "exp")) (.cons (.var 0) (.cons (.lit (.non)) (.cons (.lit (.int (0))) .nil))))) (.cons (.lit (.str "bad number")) .nil)))) .nil))))
def t_law_starts : List (Str × Nat) := [("_law_refused", 2), ("_law_asked", 4)]
noncomputable def g_law_starts : List FnI := [⟨[false, false], [], f_law_refused⟩, ⟨[false, false, false, false], [], f_law_asked⟩]
noncomputable def f_law_starts : List PD.Arg → FRes := runDef (md.gam g_law_starts) ⟨2, b_law_starts⟩
def N_law : List Str := ["script", "well", "long", "most", "num", "turn", "den", "low", "t", "length", "u", "one", "two", "size", "s", "r"]
def b_law : Sts := (.cons (.asg (.nm 1) (.call 0 (.cons (.var 0) .nil))) (.cons (.asg (.nm 2) (.cmp .eq (.call 1 (.cons (.var 1) (.cons (.lit (.int (3))) .nil))) (.lit (.int (2))))) (.cons (.asg (.nm 3) (.lit (.int (7)))) (.cons (.if_ (.tru (.var 2)) (.cons (.asg (.nm 3) (.lit (.int (4)))) .nil) .nil) (.cons (.asg (.nm 4) (.call 2 (.cons (.lc [5] (.nm 5) (.rng1 (.call 1 (.cons (.var 1) (.cons (.var 3) .nil)))) (.lit (.bl true)) (.call 3 (.cons (.var 1) (.cons (.var 2) .nil)))) .nil))) (.cons (.asg (.nm 6) (.bin .add (.lst (.cons (.call 4 (.cons (.var 1) .nil)) .nil)) (.lc [5] (.nm 5) (.rng1 (.call 1 (.cons (.var 1) (.cons (.bin .sub (.var 3) (.lit (.int (1)))) .nil)))) (.lit (.bl true)) (.call 3 (.cons (.var 1) (.cons (.var 2) .nil)))))) (.cons (.asg (.nm 7) (.call 4 (.cons (.var 1) .nil))) (.cons (.asg (.nm 8) (.call 5 (.cons (.var 1) .nil))) (.cons (.if_ (.not_ (.tru (.call 6 (.cons (.var 4) (.cons (.call 2 (.cons (.var 6) .nil)) (.cons (.call 1 (.cons (.var 1) (.cons (.idx (.lst (.cons (.lit (.int (11))) (.cons (.lit (.int (6))) .nil))) (.bfn .int (.cons (.var 2) .nil))) .nil))) .nil)))))) (.cons (.ret (.lit (.bl false))) .nil) .nil) (.cons (.if_ (.not_ (.tru (.call 7 (.cons (.var 4) (.cons (.var 7) (.cons (.var 8) .nil)))))) (.cons (.ret (.lit (.bl false))) .nil) .nil) (.cons (.asg (.nm 9) (.call 1 (.cons (.var 1) (.cons (.lit (.int (9))) .nil)))) (.cons (.asg (.nm 10) (.call 5 (.cons (.var 1) .nil))) (.cons (.asg (.nm 11) (.call 8 (.cons (.lit (.str "powers")) (.cons (.var 8) (.cons (.lit (.non)) (.cons (.var 9) .nil)))))) (.cons (.asg (.nm 12) (.call 8 (.cons (.lit (.str "powers")) (.cons (.var 10) (.cons (.lit (.non)) (.cons (.var 9) .nil)))))) (.cons (.if_ (.or_ (.not_ (.tru (.call 9 (.cons (.var 11) (.cons (.call 10 (.cons (.var 8) (.cons (.var 9) .nil))) .nil))))) (.not_ (.tru (.call 9 (.cons (.var 12) (.cons (.call 10 (.cons (.var 10) (.cons (.var 9) .nil))) .nil)))))) (.cons (.ret (.lit (.bl false))) .nil) .nil) (.cons (.if_ (.not_ (.tru (.call 9 (.cons (.tup (.cons (.lit (.str "told")) (.cons (.call 11 (.cons (.idx (.var 11) (.lit (.int (1)))) (.cons (.idx (.var 12) (.lit (.int (1)))) .nil))) .nil))) (.cons (.call 10 (.cons (.call 12 (.cons (.var 8) (.cons (.var 10) .nil))) (.cons (.var 9) .nil))) .nil))))) (.cons (.ret (.lit (.bl false))) .nil) .nil) (.cons (.asg (.nm 13) (.call 1 (.cons (.var 1) (.cons (.var 3) .nil)))) (.cons (.asg (.nm 14) (.bin .add (.lst (.cons (.tup (.cons (.lit (.int (1))) (.cons (.lit (.int (1))) .nil))) .nil)) (.lc [5] (.nm 5) (.rng1 (.var 13)) (.lit (.bl true)) (.call 3 (.cons (.var 1) (.cons (.var 2) .nil)))))) (.cons (.asg (.nm 15) (.bin .add (.lst (.cons (.tup (.cons (.lit (.int (1))) (.cons (.lit (.int (1))) .nil))) .nil)) (.lc [5] (.nm 5) (.rng1 (.var 13)) (.lit (.bl true)) (.call 3 (.cons (.var 1) (.cons (.var 2) .nil)))))) (.cons (.ret (.and_ (.call 13 (.cons (.var 14) (.cons (.var 15) .nil))) (.call 14 (.cons (.var 14) (.cons (.call 5 (.cons (.var 1) .nil)) .nil))))) .nil))))))))))))))))))))
def t_law : List (Str × Nat) := [("_law_well", 1), ("_law_pull", 2), ("_law_trim", 1), ("_law_entry", 2), ("_law_some", 1), ("_law_number", 1), ("_law_quotient", 3), ("_law_bounds", 3), ("_law_asked", 4), ("_law_is_told", 2), ("_law_grown", 2), ("series_times", 2), ("_law_add", 2), ("_law_logs", 2), ("_law_starts", 2)]
noncomputable def g_law : List FnI := [⟨[false], [], f_law_well⟩, ⟨[true, false], [], f_law_pull⟩, ⟨[false], [], f_law_trim⟩, ⟨[true, false], [], f_law_entry⟩, ⟨[true], [], f_law_some⟩, ⟨[true], [], f_law_number⟩, ⟨[false, false, false], [], f_law_quotient⟩, ⟨[false, false, false], [], f_law_bounds⟩, ⟨[false, false, false, false], [], f_law_asked⟩, ⟨[false, false], [], f_law_is_told⟩, ⟨[false, false], [], f_law_grown⟩, ⟨[false, false], [], f_series_times⟩, ⟨[false, false], [], f_law_add⟩, ⟨[false, false], [], f_law_logs⟩, ⟨[false, false], [], f_law_starts⟩]
noncomputable def f_law : List PD.Arg → FRes := runDef (md.gam g_law) ⟨16, b_law⟩
end K03

/-! F1 -/
set_option linter.all false
/-! F1: fractions in plain Lean. -/
namespace FR
/-- the denominator divides M -/
theorem den_mkRat_dvd (n : Int) (d : Nat) (h : d ≠ 0) : (mkRat n d).den ∣ d := by
  rw [Rat.den_mkRat, if_neg h]
  exact Nat.div_dvd_of_dvd (Nat.gcd_dvd_left _ _)
theorem den_iff {x : Rat} {M : Nat} (hM : M ≠ 0) : x.den ∣ M ↔ ∃ a : Int, x = mkRat a M := by
  constructor
  · rintro ⟨c, rfl⟩
    have hc : c ≠ 0 := by intro z; subst z; exact hM (Nat.mul_zero _)
    refine ⟨x.num * c, ?_⟩
    rw [Rat.mkRat_mul_right hc, Rat.mkRat_self]
  · rintro ⟨a, rfl⟩
    exact den_mkRat_dvd a M hM
theorem den_add {x y : Rat} {M : Nat} (hM : M ≠ 0) (hx : x.den ∣ M) (hy : y.den ∣ M) : (x + y).den ∣ M := by
  obtain ⟨a, rfl⟩ := (den_iff hM).mp hx
  obtain ⟨b, rfl⟩ := (den_iff hM).mp hy
  rw [Rat.mkRat_add_mkRat _ _ hM hM]
  have e : mkRat (a * (M : Int) + b * (M : Int)) (M * M) = mkRat (a + b) M := by
    rw [← Int.add_mul, Rat.mkRat_mul_right hM]
  rw [e]
  exact den_mkRat_dvd _ _ hM
theorem den_mul {x y : Rat} {M N : Nat} (hM : M ≠ 0) (hN : N ≠ 0) (hx : x.den ∣ M) (hy : y.den ∣ N) : (x * y).den ∣ M * N := by
  obtain ⟨a, rfl⟩ := (den_iff hM).mp hx
  obtain ⟨b, rfl⟩ := (den_iff hN).mp hy
  rw [Rat.mkRat_mul_mkRat]
  exact den_mkRat_dvd _ _ (Nat.mul_ne_zero hM hN)
theorem den_neg (x : Rat) : (-x).den = x.den := rfl
theorem den_dvd_trans {x : Rat} {M N : Nat} (h : x.den ∣ M) (k : M ∣ N) : x.den ∣ N := Nat.dvd_trans h k
theorem den_le {x : Rat} {M : Nat} (hM : M ≠ 0) (h : x.den ∣ M) : x.den ≤ M := Nat.le_of_dvd (Nat.pos_of_ne_zero hM) h
/-! the numerators -/
theorem num_mkRat_le (n : Int) (d : Nat) (h : d ≠ 0) : (mkRat n d).num.natAbs ≤ n.natAbs := by
  rw [Rat.num_mkRat, if_neg h, Int.natAbs_ediv_of_dvd]
  · exact Nat.div_le_self _ _
  · have : ((d.gcd n.natAbs : Nat) : Int) ∣ n := by
      rw [Int.ofNat_dvd_left]
      exact Nat.gcd_dvd_right _ _
    exact this
theorem num_add (x y : Rat) : (x + y).num.natAbs ≤ x.num.natAbs * y.den + y.num.natAbs * x.den := by
  rw [Rat.add_def']
  refine Nat.le_trans (num_mkRat_le _ _ (Nat.mul_ne_zero x.den_nz y.den_nz)) ?_
  refine Nat.le_trans (Int.natAbs_add_le _ _) ?_
  rw [Int.natAbs_mul, Int.natAbs_mul, Int.natAbs_natCast, Int.natAbs_natCast]
  exact Nat.le_refl _
theorem num_mul (x y : Rat) : (x * y).num.natAbs ≤ x.num.natAbs * y.num.natAbs := by
  rw [Rat.mul_def']
  refine Nat.le_trans (num_mkRat_le _ _ (Nat.mul_ne_zero x.den_nz y.den_nz)) ?_
  rw [Int.natAbs_mul]
  exact Nat.le_refl _
/-- sizes: the numerator below 2^N, the denominator below 2^4400 -/
structure Sz (N : Nat) (x : Rat) : Prop where
  n : x.num.natAbs < 2 ^ N
  d : x.den < 2 ^ 4400
theorem Sz.mono {N M : Nat} {x : Rat} (h : Sz N x) (l : N ≤ M) : Sz M x := ⟨Nat.lt_of_lt_of_le h.n (Nat.pow_le_pow_right (by decide) l), h.d⟩
theorem Sz.neg {N : Nat} {x : Rat} (h : Sz N x) : Sz N (-x) := ⟨by rw [Rat.neg_num, Int.natAbs_neg]; exact h.n, h.d⟩
theorem Sz.add {N : Nat} {x y : Rat} (hx : Sz N x) (hy : Sz N y) (hd : (x + y).den < 2 ^ 4400) : Sz (N + 4401) (x + y) := by
  refine ⟨Nat.lt_of_le_of_lt (num_add x y) ?_, hd⟩
  have h1 : x.num.natAbs * y.den < 2 ^ (N + 4400) := by
    rw [Nat.pow_add]
    exact Nat.mul_lt_mul_of_lt_of_le hx.n (Nat.le_of_lt hy.d) (Nat.two_pow_pos _)
  have h2 : y.num.natAbs * x.den < 2 ^ (N + 4400) := by
    rw [Nat.pow_add]
    exact Nat.mul_lt_mul_of_lt_of_le hy.n (Nat.le_of_lt hx.d) (Nat.two_pow_pos _)
  have h3 : 2 ^ (N + 4401) = 2 ^ (N + 4400) + 2 ^ (N + 4400) := by
    rw [show N + 4401 = N + 4400 + 1 by omega, Nat.pow_succ]; omega
  omega
theorem Sz.mul {N M : Nat} {x y : Rat} (hx : Sz N x) (hy : Sz M y) (hd : (x * y).den < 2 ^ 4400) : Sz (N + M) (x * y) := by
  refine ⟨Nat.lt_of_le_of_lt (num_mul x y) ?_, hd⟩
  rw [Nat.pow_add]
  by_cases h : y.num.natAbs = 0
  · rw [h, Nat.mul_zero, ← Nat.pow_add]; exact Nat.two_pow_pos _
  · exact Nat.mul_lt_mul_of_lt_of_le hx.n (Nat.le_of_lt hy.n) (Nat.two_pow_pos _)
end FR

/-! SER -/
set_option linter.all false
/-! SER: power series over the fractions, in plain Lean. -/
namespace FR
@[simp] theorem radd_0 (a : Rat) : a + 0 = a := Rat.add_zero a
@[simp] theorem r0_add (a : Rat) : 0 + a = a := Rat.zero_add a
def ps (h : Nat → Rat) : Nat → Rat
  | 0 => 0
  | n + 1 => ps h n + h n
/-- the product of two series -/
def cv (f g : Nat → Rat) (k : Nat) : Rat := ps (fun j => f j * g (k - j)) (k + 1)
theorem ps_congr {f g : Nat → Rat} : ∀ {n : Nat}, (∀ j < n, f j = g j) → ps f n = ps g n
  | 0, _ => rfl
  | n + 1, h => by
    show ps f n + f n = ps g n + g n
    rw [ps_congr (n := n) (fun j hj => h j (by omega)), h n (by omega)]
theorem ps_add (f g : Nat → Rat) : ∀ n, ps (fun j => f j + g j) n = ps f n + ps g n
  | 0 => by simp [ps]
  | n + 1 => by
    simp only [ps, ps_add f g n]
    grind
theorem ps_mul (c : Rat) (f : Nat → Rat) : ∀ n, ps (fun j => c * f j) n = c * ps f n
  | 0 => by simp [ps]
  | n + 1 => by
    simp only [ps, ps_mul c f n]
    grind
theorem ps_zero {f : Nat → Rat} : ∀ {n : Nat}, (∀ j < n, f j = 0) → ps f n = 0
  | 0, _ => rfl
  | n + 1, h => by
    show ps f n + f n = 0
    rw [ps_zero (n := n) (fun j hj => h j (by omega)), h n (by omega)]
    exact Rat.add_zero 0
/-- the first one apart -/
theorem ps_first (f : Nat → Rat) : ∀ n, ps f (n + 1) = f 0 + ps (fun j => f (j + 1)) n
  | 0 => by simp [ps]
  | n + 1 => by
    show ps f (n + 1) + f (n + 1) = f 0 + (ps (fun j => f (j + 1)) n + f (n + 1))
    rw [ps_first f n]
    grind
def sh (f : Nat → Rat) (k : Nat) : Rat := f (k + 1)
theorem cv_0 (f g : Nat → Rat) : cv f g 0 = f 0 * g 0 := by simp [cv, ps]
theorem cv_s (f g : Nat → Rat) (k : Nat) : cv f g (k + 1) = f 0 * g (k + 1) + cv (sh f) g k := by
  unfold cv
  rw [ps_first]
  have e : ps (fun j => f (j + 1) * g (k + 1 - (j + 1))) (k + 1) = ps (fun j => sh f j * g (k - j)) (k + 1) := ps_congr fun j hj => by
    simp [sh]
  rw [e]
  rfl
theorem cv_t (f g : Nat → Rat) (k : Nat) : cv f g (k + 1) = cv f (sh g) k + f (k + 1) * g 0 := by
  show ps (fun j => f j * g (k + 1 - j)) (k + 1) + f (k + 1) * g (k + 1 - (k + 1)) = _
  rw [Nat.sub_self]
  congr 1
  exact ps_congr fun j hj => by
    rw [show k + 1 - j = (k - j) + 1 by omega]
    rfl
theorem cv_congr {f f' g g' : Nat → Rat} {k : Nat} (h1 : ∀ j ≤ k, f j = f' j) (h2 : ∀ j ≤ k, g j = g' j) : cv f g k = cv f' g' k :=
  ps_congr fun j hj => by rw [h1 j (by omega), h2 (k - j) (by omega)]
theorem cv_add_l (f f' g : Nat → Rat) (k : Nat) : cv (fun j => f j + f' j) g k = cv f g k + cv f' g k := by
  unfold cv
  rw [← ps_add]
  exact ps_congr fun j _ => by grind
theorem cv_add_r (f g g' : Nat → Rat) (k : Nat) : cv f (fun j => g j + g' j) k = cv f g k + cv f g' k := by
  unfold cv
  rw [← ps_add]
  exact ps_congr fun j _ => by grind
theorem cv_mul_l (c : Rat) (f g : Nat → Rat) (k : Nat) : cv (fun j => c * f j) g k = c * cv f g k := by
  unfold cv
  rw [← ps_mul]
  exact ps_congr fun j _ => by grind
theorem cv_mul_r (c : Rat) (f g : Nat → Rat) (k : Nat) : cv f (fun j => c * g j) k = c * cv f g k := by
  unfold cv
  rw [← ps_mul]
  exact ps_congr fun j _ => by grind
theorem cv_comm : ∀ (k : Nat) (f g : Nat → Rat), cv f g k = cv g f k
  | 0, f, g => by rw [cv_0, cv_0, Rat.mul_comm]
  | k + 1, f, g => by
    rw [cv_s, cv_t, cv_comm k, Rat.mul_comm, Rat.add_comm]
theorem sh_cv (f g : Nat → Rat) (k : Nat) : sh (cv f g) k = f 0 * sh g k + cv (sh f) g k := cv_s f g k
theorem cv_assoc : ∀ (k : Nat) (f g h : Nat → Rat), cv (cv f g) h k = cv f (cv g h) k
  | 0, f, g, h => by simp only [cv_0]; grind
  | k + 1, f, g, h => by
    rw [cv_s, cv_s f (cv g h), cv_0]
    have e : cv (sh (cv f g)) h k = f 0 * cv (sh g) h k + cv (cv (sh f) g) h k := by
      rw [← cv_mul_l, ← cv_add_l]
      exact cv_congr (fun j _ => sh_cv f g j) fun _ _ => rfl
    rw [e, cv_assoc k, cv_s g h]
    grind
/-- z d/dz -/
def th (f : Nat → Rat) (k : Nat) : Rat := (k : Rat) * f k
theorem th_cv (f g : Nat → Rat) (k : Nat) : th (cv f g) k = cv (th f) g k + cv f (th g) k := by
  unfold th cv
  rw [← ps_add, ← ps_mul]
  refine ps_congr fun j hj => ?_
  have e : (k : Rat) = (j : Rat) + ((k - j : Nat) : Rat) := by
    rw [← Rat.natCast_add]
    congr 1
    omega
  rw [e]
  grind
def one (k : Nat) : Rat := if k = 0 then 1 else 0
theorem one_s (k : Nat) : one (k + 1) = 0 := rfl
theorem cv_one_l (f : Nat → Rat) : ∀ k, cv one f k = f k
  | 0 => by rw [cv_0]; simp [one]
  | k + 1 => by
    rw [cv_s]
    have e : cv (sh one) f k = 0 := ps_zero fun j _ => by simp [sh, one]
    rw [e]
    simp [one]
def pw (x : Nat → Rat) : Nat → Nat → Rat
  | 0 => one
  | m + 1 => cv (pw x m) x
theorem cv_low {f g : Nat → Rat} {a b : Nat} (hf : ∀ j < a, f j = 0) (hg : ∀ j < b, g j = 0) {k : Nat} (hk : k < a + b) : cv f g k = 0 :=
  ps_zero fun j hj => by
    by_cases h : j < a
    · rw [hf j h, Rat.zero_mul]
    · rw [hg (k - j) (by omega), Rat.mul_zero]
theorem pw_low {x : Nat → Rat} (h0 : x 0 = 0) : ∀ (m k : Nat), k < m → pw x m k = 0
  | m + 1, k, hk => cv_low (a := m) (b := 1) (fun j hj => pw_low h0 m j hj) (fun j hj => by rw [show j = 0 by omega]; exact h0) hk
/-- z d/dz of a power -/
theorem th_pw (x : Nat → Rat) : ∀ (m k : Nat), th (pw x (m + 1)) k = ((m + 1 : Nat) : Rat) * cv (pw x m) (th x) k
  | 0, k => by
    show th (cv one x) k = _
    have e : th (cv one x) k = th x k := by unfold th; rw [cv_one_l]
    rw [e]
    show _ = ((1 : Nat) : Rat) * cv one (th x) k
    rw [cv_one_l]
    simp
  | m + 1, k => by
    show th (cv (pw x (m + 1)) x) k = _
    rw [th_cv]
    have e : cv (th (pw x (m + 1))) x k = ((m + 1 : Nat) : Rat) * cv (pw x (m + 1)) (th x) k := by
      rw [cv_congr (f' := fun j => ((m + 1 : Nat) : Rat) * cv (pw x m) (th x) j) (fun j _ => th_pw x m j) (fun _ _ => rfl), cv_mul_l]
      congr 1
      rw [cv_assoc, show pw x (m + 1) = cv (pw x m) x from rfl, cv_assoc]
      exact cv_congr (fun _ _ => rfl) fun j _ => cv_comm j _ _
    rw [e, show ((m + 1 + 1 : Nat) : Rat) = ((m + 1 : Nat) : Rat) + 1 by rw [Rat.natCast_add]; rfl]
    grind
/-- t^k / k! -/
def expS (t : Rat) : Nat → Rat
  | 0 => 1
  | k + 1 => expS t k * t / ((k + 1 : Nat) : Rat)
/-- sums of series -/
def sums (F : Nat → Nat → Rat) (n k : Nat) : Rat := ps (fun m => F m k) n
theorem sums_cv (F : Nat → Nat → Rat) (g : Nat → Rat) (k : Nat) : ∀ n, cv (sums F n) g k = ps (fun m => cv (F m) g k) n
  | 0 => ps_zero fun j _ => by simp [sums, ps]
  | n + 1 => by
    rw [show ps (fun m => cv (F m) g k) (n + 1) = ps (fun m => cv (F m) g k) n + cv (F n) g k from rfl, ← sums_cv F g k n, ← cv_add_l]
    rfl
theorem ps_mul' (c : Rat) (f : Nat → Rat) (n : Nat) : c * ps f n = ps (fun j => c * f j) n := (ps_mul c f n).symm
theorem nat_ne {k : Nat} : ((k + 1 : Nat) : Rat) ≠ 0 := by
  intro z
  have := congrArg Rat.num z
  rw [Rat.num_natCast] at this
  have : ((k + 1 : Nat) : Int) = 0 := this
  omega
/-- a logarithm's recurrence decides it -/
def IsLog (s L : Nat → Rat) (n : Nat) : Prop := L 0 = 0 ∧ ∀ k < n, th s k = cv (th L) s k
/-- the last of the product's terms apart: s 0 = 1, L 0 = 0 -/
theorem log_step {s L : Nat → Rat} (h0 : s 0 = 1) (k : Nat) : cv (th L) s (k + 1) = ps (fun j => th L (j + 1) * s (k - j)) k + th L (k + 1) := by
  rw [cv_s, show th L 0 = 0 by simp [th], Rat.zero_mul, Rat.zero_add]
  show ps (fun j => sh (th L) j * s (k - j)) k + sh (th L) k * s (k - k) = _
  rw [Nat.sub_self, h0, Rat.mul_one]
  rfl
theorem log_unique {s L M : Nat → Rat} {n : Nat} (h0 : s 0 = 1) (h1 : IsLog s L n) (h2 : IsLog s M n) : ∀ k < n, L k = M k := by
  intro k
  induction k using Nat.strongRecOn with
  | ind k ih =>
    intro hk
    cases k with
    | zero => rw [h1.1, h2.1]
    | succ k =>
      have e1 := h1.2 (k + 1) hk
      have e2 := h2.2 (k + 1) hk
      rw [log_step h0] at e1 e2
      have e : ps (fun j => th L (j + 1) * s (k - j)) k = ps (fun j => th M (j + 1) * s (k - j)) k := ps_congr fun j hj => by
        unfold th
        rw [ih (j + 1) (by omega) (by omega)]
      rw [e] at e1
      have e3 : th L (k + 1) = th M (k + 1) := by
        rw [e1] at e2
        grind
      unfold th at e3
      have := nat_ne (k := k)
      grind
theorem log_congr {s s' L L' : Nat → Rat} {n : Nat} (h : ∀ k < n, s k = s' k) (h' : ∀ k < n, L k = L' k) (i : IsLog s L n) (hn : 0 < n) : IsLog s' L' n := by
  refine ⟨by rw [← h' 0 hn]; exact i.1, fun k hk => ?_⟩
  have e := i.2 k hk
  have e1 : th s k = th s' k := by unfold th; rw [h k hk]
  rw [← e1, e]
  exact cv_congr (fun j hj => by unfold th; rw [h' j (by omega)]) fun j hj => h j (by omega)
/-- the logarithm of a product -/
theorem log_mul {s r L M : Nat → Rat} {n : Nat} (h1 : IsLog s L n) (h2 : IsLog r M n) : IsLog (cv s r) (fun k => L k + M k) n := by
  refine ⟨by simp [h1.1, h2.1], fun k hk => ?_⟩
  rw [th_cv]
  have e1 : cv (th s) r k = cv (th L) (cv s r) k := by
    rw [← cv_assoc]
    exact cv_congr (fun j hj => h1.2 j (by omega)) fun _ _ => rfl
  have e2 : cv s (th r) k = cv (th M) (cv s r) k := by
    rw [cv_congr (g' := cv (th M) r) (fun _ _ => rfl) (fun j hj => h2.2 j (by omega)), ← cv_assoc, ← cv_assoc]
    exact cv_congr (fun j _ => cv_comm j _ _) fun _ _ => rfl
  rw [e1, e2, ← cv_add_l]
  exact cv_congr (fun j _ => by unfold th; grind) fun _ _ => rfl
/-- sums of the powers with numbers c : the logarithm's and the exponential's -/
def psum (c : Nat → Rat) (x : Nat → Rat) (n k : Nat) : Rat := ps (fun m => pw x (m + 1) k * c (m + 1)) n
theorem th_psum (c : Nat → Rat) (x : Nat → Rat) (n k : Nat) : th (psum c x n) k = ps (fun m => c (m + 1) * ((m + 1 : Nat) : Rat) * cv (pw x m) (th x) k) n := by
  unfold th psum
  rw [← ps_mul]
  refine ps_congr fun m _ => ?_
  have e := th_pw x m k
  unfold th at e
  unfold th at *
  grind
theorem psum_log {x : Nat → Rat} (h0 : x 0 = 0) {c : Nat → Rat} (hc : ∀ m, c (m + 1) * ((m + 1 : Nat) : Rat) = if m % 2 = 0 then 1 else -1) (n : Nat) : IsLog (fun k => one k + x k) (psum c x n) (n + 1) := by
  refine ⟨ps_zero fun m _ => by rw [pw_low h0 (m + 1) 0 (by omega), Rat.zero_mul], fun k hk => ?_⟩
  have e1 : th (fun k => one k + x k) k = th x k := by
    unfold th one
    by_cases h : k = 0
    · subst h; simp
    · simp [h]
  rw [e1]
  have e2 : cv (th (psum c x n)) (fun k => one k + x k) k = ps (fun m => (if m % 2 = 0 then 1 else -1) * (cv (pw x m) (th x) k + cv (pw x (m + 1)) (th x) k)) n := by
    have e3 : cv (th (psum c x n)) (fun k => one k + x k) k = cv (sums (fun m j => (if m % 2 = 0 then 1 else -1) * cv (pw x m) (th x) j) n) (fun k => one k + x k) k := cv_congr (fun j _ => by
      rw [th_psum]
      exact ps_congr fun m _ => by rw [hc]) fun _ _ => rfl
    rw [e3, sums_cv]
    refine ps_congr fun m _ => ?_
    rw [cv_mul_l, cv_add_r]
    congr 1
    congr 1
    · rw [cv_comm, cv_one_l]
    · rw [show pw x (m + 1) = cv (pw x m) x from rfl, cv_assoc, cv_assoc]
      exact cv_congr (fun _ _ => rfl) fun j _ => cv_comm j _ _
  rw [e2]
  have tele : ∀ n, ps (fun m => (if m % 2 = 0 then 1 else -1) * (cv (pw x m) (th x) k + cv (pw x (m + 1)) (th x) k)) n = th x k - (if n % 2 = 0 then 1 else -1) * cv (pw x n) (th x) k := by
    intro n
    induction n with
    | zero =>
      show (0 : Rat) = th x k - (1 : Rat) * cv one (th x) k
      rw [cv_one_l]
      grind
    | succ n ih =>
      show ps _ n + _ = _
      rw [ih]
      by_cases h : n % 2 = 0
      · have h' : (n + 1) % 2 ≠ 0 := by omega
        simp only [h, h', if_true, if_false]
        grind
      · have h' : (n + 1) % 2 = 0 := by omega
        simp only [h, h', if_true, if_false]
        grind
  rw [tele]
  have e4 : cv (pw x n) (th x) k = 0 := cv_low (a := n) (b := 1) (fun j hj => pw_low h0 n j hj) (fun j hj => by rw [show j = 0 by omega]; simp [th]) hk
  rw [e4]
  grind
/-- an exponential's recurrence -/
def IsExp (x E : Nat → Rat) (n : Nat) : Prop := E 0 = 1 ∧ ∀ k < n, th E k = cv (th x) E k
theorem exp_step {x E : Nat → Rat} (k : Nat) : cv (th x) E (k + 1) = ps (fun j => th x (j + 1) * E (k - j)) (k + 1) := by
  rw [cv_s, show th x 0 = 0 by simp [th], Rat.zero_mul, Rat.zero_add]
  rfl
theorem exp_unique {x E F : Nat → Rat} {n : Nat} (h1 : IsExp x E n) (h2 : IsExp x F n) : ∀ k < n, E k = F k := by
  intro k
  induction k using Nat.strongRecOn with
  | ind k ih =>
    intro hk
    cases k with
    | zero => rw [h1.1, h2.1]
    | succ k =>
      have e1 := h1.2 (k + 1) hk
      have e2 := h2.2 (k + 1) hk
      rw [exp_step] at e1 e2
      have e : ps (fun j => th x (j + 1) * E (k - j)) (k + 1) = ps (fun j => th x (j + 1) * F (k - j)) (k + 1) := ps_congr fun j hj => by
        rw [ih (k - j) (by omega) (by omega)]
      rw [e] at e1
      have e3 : th E (k + 1) = th F (k + 1) := by rw [e1, e2]
      unfold th at e3
      have := nat_ne (k := k)
      grind
theorem exp_of_log {s L : Nat → Rat} {n : Nat} (h0 : s 0 = 1) (h : IsLog s L n) : IsExp L s n := ⟨h0, h.2⟩
theorem psum_exp {x : Nat → Rat} (h0 : x 0 = 0) {c : Nat → Rat} (hc : ∀ m, c (m + 1) * ((m + 1 : Nat) : Rat) = c m) (c0 : c 0 = 1) (n : Nat) : IsExp x (fun k => one k + psum c x n k) (n + 1) := by
  refine ⟨?_, fun k hk => ?_⟩
  · have e : psum c x n 0 = 0 := ps_zero fun m _ => by rw [pw_low h0 (m + 1) 0 (by omega), Rat.zero_mul]
    show one 0 + psum c x n 0 = 1
    rw [e]
    exact Rat.add_zero 1
  · have e1 : th (fun k => one k + psum c x n k) k = th (psum c x n) k := by
      unfold th one
      by_cases h : k = 0
      · subst h; simp
      · simp [h]
    rw [e1, th_psum, cv_comm]
    have e2 : cv (fun k => one k + psum c x n k) (th x) k = ps (fun m => c m * cv (pw x m) (th x) k) (n + 1) := by
      rw [← show ∀ n, cv (sums (fun m j => c m * pw x m j) n) (th x) k = ps (fun m => c m * cv (pw x m) (th x) k) n from fun n => by
        rw [sums_cv]
        exact ps_congr fun m _ => by rw [cv_mul_l]]
      refine cv_congr (fun j _ => ?_) fun _ _ => rfl
      show _ = ps (fun m => c m * pw x m j) (n + 1)
      rw [ps_first, c0, Rat.one_mul]
      show one j + _ = one j + _
      congr 1
      exact ps_congr fun m _ => by rw [Rat.mul_comm]
    rw [e2]
    show _ = ps (fun m => c m * cv (pw x m) (th x) k) n + c n * cv (pw x n) (th x) k
    have e4 : cv (pw x n) (th x) k = 0 := cv_low (a := n) (b := 1) (fun j hj => pw_low h0 n j hj) (fun j hj => by rw [show j = 0 by omega]; simp [th]) hk
    rw [e4, Rat.mul_zero, Rat.add_zero]
    exact ps_congr fun m _ => by rw [hc]
theorem th_expS (t : Rat) : ∀ k, th (expS t) (k + 1) = t * expS t k := fun k => by
  unfold th
  show ((k + 1 : Nat) : Rat) * (expS t k * t / ((k + 1 : Nat) : Rat)) = _
  have := nat_ne (k := k)
  grind
/-- the product of two exponentials -/
theorem expS_add (t u : Rat) : ∀ k, cv (expS t) (expS u) k = expS (t + u) k
  | 0 => by rw [cv_0]; simp [expS]
  | k + 1 => by
    have e := th_cv (expS t) (expS u) (k + 1)
    rw [cv_s (th (expS t)), cv_t (expS t) (th (expS u))] at e
    rw [show th (expS t) 0 = 0 by simp [th], show th (expS u) 0 = 0 by simp [th]] at e
    have e1 : cv (sh (th (expS t))) (expS u) k = t * cv (expS t) (expS u) k := by
      rw [← cv_mul_l]
      exact cv_congr (fun j _ => th_expS t j) fun _ _ => rfl
    have e2 : cv (expS t) (sh (th (expS u))) k = u * cv (expS t) (expS u) k := by
      rw [← cv_mul_r]
      exact cv_congr (fun _ _ => rfl) fun j _ => th_expS u j
    rw [e1, e2, expS_add t u k] at e
    have e3 := th_expS (t + u) k
    unfold th at e e3
    have := nat_ne (k := k)
    grind
theorem log_rec {s L : Nat → Rat} {n : Nat} (h0 : s 0 = 1) (h : IsLog s L n) {k : Nat} (hk : k + 1 < n) : L (k + 1) = s (k + 1) - ps (fun i => ((i + 1 : Nat) : Rat) * (L (i + 1) * s (k + 1 - (i + 1)))) k / ((k + 1 : Nat) : Rat) := by
  have e := h.2 (k + 1) hk
  rw [log_step h0] at e
  have e1 : ps (fun j => th L (j + 1) * s (k - j)) k = ps (fun i => ((i + 1 : Nat) : Rat) * (L (i + 1) * s (k + 1 - (i + 1)))) k := ps_congr fun j hj => by
    unfold th
    rw [show k + 1 - (j + 1) = k - j by omega, Rat.mul_assoc]
  rw [e1] at e
  unfold th at e
  have := nat_ne (k := k)
  grind
theorem exp_rec {x E : Nat → Rat} {n : Nat} (h : IsExp x E n) {k : Nat} (hk : k + 1 < n) : E (k + 1) = ps (fun i => ((i + 1 : Nat) : Rat) * (x (i + 1) * E (k + 1 - (i + 1)))) (k + 1) / ((k + 1 : Nat) : Rat) := by
  have e := h.2 (k + 1) hk
  rw [exp_step] at e
  have e1 : ps (fun j => th x (j + 1) * E (k - j)) (k + 1) = ps (fun i => ((i + 1 : Nat) : Rat) * (x (i + 1) * E (k + 1 - (i + 1)))) (k + 1) := ps_congr fun j hj => by
    unfold th
    rw [show k + 1 - (j + 1) = k - j by omega, Rat.mul_assoc]
  rw [e1] at e
  unfold th at e
  have := nat_ne (k := k)
  grind
end FR

/-! QZ -/
set_option linter.all false
/-! QZ: sizes by a common denominator. -/
namespace FR
/-- the denominator divides W, the numerator is below 2^N -/
structure Qz (W N : Nat) (x : Rat) : Prop where
  d : x.den ∣ W
  n : x.num.natAbs < 2 ^ N
/-- W serves as a common denominator -/
structure Ok (W : Nat) : Prop where
  p : W ≠ 0
  l : W < 2 ^ 4400
theorem Qz.mono {W V N M : Nat} {x : Rat} (h : Qz W N x) (hd : W ∣ V) (hn : N ≤ M) : Qz V M x := ⟨Nat.dvd_trans h.d hd, Nat.lt_of_lt_of_le h.n (Nat.pow_le_pow_right (by decide) hn)⟩
theorem Qz.up {W N M : Nat} {x : Rat} (h : Qz W N x) (hn : N ≤ M) : Qz W M x := h.mono (Nat.dvd_refl _) hn
theorem Qz.sz {W N M : Nat} {x : Rat} (h : Qz W N x) (w : Ok W) (hn : N ≤ M) : Sz M x := ⟨Nat.lt_of_lt_of_le h.n (Nat.pow_le_pow_right (by decide) hn), Nat.lt_of_le_of_lt (den_le w.p h.d) w.l⟩
theorem Qz.neg {W N : Nat} {x : Rat} (h : Qz W N x) : Qz W N (-x) := ⟨h.d, by rw [Rat.neg_num, Int.natAbs_neg]; exact h.n⟩
theorem Qz.add {W N : Nat} {x y : Rat} (w : Ok W) (hx : Qz W N x) (hy : Qz W N y) : Qz W (N + 4401) (x + y) := by
  have hd := den_add w.p hx.d hy.d
  exact ⟨hd, ((hx.sz w (Nat.le_refl _)).add (hy.sz w (Nat.le_refl _)) (Nat.lt_of_le_of_lt (den_le w.p hd) w.l)).n⟩
theorem Qz.sub {W N : Nat} {x y : Rat} (w : Ok W) (hx : Qz W N x) (hy : Qz W N y) : Qz W (N + 4401) (x - y) := by
  rw [Rat.sub_eq_add_neg]
  exact hx.add w hy.neg
theorem Qz.mul {W V N M : Nat} {x y : Rat} (hW : W ≠ 0) (hV : V ≠ 0) (hx : Qz W N x) (hy : Qz V M y) : Qz (W * V) (N + M) (x * y) := by
  refine ⟨den_mul hW hV hx.d hy.d, ?_⟩
  refine Nat.lt_of_le_of_lt (num_mul x y) ?_
  rw [Nat.pow_add]
  by_cases h : y.num.natAbs = 0
  · rw [h, Nat.mul_zero, ← Nat.pow_add]; exact Nat.two_pow_pos _
  · exact Nat.mul_lt_mul_of_lt_of_le hx.n (Nat.le_of_lt hy.n) (Nat.two_pow_pos _)
theorem Qz.zero (W N : Nat) : Qz W N 0 := ⟨Nat.one_dvd _, Nat.two_pow_pos _⟩
theorem Qz.one (W : Nat) {N : Nat} (h : 1 ≤ N) : Qz W N 1 := ⟨Nat.one_dvd _, show (1 : Nat) < 2 ^ N from Nat.one_lt_two_pow (by omega)⟩
theorem Qz.nat (W : Nat) {N k : Nat} (h : k < 2 ^ N) : Qz W N (k : Rat) := ⟨by rw [Rat.den_natCast]; exact Nat.one_dvd _, by rw [Rat.num_natCast, Int.natAbs_natCast]; exact h⟩
theorem Qz.ps {W N : Nat} (w : Ok W) {f : Nat → Rat} : ∀ {n : Nat}, (∀ j < n, Qz W N (f j)) → Qz W (N + 4401 * n) (FR.ps f n)
  | 0, _ => Qz.zero _ _
  | n + 1, h => by
    have h1 := Qz.ps w (n := n) fun j hj => h j (by omega)
    exact (h1.add w ((h n (by omega)).up (by omega))).up (by omega)
theorem Qz.inv {W N K : Nat} {x : Rat} (h0 : x ≠ 0) (h : Qz W N x) (hW : W ≠ 0) (hK : W < 2 ^ K) : Qz x.num.natAbs K x⁻¹ := by
  have hn : x.num ≠ 0 := fun z => h0 (Rat.num_eq_zero.mp z)
  have e : (x⁻¹).den = x.num.natAbs := by
    rw [Rat.den_inv]
    simp [h0]
  have e2 : (x⁻¹).num.natAbs = x.den := by
    rw [Rat.num_inv]
    rw [Int.natAbs_mul, Int.natAbs_natCast, Int.natAbs_sign_of_ne_zero hn, Nat.one_mul]
  refine ⟨by rw [e]; exact Nat.dvd_refl _, ?_⟩
  rw [e2]
  exact Nat.lt_of_le_of_lt (den_le hW h.d) hK
theorem Qz.div {W V N M K : Nat} {x y : Rat} (hW : W ≠ 0) (hV : V ≠ 0) (hK : V < 2 ^ K) (hx : Qz W N x) (hy : Qz V M y) (h0 : y ≠ 0) : Qz (W * y.num.natAbs) (N + K) (x / y) := by
  rw [Rat.div_def]
  exact Qz.mul hW (fun z => h0 (Rat.num_eq_zero.mp (Int.natAbs_eq_zero.mp z))) hx (hy.inv h0 hV hK)
theorem nat_ne' {k : Nat} (h : k ≠ 0) : (k : Rat) ≠ 0 := by
  obtain ⟨j, rfl⟩ := Nat.exists_eq_succ_of_ne_zero h
  exact nat_ne
theorem Qz.divN {W N k : Nat} {x : Rat} (hW : W ≠ 0) (hk : k ≠ 0) (hx : Qz W N x) : Qz (W * k) (N + 1) (x / (k : Rat)) := by
  have h := Qz.div hW (V := 1) (M := k) (K := 1) (by decide) (by decide) hx (Qz.nat 1 (Nat.lt_two_pow_self)) (nat_ne' hk)
  rw [Rat.num_natCast, Int.natAbs_natCast] at h
  exact h
def fct : Nat → Nat
  | 0 => 1
  | n + 1 => fct n * (n + 1)
theorem fct_ne : ∀ n, fct n ≠ 0
  | 0 => by decide
  | n + 1 => Nat.mul_ne_zero (fct_ne n) (by omega)
theorem fct_dvd : ∀ {m n : Nat}, m ≤ n → fct m ∣ fct n
  | m, 0, h => by rw [show m = 0 by omega]; exact Nat.dvd_refl _
  | m, n + 1, h => by
    by_cases e : m = n + 1
    · subst e; exact Nat.dvd_refl _
    · exact Nat.dvd_trans (fct_dvd (n := n) (by omega)) (Nat.dvd_mul_right _ _)
theorem dvd_fct {m n : Nat} (h0 : m ≠ 0) (h : m ≤ n) : m ∣ fct n := by
  obtain ⟨k, rfl⟩ := Nat.exists_eq_succ_of_ne_zero h0
  exact Nat.dvd_trans (Nat.dvd_mul_left _ _) (fct_dvd h)
theorem Ok.of_le {W V : Nat} (h : Ok V) (l : W ∣ V) : Ok W := ⟨fun z => h.p (by rw [z] at l; exact Nat.eq_zero_of_zero_dvd l), Nat.lt_of_le_of_lt (Nat.le_of_dvd (Nat.pos_of_ne_zero h.p) l) h.l⟩
theorem dvd_eq {a b : Nat} (h : a = b) : a ∣ b := h ▸ Nat.dvd_refl a
theorem pow_nz {W : Nat} (k : Nat) (h : W ≠ 0) : W ^ k ≠ 0 := Nat.ne_of_gt (Nat.pow_pos (Nat.pos_of_ne_zero h))
/-- the exponential's numbers -/
theorem Qz.expS {t : Rat} {W N : Nat} (hW : W ≠ 0) (ht : Qz W N t) : ∀ k, Qz (W ^ k * fct k) (k * (N + 1) + 1) (FR.expS t k)
  | 0 => Qz.one _ (by omega)
  | k + 1 => by
    have h := Qz.expS hW ht k
    have h1 := Qz.mul (Nat.mul_ne_zero (pow_nz k hW) (fct_ne k)) hW h ht
    have h2 := Qz.divN (Nat.mul_ne_zero (Nat.mul_ne_zero (pow_nz k hW) (fct_ne k)) hW) (k := k + 1) (by omega) h1
    refine h2.mono (dvd_eq ?_) ?_
    · show _ = W ^ (k + 1) * (fct k * (k + 1))
      rw [Nat.pow_succ]
      ac_rfl
    · rw [Nat.add_mul]
      omega
theorem Qz.cv {W V N M n : Nat} {f g : Nat → Rat} (w : Ok (W * V)) (hf : ∀ j < n, Qz W N (f j)) (hg : ∀ j < n, Qz V M (g j)) : ∀ k < n, Qz (W * V) (N + M + 4401 * n) (FR.cv f g k) := by
  intro k hk
  have h1 : W ≠ 0 := fun z => w.p (by rw [z, Nat.zero_mul])
  have h2 : V ≠ 0 := fun z => w.p (by rw [z, Nat.mul_zero])
  exact (Qz.ps w (n := k + 1) fun j hj => Qz.mul h1 h2 (hf j (by omega)) (hg (k - j) (by omega))).up (by omega)
theorem Qz.pw {W N n : Nat} {x : Nat → Rat} (hx : ∀ j < n, Qz W N (x j)) : ∀ (m : Nat), Ok (W ^ m) → ∀ k < n, Qz (W ^ m) (1 + m * (N + 4401 * n)) (FR.pw x m k)
  | 0, _, k, _ => by
    show Qz 1 _ (FR.one k)
    unfold FR.one
    split
    · exact Qz.one _ (by omega)
    · exact Qz.zero _ _
  | m + 1, w, k, hk => by
    have w' : Ok (W ^ m * W) := by rw [← Nat.pow_succ]; exact w
    have h := Qz.pw hx m (w'.of_le (Nat.dvd_mul_right _ _))
    have h2 := Qz.cv (n := n) w' h hx k hk
    rw [← Nat.pow_succ] at h2
    exact h2.up (by rw [Nat.add_mul]; omega)
end FR

/-! QZ2 -/
set_option linter.all false
/-! QZ2: sizes of sums of powers, of a quotient. -/
namespace FR
theorem pow_dvd {W m n : Nat} (h : m ≤ n) : W ^ m ∣ W ^ n := Nat.pow_dvd_pow W h
theorem Qz.psumI {W C N K len n : Nat} {x c : Nat → Rat} (w : Ok (W ^ n * C)) (hx : ∀ j < len, Qz W N (x j)) (hc : ∀ m < n, Qz C K (c (m + 1))) : ∀ k < len, ∀ m < n, Qz (W ^ n * C) (1 + n * (N + 4401 * len) + K) (FR.pw x (m + 1) k * c (m + 1)) := by
  intro k hk m hm
  have w1 : Ok (W ^ n) := w.of_le (Nat.dvd_mul_right _ _)
  have w2 : Ok (W ^ (m + 1)) := w1.of_le (pow_dvd (by omega))
  have hC : C ≠ 0 := fun z => w.p (by rw [z, Nat.mul_zero])
  have h := Qz.mul w2.p hC (Qz.pw hx (m + 1) w2 k hk) (hc m hm)
  refine h.mono (Nat.mul_dvd_mul (pow_dvd (by omega)) (Nat.dvd_refl _)) ?_
  have := Nat.mul_le_mul_right (N + 4401 * len) (show m + 1 ≤ n from hm)
  omega
theorem Qz.psum {W C N K len n : Nat} {x c : Nat → Rat} (w : Ok (W ^ n * C)) (hx : ∀ j < len, Qz W N (x j)) (hc : ∀ m < n, Qz C K (c (m + 1))) : ∀ k < len, ∀ i ≤ n, Qz (W ^ n * C) (1 + n * (N + 4401 * len) + K + 4401 * n) (FR.psum c x i k) := by
  intro k hk i hi
  exact (Qz.ps w (n := i) fun m hm => Qz.psumI w hx hc k hk m (by omega)).up (by omega)
/-! ### a quotient -/
def qf (a b : Nat → Rat) (d : Nat) : Nat → Nat → Rat
  | 0, _ => 0
  | k + 1, j => if j < k then qf a b d k j else (a k - ps (fun i => b (i + 1) * qf a b d k (k - (i + 1))) (min k (d - 1))) / b 0
def quo (a b : Nat → Rat) (d k : Nat) : Rat := qf a b d (k + 1) k
theorem qf_at (a b : Nat → Rat) (d : Nat) : ∀ (m j : Nat), j < m → qf a b d m j = quo a b d j
  | m + 1, j, h => by
    by_cases e : j < m
    · show (if j < m then qf a b d m j else _) = _
      rw [if_pos e]
      exact qf_at a b d m j e
    · have e' : j = m := by omega
      subst e'
      rfl
theorem quo_eq (a b : Nat → Rat) (d k : Nat) : quo a b d k = (a k - ps (fun i => b (i + 1) * quo a b d (k - (i + 1))) (min k (d - 1))) / b 0 := by
  show (if k < k then qf a b d k k else (a k - ps (fun i => b (i + 1) * qf a b d k (k - (i + 1))) (min k (d - 1))) / b 0) = _
  rw [if_neg (by omega)]
  congr 2
  exact ps_congr fun i hi => by rw [qf_at]; omega
/-- the quotient times the denominator is the numerator -/
theorem quo_mul {a b : Nat → Rat} {d : Nat} (hd : 0 < d) (h0 : b 0 ≠ 0) (k : Nat) : ps (fun i => b i * quo a b d (k - i)) (min (k + 1) d) = a k := by
  have e : min (k + 1) d = min k (d - 1) + 1 := by omega
  rw [e, ps_first, Nat.sub_zero]
  have e1 := quo_eq a b d k
  have e2 : b 0 * quo a b d k = a k - ps (fun i => b (i + 1) * quo a b d (k - (i + 1))) (min k (d - 1)) := by
    conv => lhs; rw [e1]
    grind
  rw [e2]
  grind
theorem Qz.quo {a b : Nat → Rat} {d D N K L : Nat} (w : Ok ((D * (b 0).num.natAbs) ^ (L + 1) * D)) (hK : D < 2 ^ K) (h0 : b 0 ≠ 0) (ha : ∀ j ≤ L, Qz D N (a j)) (hb : ∀ j < max d 1, Qz D N (b j)) :
    ∀ k ≤ L, Qz ((D * (b 0).num.natAbs) ^ (k + 1)) ((k + 1) * (N + K + 4401 * (L + 2))) (FR.quo a b d k) := by
  intro k
  induction k using Nat.strongRecOn with
  | ind k ih =>
    intro hk
    have hD : D ≠ 0 := fun z => w.p (by rw [z, Nat.mul_zero])
    obtain ⟨E, hE⟩ : ∃ E, E = D * (b 0).num.natAbs := ⟨_, rfl⟩
    rw [← hE] at ih w ⊢
    have hE0 : E ≠ 0 := by
      rw [hE]
      exact Nat.mul_ne_zero hD fun z => h0 (Rat.num_eq_zero.mp (Int.natAbs_eq_zero.mp z))
    have wk : Ok (D * E ^ k) := w.of_le (by rw [Nat.mul_comm]; exact Nat.mul_dvd_mul (pow_dvd (by omega)) (Nat.dvd_refl _))
    rw [quo_eq]
    have h1 : ∀ i < min k (d - 1), Qz (D * E ^ k) (N + k * (N + K + 4401 * (L + 2))) (b (i + 1) * FR.quo a b d (k - (i + 1))) := fun i hi => by
      have q := Qz.mul hD (pow_nz _ hE0) (hb (i + 1) (by omega)) (ih (k - (i + 1)) (by omega) (by omega))
      refine q.mono (Nat.mul_dvd_mul (Nat.dvd_refl _) (pow_dvd (by omega))) ?_
      have := Nat.mul_le_mul_right (N + K + 4401 * (L + 2)) (show k - (i + 1) + 1 ≤ k by omega)
      omega
    have h2 := Qz.ps wk h1
    have h3 : Qz (D * E ^ k) (N + k * (N + K + 4401 * (L + 2)) + 4401 * L) (FR.ps (fun i => b (i + 1) * FR.quo a b d (k - (i + 1))) (min k (d - 1))) := h2.up (by omega)
    have h4 : Qz (D * E ^ k) (N + k * (N + K + 4401 * (L + 2)) + 4401 * L) (a k) := (ha k hk).mono (Nat.dvd_mul_right _ _) (by omega)
    have h5 := Qz.div wk.p hD hK (h4.sub wk h3) (hb 0 (by omega)) h0
    refine h5.mono (dvd_eq ?_) ?_
    · rw [Nat.pow_succ, hE]
      ac_rfl
    · rw [Nat.add_mul k 1]
      omega
end FR

/-! F2 -/
set_option linter.all false
set_option maxRecDepth 100000
namespace PD
open PySem L2 FR
/-- a fraction -/
def frD (x : Rat) : D := .tup [.int x.num, .int (x.den : Int)]
theorem mok_of {i j : Int} {N M : Nat} (hi : i.natAbs < 2 ^ N) (hj : j.natAbs < 2 ^ M) (h : N + M < 134217000) : mok i j = true := by
  refine decide_eq_true ?_
  have h1 : i.natAbs.log2 ≤ N := by
    by_cases z : i.natAbs = 0
    · rw [z]; simp
    · exact Nat.le_of_lt ((Nat.log2_lt z).mpr hi)
  have h2 : j.natAbs.log2 ≤ M := by
    by_cases z : j.natAbs = 0
    · rw [z]; simp
    · exact Nat.le_of_lt ((Nat.log2_lt z).mpr hj)
  omega
theorem pyl_of {x y : Int} (h : y.natAbs < 2 ^ 9000) : Builtin.divisionGoesByPylong x y = false := by
  unfold Builtin.divisionGoesByPylong
  have h1 : (if y == 0 then 0 else y.natAbs.log2 / 30 + 1) ≤ 300 := by
    split
    · omega
    · rename_i z
      have z' : y.natAbs ≠ 0 := by simpa using z
      have := (Nat.log2_lt z').mpr h
      omega
  simp only [Bool.and_eq_false_iff, decide_eq_false_iff_not]
  left
  omega
theorem low_num {p q s : Int} (hq : q ≠ 0) (hs : s = (if q < 0 then -((Nat.gcd p.natAbs q.natAbs : Nat) : Int) else ((Nat.gcd p.natAbs q.natAbs : Nat) : Int))) : p.fdiv s = (Rat.divInt p q).num ∧ q.fdiv s = ((Rat.divInt p q).den : Int) := by
  have hg : (Nat.gcd p.natAbs q.natAbs) ≠ 0 := by
    intro z
    have := Nat.gcd_eq_zero_iff.mp z
    omega
  rw [Rat.num_divInt, Rat.den_divInt, if_neg hq]
  have e : Int.gcd q p = Nat.gcd p.natAbs q.natAbs := by rw [Int.gcd_comm]; rfl
  rw [e]
  generalize hgg : Nat.gcd p.natAbs q.natAbs = g at *
  have dp : (g : Int) ∣ p := by rw [← hgg]; exact Int.ofNat_dvd_left.mpr (Nat.gcd_dvd_left _ _)
  have dq : (g : Int) ∣ q := by rw [← hgg]; exact Int.ofNat_dvd_left.mpr (Nat.gcd_dvd_right _ _)
  obtain ⟨c, rfl⟩ := dp
  obtain ⟨d, rfl⟩ := dq
  have g0 : (g : Int) ≠ 0 := by omega
  by_cases h : (g : Int) * d < 0
  · rw [if_pos h] at hs
    subst hs
    have sg : ((g : Int) * d).sign = -1 := Int.sign_eq_neg_one_of_neg h
    have dneg : d < 0 := by
      rcases Int.lt_or_le d 0 with z | z
      · exact z
      · exact absurd h (Int.not_lt.mpr (show (0 : Int) ≤ (g : Int) * d from Int.mul_nonneg (by omega) z))
    refine ⟨?_, ?_⟩
    · rw [sg, show (g : Int) * c = -(g : Int) * (-c) by rw [Int.neg_mul_neg], Int.mul_fdiv_cancel_left _ (by omega)]
      rw [show (-1 : Int) * (-(g : Int) * -c) = g * (-c) by rw [Int.neg_mul_neg, Int.neg_mul, Int.one_mul, Int.mul_neg], Int.mul_ediv_cancel_left _ g0]
    · rw [show (g : Int) * d = -(g : Int) * (-d) by rw [Int.neg_mul_neg], Int.mul_fdiv_cancel_left _ (by omega)]
      rw [Int.neg_mul_neg, Int.natAbs_mul, Int.natAbs_natCast, Nat.mul_div_cancel_left _ (by omega)]
      omega
  · rw [if_neg h] at hs
    subst hs
    have dpos : 0 < d := by
      rcases Int.lt_or_le 0 d with z | z
      · exact z
      · rcases Int.lt_or_eq_of_le z with z | z
        · exact absurd (Int.mul_neg_of_pos_of_neg (by omega) z) h
        · subst z; exact absurd (Int.mul_zero _) hq
    have sg : ((g : Int) * d).sign = 1 := Int.sign_eq_one_of_pos (Int.mul_pos (by omega) dpos)
    refine ⟨?_, ?_⟩
    · rw [sg, Int.mul_fdiv_cancel_left _ g0, Int.one_mul, Int.mul_ediv_cancel_left _ g0]
    · rw [Int.mul_fdiv_cancel_left _ g0, Int.natAbs_mul, Int.natAbs_natCast, Nat.mul_div_cancel_left _ (by omega)]
      omega
end PD
namespace K03
open PySem PD L2 FR
theorem lowest_ok {p q : Int} (hq : q ≠ 0) (hb : q.natAbs < 2 ^ 9000) : f_lowest [.fz (.int p), .fz (.int q)] = .ok (frD (Rat.divInt p q)) [] := by
  obtain ⟨s, hs⟩ : ∃ s : Int, s = (if q < 0 then -((Nat.gcd p.natAbs q.natAbs : Nat) : Int) else ((Nat.gcd p.natAbs q.natAbs : Nat) : Int)) := ⟨_, rfl⟩
  have hg : Nat.gcd p.natAbs q.natAbs ≠ 0 := by
    intro z
    have := Nat.gcd_eq_zero_iff.mp z
    omega
  have s0 : s ≠ 0 := by
    rw [hs]; split <;> omega
  have sb : s.natAbs < 2 ^ 9000 := by
    have h1 : Nat.gcd p.natAbs q.natAbs ≤ q.natAbs := Nat.gcd_le_right _ (by omega)
    have h2 : s.natAbs = Nat.gcd p.natAbs q.natAbs := by rw [hs]; split <;> omega
    omega
  have h1 := pyl_of (x := p) sb
  have h2 := pyl_of (x := q) sb
  obtain ⟨e1, e2⟩ := low_num hq hs
  unfold frD
  rw [← e1, ← e2]
  clear e1 e2
  simp only [f_lowest, runDef, b_lowest, g_lowest, contsOf, slotsOf]
  by_cases h : q < 0
  · rw [if_pos h] at hs
    subst hs
    simp [h, bopS_fdv s0 h1, bopS_fdv s0 h2]
  · rw [if_neg h] at hs
    subst hs
    simp [h, bopS_fdv s0 h1, bopS_fdv s0 h2]
/-- sizes under which the operations work -/
abbrev NB : Nat := 1000000
theorem den_prod {x y : Rat} {N M : Nat} (hx : Sz N x) (hy : Sz M y) : ((x.den : Int) * (y.den : Int)) ≠ 0 ∧ ((x.den : Int) * (y.den : Int)).natAbs < 2 ^ 9000 := by
  refine ⟨Int.mul_ne_zero (by have := x.den_nz; omega) (by have := y.den_nz; omega), ?_⟩
  rw [Int.natAbs_mul, Int.natAbs_natCast, Int.natAbs_natCast]
  refine Nat.lt_of_lt_of_le (Nat.mul_lt_mul_of_lt_of_le hx.d (Nat.le_of_lt hy.d) (Nat.two_pow_pos _)) ?_
  rw [← Nat.pow_add]
  exact Nat.pow_le_pow_right (by decide) (by decide)
theorem add_divInt (x y : Rat) : Rat.divInt (x.num * (y.den : Int) + y.num * (x.den : Int)) ((x.den : Int) * (y.den : Int)) = x + y := by
  rw [Rat.add_def', ← Rat.divInt_ofNat, Int.natCast_mul]
theorem mul_divInt (x y : Rat) : Rat.divInt (x.num * y.num) ((x.den : Int) * (y.den : Int)) = x * y := by
  rw [Rat.mul_def', ← Rat.divInt_ofNat, Int.natCast_mul]
theorem plus_ok {x y : Rat} (hx : Sz NB x) (hy : Sz NB y) : f_plus [.fz (frD x), .fz (frD y)] = .ok (frD (x + y)) [] := by
  have m1 : mok x.num (y.den : Int) = true := mok_of hx.n (by rw [Int.natAbs_natCast]; exact hy.d) (by decide)
  have m2 : mok y.num (x.den : Int) = true := mok_of hy.n (by rw [Int.natAbs_natCast]; exact hx.d) (by decide)
  have m3 : mok (x.den : Int) (y.den : Int) = true := mok_of (by rw [Int.natAbs_natCast]; exact hx.d) (by rw [Int.natAbs_natCast]; exact hy.d) (by decide)
  obtain ⟨d0, db⟩ := den_prod hx hy
  have lo := lowest_ok (p := x.num * (y.den : Int) + y.num * (x.den : Int)) d0 db
  rw [add_divInt] at lo
  have lo' : f_lowest [.fz (.int (x.num * (y.den : Int) + y.num * (x.den : Int))), .fz (.int ((x.den : Int) * (y.den : Int)))] = .ok (.tup [.int (x + y).num, .int ((x + y).den : Int)]) [] := lo
  have cc : ∀ n : Nat, n ≠ 1 → ((n : Int) == 1) = false := fun n h => by simp; omega
  simp only [f_plus, runDef, b_plus, g_plus, contsOf, slotsOf, frD]
  by_cases h1 : x.den = 1
  · have k1 : ((x.den : Int) == 1) = true := by rw [h1]; rfl
    by_cases h2 : y.den = 1
    · have k2 : ((y.den : Int) == 1) = true := by rw [h2]; rfl
      have e : x + y = Rat.divInt (x.num + y.num) 1 := by
        rw [Rat.add_def', h1, h2]; simp [Rat.mkRat_eq_div, Rat.divInt_eq_div]
      have e1 : (x + y).num = x.num + y.num := by rw [e, Rat.num_divInt]; simp
      have e2 : (x + y).den = 1 := by rw [e, Rat.den_divInt]; simp
      simp [k1, k2, e1, e2]
    · simp [k1, cc _ h2, bopS_mul m1, bopS_mul m2, bopS_mul m3, lo']
  · simp [cc _ h1, bopS_mul m1, bopS_mul m2, bopS_mul m3, lo']
theorem minus_ok {x y : Rat} (hx : Sz NB x) (hy : Sz NB y) : f_minus [.fz (frD x), .fz (frD y)] = .ok (frD (x - y)) [] := by
  have h := plus_ok hx hy.neg
  rw [← Rat.sub_eq_add_neg] at h
  have h' : f_plus [.fz (.tup [.int x.num, .int (x.den : Int)]), .fz (.tup [.int (-y.num), .int (y.den : Int)])] = .ok (.tup [.int (x - y).num, .int ((x - y).den : Int)]) [] := h
  simp only [f_minus, runDef, b_minus, g_minus, contsOf, slotsOf, frD]
  simp [h']
theorem product_ok {x y : Rat} (hx : Sz NB x) (hy : Sz NB y) : f_product_of [.fz (frD x), .fz (frD y)] = .ok (frD (x * y)) [] := by
  have m1 : mok x.num y.num = true := mok_of hx.n hy.n (by decide)
  have m3 : mok (x.den : Int) (y.den : Int) = true := mok_of (by rw [Int.natAbs_natCast]; exact hx.d) (by rw [Int.natAbs_natCast]; exact hy.d) (by decide)
  obtain ⟨d0, db⟩ := den_prod hx hy
  have lo := lowest_ok (p := x.num * y.num) d0 db
  rw [mul_divInt] at lo
  simp only [f_product_of, runDef, b_product_of, g_product_of, contsOf, slotsOf, frD] at lo ⊢
  simp [bopS_mul m1, bopS_mul m3, lo]
theorem div_divInt {x y : Rat} (hy : y ≠ 0) : Rat.divInt (x.num * (y.den : Int)) ((x.den : Int) * y.num) = x / y := by
  have hn : y.num ≠ 0 := fun z => hy (Rat.num_eq_zero.mp z)
  rw [Rat.div_def, Rat.inv_def]
  conv => rhs; rw [← Rat.num_divInt_den x]
  rw [Rat.divInt_mul_divInt]
/-- y is not 0 -/
theorem over_ok {x y : Rat} (hx : Sz NB x) (hy : Sz NB y) (h0 : y ≠ 0) (hb : y.num.natAbs < 2 ^ 4500) : f_over [.fz (frD x), .fz (frD y)] = .ok (frD (x / y)) [] := by
  have hn : y.num ≠ 0 := fun z => h0 (Rat.num_eq_zero.mp z)
  have m1 : mok x.num (y.den : Int) = true := mok_of hx.n (by rw [Int.natAbs_natCast]; exact hy.d) (by decide)
  have m3 : mok (x.den : Int) y.num = true := mok_of (by rw [Int.natAbs_natCast]; exact hx.d) hy.n (by decide)
  have db : ((x.den : Int) * y.num).natAbs < 2 ^ 9000 := by
    rw [Int.natAbs_mul, Int.natAbs_natCast]
    refine Nat.lt_of_lt_of_le (Nat.mul_lt_mul_of_lt_of_le hx.d (Nat.le_of_lt hb) (Nat.two_pow_pos _)) ?_
    rw [← Nat.pow_add]
    exact Nat.pow_le_pow_right (by decide) (by decide)
  have lo := lowest_ok (p := x.num * (y.den : Int)) (q := (x.den : Int) * y.num) (Int.mul_ne_zero (by have := x.den_nz; omega) hn) db
  rw [div_divInt h0] at lo
  have k0 : (y.num == 0) = false := by simpa using hn
  simp only [f_over, runDef, b_over, g_over, contsOf, slotsOf, frD] at lo ⊢
  simp [k0, bopS_mul m1, bopS_mul m3, lo]
end K03

/-! F3 -/
set_option linter.all false
set_option maxRecDepth 100000
namespace FR
theorem step_half {B S : Nat} (h : S ≤ B) (h0 : S ≠ 0) : 2 * (S * (B % S)) ≤ B * S := by
  have h1 : B % S < S := Nat.mod_lt _ (by omega)
  have h2 : B % S + S ≤ B := by
    have := Nat.div_add_mod B S
    have hd : 1 ≤ B / S := (Nat.le_div_iff_mul_le (by omega)).mpr (by omega)
    have : S * 1 ≤ S * (B / S) := Nat.mul_le_mul_left _ hd
    omega
  have h3 : 2 * (B % S) ≤ B := by omega
  calc 2 * (S * (B % S)) = S * (2 * (B % S)) := by rw [Nat.mul_left_comm]
    _ ≤ S * B := Nat.mul_le_mul_left _ h3
    _ = B * S := Nat.mul_comm _ _
theorem bits_lt (z : Int) : z.natAbs < 2 ^ (PySem.Builtin.Int.intBits z) := by
  unfold PySem.Builtin.Int.intBits
  split
  · rename_i h
    have : z = 0 := by simpa using h
    subst this
    decide
  · rename_i h
    exact Nat.lt_log2_self
theorem bits_le {z : Int} {N : Nat} (h : z.natAbs < 2 ^ N) : PySem.Builtin.Int.intBits z ≤ N := by
  unfold PySem.Builtin.Int.intBits
  split
  · omega
  · rename_i hz
    have hz' : z.natAbs ≠ 0 := by simpa using hz
    have := (Nat.log2_lt hz').mpr h
    omega
end FR
namespace K03
open PySem PD L2 FR
/-- what holds before turn i of Euclid's loop -/
def GInv (a b : Nat) (i : Nat) (ρ : Slots) (st : Store) : Prop := st = [] ∧ ∃ (B S : Nat) (x y t r : Option Val), ρ = [x, y, some (.fz (.int (B : Int))), some (.fz (.int (S : Int))), t, r] ∧ Nat.gcd B S = Nat.gcd a b ∧
  (i = 0 → B = a ∧ S = b) ∧ (i ≠ 0 → S < B ∧ B * S * 2 ^ (i - 1) ≤ a * b)
theorem gcd_turn {G : Gam} {a b i n : Nat} {ρ : Slots} {st : Store} (h : GInv a b i ρ st) :
    (∃ ρ' st', fBody G (.nm 4) lp0_law_gcd (.int ((0 : Int) + i)) ρ st = .nx ρ' st' ∧ GInv a b (i + 1) ρ' st') ∨ (fBody G (.nm 4) lp0_law_gcd (.int ((0 : Int) + i)) ρ st = .rt (.int ((Nat.gcd a b : Nat) : Int)) []) := by
  obtain ⟨rfl, B, S, x, y, t, r, rfl, hg, h0, h1⟩ := h
  by_cases hS : S = 0
  · right
    subst hS
    have : B = Nat.gcd a b := by rw [← hg]; simp
    subst this
    simp [lp0_law_gcd]
  · left
    have k0 : ((S : Int) == 0) = false := by simp; omega
    have sn : (S : Int) ≠ 0 := by omega
    refine ⟨[x, y, some (.fz (.int (S : Int))), some (.fz (.int ((B % S : Nat) : Int))), some (.fz (.int ((0 : Int) + i))), some (.fz (.int ((B % S : Nat) : Int)))], [], ?_, rfl, S, B % S, _, _, _, _, rfl, ?_, ?_, ?_⟩
    · have e : (B : Int).fmod (S : Int) = ((B % S : Nat) : Int) := by
        rw [Int.fmod_eq_emod_of_nonneg _ (by omega)]; rfl
      simp [lp0_law_gcd, k0, bopS_mod sn, e]
    · rw [← hg, Nat.gcd_comm B S, Nat.gcd_rec S B, Nat.gcd_comm]
    · intro z; omega
    · intro _
      have hm : B % S < S := Nat.mod_lt _ (by omega)
      refine ⟨hm, ?_⟩
      rw [Nat.add_sub_cancel]
      by_cases hi : i = 0
      · obtain ⟨rfl, rfl⟩ := h0 hi
        subst hi
        rw [Nat.pow_zero, Nat.mul_one]
        calc S * (B % S) ≤ S * B := Nat.mul_le_mul_left _ (Nat.mod_le _ _)
          _ = B * S := Nat.mul_comm _ _
      · obtain ⟨h2, h3⟩ := h1 hi
        have hh := step_half (B := B) (S := S) (by omega) hS
        have e : 2 ^ i = 2 * 2 ^ (i - 1) := by
          rw [show i = (i - 1) + 1 by omega, Nat.pow_succ]; simp; rw [Nat.mul_comm]
        rw [e]
        calc S * (B % S) * (2 * 2 ^ (i - 1)) = 2 * (S * (B % S)) * 2 ^ (i - 1) := by
              rw [← Nat.mul_assoc, Nat.mul_comm (S * (B % S)) 2]
          _ ≤ B * S * 2 ^ (i - 1) := Nat.mul_le_mul_right _ hh
          _ ≤ a * b := h3
theorem gcd_ok {a b : Int} (ba : Builtin.Int.intBits a ≤ 4000000) (bb : Builtin.Int.intBits b ≤ 4000000) : f_law_gcd [.fz (.int a), .fz (.int b)] = .ok (.int ((Nat.gcd a.natAbs b.natAbs : Nat) : Int)) [] := by
  have abs : ∀ z : Int, (if z < 0 then -z else z) = ((z.natAbs : Nat) : Int) := fun z => by split <;> omega
  have bitsAbs : ∀ z : Int, Builtin.Int.intBits ((z.natAbs : Nat) : Int) = Builtin.Int.intBits z := fun z => by
    unfold Builtin.Int.intBits
    simp
  generalize hA : Builtin.Int.intBits a = A at *
  generalize hB : Builtin.Int.intBits b = Bb at *
  have m1 : mok 2 (A : Int) = true := by
    refine mok_of (N := 2) (M := 30) (by decide) ?_ (by decide)
    rw [Int.natAbs_natCast]
    exact Nat.lt_of_le_of_lt ba (show 4000000 < 2 ^ 30 by decide)
  have m2 : mok 2 (Bb : Int) = true := by
    refine mok_of (N := 2) (M := 30) (by decide) ?_ (by decide)
    rw [Int.natAbs_natCast]
    exact Nat.lt_of_le_of_lt bb (show 4000000 < 2 ^ 30 by decide)
  have r1 : rngOk 0 = true := by decide
  have r2 : rngOk (2 * (A : Int) + 2 * (Bb : Int) + 10) = true := by
    unfold rngOk
    simp
    omega
  obtain ⟨n, hn0⟩ : ∃ n, n = 2 * A + 2 * Bb + 10 := ⟨_, rfl⟩
  have hn : (2 * (A : Int) + 2 * (Bb : Int) + 10).toNat = n := by omega
  have start : GInv a.natAbs b.natAbs 0 [some (.fz (.int a)), some (.fz (.int b)), some (.fz (.int (a.natAbs : Int))), some (.fz (.int (b.natAbs : Int))), none, none] [] :=
    ⟨rfl, _, _, _, _, _, _, rfl, rfl, fun _ => ⟨rfl, rfl⟩, fun z => absurd rfl z⟩
  obtain ⟨G, hG⟩ : ∃ G : Gam, G = { md.gam g_law_gcd with io := 0 } := ⟨_, rfl⟩
  have loop := for_out (I := .rng 0 n) (body := fBody G (.nm 4) lp0_law_gcd) (n := n) (GInv a.natAbs b.natAbs) (fun r => r = .rt (.int ((Nat.gcd a.natAbs b.natAbs : Nat) : Int)) []) (fun i ρ st _ _ => rfl)
    (fun i ρ st hi h => ⟨_, rfl, by
      rcases gcd_turn (G := G) (n := 0) h with ⟨ρ', st', e, k⟩ | e
      · exact .inl ⟨ρ', st', .inl e, k⟩
      · exact .inr ⟨⟨_, _, e⟩, e⟩⟩) n 0 _ _ (by omega) start
  have fin : ∀ {ρ' : Slots} {st' : Store}, GInv a.natAbs b.natAbs n ρ' st' → st' = [] ∧ ρ'[2]? = some (some (.fz (.int ((Nat.gcd a.natAbs b.natAbs : Nat) : Int)))) := fun {ρ' st'} h => by
    obtain ⟨e, B, S, x, y, t, r, rfl, hg, _, h1⟩ := h
    obtain ⟨h2, h3⟩ := h1 (by omega)
    have hS : S = 0 := by
      rcases Nat.eq_zero_or_pos S with z | z
      · exact z
      · exfalso
        have p1 : a.natAbs * b.natAbs < 2 ^ A * 2 ^ Bb := by
          have q1 := bits_lt a
          have q2 := bits_lt b
          rw [hA] at q1
          rw [hB] at q2
          exact Nat.mul_lt_mul_of_lt_of_le q1 (Nat.le_of_lt q2) (Nat.two_pow_pos _)
        rw [← Nat.pow_add] at p1
        have p2 : 2 ^ (A + Bb) ≤ 2 ^ (n - 1) := Nat.pow_le_pow_right (by decide) (by omega)
        have p3 : 1 * 2 ^ (n - 1) ≤ B * S * 2 ^ (n - 1) := Nat.mul_le_mul_right _ (Nat.mul_pos (by omega) z)
        omega
    subst hS
    refine ⟨e, ?_⟩
    rw [← hg]
    simp
  simp only [f_law_gcd, runDef, b_law_gcd, contsOf, slotsOf]
  have eG : ({ md.gam g_law_gcd with io := ([] : List Cont).length } : Gam) = G := by rw [hG]; rfl
  rw [eG]
  rcases loop with ⟨ρ', st', e, k⟩ | e
  · obtain ⟨e1, e2⟩ := fin k
    simp [abs, bitsAbs, hA, hB, bopS_mul m1, bopS_mul m2, kRng_eq r1 r2, hn, e, e1, ev_var e2]

  · simp [abs, bitsAbs, hA, hB, bopS_mul m1, bopS_mul m2, kRng_eq r1 r2, hn, e]
end K03

/-! F4 -/
set_option linter.all false
set_option maxRecDepth 100000
namespace K03
open PySem PD L2 FR
theorem bits_of {z : Int} {N : Nat} (h : z.natAbs < 2 ^ N) (l : N ≤ 4000000) : Builtin.Int.intBits z ≤ 4000000 := Nat.le_trans (bits_le h) l
theorem frac_pos {p q : Int} (hq : 0 < q) (bp : Builtin.Int.intBits p ≤ 4000000) (hb : q.natAbs < 2 ^ 9000) :
    f_law_gcd [.fz (.int p), .fz (.int q)] = .ok (.int ((Nat.gcd p.natAbs q.natAbs : Nat) : Int)) [] ∧ ((Nat.gcd p.natAbs q.natAbs : Nat) : Int) ≠ 0 ∧
    bopS .fdv (.int p) (.int ((Nat.gcd p.natAbs q.natAbs : Nat) : Int)) = .d (.int (Rat.divInt p q).num) ∧ bopS .fdv (.int q) (.int ((Nat.gcd p.natAbs q.natAbs : Nat) : Int)) = .d (.int ((Rat.divInt p q).den : Int)) := by
  have hg : Nat.gcd p.natAbs q.natAbs ≠ 0 := by
    intro z
    have := Nat.gcd_eq_zero_iff.mp z
    omega
  have g0 : ((Nat.gcd p.natAbs q.natAbs : Nat) : Int) ≠ 0 := by omega
  have sb : ((Nat.gcd p.natAbs q.natAbs : Nat) : Int).natAbs < 2 ^ 9000 := by
    rw [Int.natAbs_natCast]
    exact Nat.lt_of_le_of_lt (Nat.gcd_le_right _ (by omega)) hb
  obtain ⟨e1, e2⟩ := low_num (p := p) (q := q) (s := ((Nat.gcd p.natAbs q.natAbs : Nat) : Int)) (by omega) (by rw [if_neg (by omega)])
  exact ⟨gcd_ok bp (bits_of hb (by decide)), g0, by rw [bopS_fdv g0 (pyl_of sb), e1], by rw [bopS_fdv g0 (pyl_of sb), e2]⟩
theorem frac_ok {p q : Int} (hq : q ≠ 0) (bp : Builtin.Int.intBits p ≤ 4000000) (hb : q.natAbs < 2 ^ 9000) : f_law_frac [.fz (.int p), .fz (.int q)] = .ok (frD (Rat.divInt p q)) [] := by
  simp only [f_law_frac, runDef, b_law_frac, g_law_frac, contsOf, slotsOf, frD]
  by_cases h : q < 0
  · have bp' : Builtin.Int.intBits (-p) ≤ 4000000 := by
      have e : Builtin.Int.intBits (-p) = Builtin.Int.intBits p := by unfold Builtin.Int.intBits; simp
      rw [e]; exact bp
    obtain ⟨e1, e2, e3, e4⟩ := frac_pos (p := -p) (q := -q) (by omega) bp' (by rw [Int.natAbs_neg]; exact hb)
    rw [Rat.neg_divInt_neg] at e3 e4
    rw [Int.natAbs_neg, Int.natAbs_neg] at e1 e3 e4
    simp [h, e1, e3, e4]
  · obtain ⟨e1, e2, e3, e4⟩ := frac_pos (p := p) (q := q) (by omega) bp hb
    simp [h, e1, e3, e4]
theorem ladd_ok {x y : Rat} (hx : Sz NB x) (hy : Sz NB y) : f_law_add [.fz (frD x), .fz (frD y)] = .ok (frD (x + y)) [] := by
  have m1 : mok x.num (y.den : Int) = true := mok_of hx.n (by rw [Int.natAbs_natCast]; exact hy.d) (by decide)
  have m2 : mok y.num (x.den : Int) = true := mok_of hy.n (by rw [Int.natAbs_natCast]; exact hx.d) (by decide)
  have m3 : mok (x.den : Int) (y.den : Int) = true := mok_of (by rw [Int.natAbs_natCast]; exact hx.d) (by rw [Int.natAbs_natCast]; exact hy.d) (by decide)
  obtain ⟨d0, db⟩ := den_prod hx hy
  have nb : (x.num * (y.den : Int) + y.num * (x.den : Int)).natAbs < 2 ^ (NB + 4401) := by
    have h1 : (x.num * (y.den : Int)).natAbs < 2 ^ (NB + 4400) := by
      rw [Int.natAbs_mul, Int.natAbs_natCast, Nat.pow_add]
      exact Nat.mul_lt_mul_of_lt_of_le hx.n (Nat.le_of_lt hy.d) (Nat.two_pow_pos _)
    have h2 : (y.num * (x.den : Int)).natAbs < 2 ^ (NB + 4400) := by
      rw [Int.natAbs_mul, Int.natAbs_natCast, Nat.pow_add]
      exact Nat.mul_lt_mul_of_lt_of_le hy.n (Nat.le_of_lt hx.d) (Nat.two_pow_pos _)
    have h3 : 2 ^ (NB + 4401) = 2 ^ (NB + 4400) + 2 ^ (NB + 4400) := by
      rw [show NB + 4401 = NB + 4400 + 1 by rfl, Nat.pow_succ, Nat.mul_two]
    have h4 := Int.natAbs_add_le (x.num * (y.den : Int)) (y.num * (x.den : Int))
    rw [h3]
    exact Nat.lt_of_le_of_lt h4 (Nat.add_lt_add h1 h2)
  have lo := frac_ok (p := x.num * (y.den : Int) + y.num * (x.den : Int)) d0 (bits_of nb (by decide)) db
  rw [add_divInt] at lo
  simp only [f_law_add, runDef, b_law_add, g_law_add, contsOf, slotsOf, frD] at lo ⊢
  simp [bopS_mul m1, bopS_mul m2, bopS_mul m3, lo]
theorem lmul_ok {x y : Rat} (hx : Sz NB x) (hy : Sz NB y) : f_law_mul [.fz (frD x), .fz (frD y)] = .ok (frD (x * y)) [] := by
  have m1 : mok x.num y.num = true := mok_of hx.n hy.n (by decide)
  have m3 : mok (x.den : Int) (y.den : Int) = true := mok_of (by rw [Int.natAbs_natCast]; exact hx.d) (by rw [Int.natAbs_natCast]; exact hy.d) (by decide)
  obtain ⟨d0, db⟩ := den_prod hx hy
  have nb : (x.num * y.num).natAbs < 2 ^ (NB + NB) := by
    rw [Int.natAbs_mul, Nat.pow_add]
    by_cases z : y.num.natAbs = 0
    · rw [z, Nat.mul_zero, ← Nat.pow_add]; exact Nat.two_pow_pos _
    · exact Nat.mul_lt_mul_of_lt_of_le hx.n (Nat.le_of_lt hy.n) (Nat.two_pow_pos _)
  have lo := frac_ok (p := x.num * y.num) d0 (bits_of nb (by decide)) db
  rw [mul_divInt] at lo
  simp only [f_law_mul, runDef, b_law_mul, g_law_mul, contsOf, slotsOf, frD] at lo ⊢
  simp [bopS_mul m1, bopS_mul m3, lo]
theorem ldiv_ok {x y : Rat} (hx : Sz NB x) (hy : Sz NB y) (h0 : y ≠ 0) (hb : y.num.natAbs < 2 ^ 4500) : f_law_div [.fz (frD x), .fz (frD y)] = .ok (frD (x / y)) [] := by
  have hn : y.num ≠ 0 := fun z => h0 (Rat.num_eq_zero.mp z)
  have m1 : mok x.num (y.den : Int) = true := mok_of hx.n (by rw [Int.natAbs_natCast]; exact hy.d) (by decide)
  have m3 : mok (x.den : Int) y.num = true := mok_of (by rw [Int.natAbs_natCast]; exact hx.d) hy.n (by decide)
  have db : ((x.den : Int) * y.num).natAbs < 2 ^ 9000 := by
    rw [Int.natAbs_mul, Int.natAbs_natCast]
    refine Nat.lt_of_lt_of_le (Nat.mul_lt_mul_of_lt_of_le hx.d (Nat.le_of_lt hb) (Nat.two_pow_pos _)) ?_
    rw [← Nat.pow_add]
    exact Nat.pow_le_pow_right (by decide) (by decide)
  have nb : (x.num * (y.den : Int)).natAbs < 2 ^ (NB + 4400) := by
    rw [Int.natAbs_mul, Int.natAbs_natCast, Nat.pow_add]
    exact Nat.mul_lt_mul_of_lt_of_le hx.n (Nat.le_of_lt hy.d) (Nat.two_pow_pos _)
  have lo := frac_ok (p := x.num * (y.den : Int)) (q := (x.den : Int) * y.num) (Int.mul_ne_zero (by have := x.den_nz; omega) hn) (bits_of nb (by decide)) db
  rw [div_divInt h0] at lo
  simp only [f_law_div, runDef, b_law_div, g_law_div, contsOf, slotsOf, frD] at lo ⊢
  simp [bopS_mul m1, bopS_mul m3, lo]
/-! ### what is a fraction, a row -/
end K03

/-! F5 -/
set_option linter.all false
set_option maxRecDepth 100000
namespace K03
open PySem PD L2 FR
@[simp] theorem whole_int {i : Int} : f_law_whole [.fz (.int i)] = .ok (.bl true) [] := by
  simp only [f_law_whole, runDef, b_law_whole, g_law_whole, contsOf, slotsOf]
  simp
theorem isfrac_ok {x : Rat} {N : Nat} (hx : Sz N x) (hN : N ≤ 4000000) : f_law_is_frac [.fz (frD x)] = .ok (.bl true) [] := by
  have bn := bits_of hx.n hN
  have bd : Builtin.Int.intBits (x.den : Int) ≤ 4000000 := bits_of (z := (x.den : Int)) (N := 4400) (by rw [Int.natAbs_natCast]; exact hx.d) (by decide)
  have g := gcd_ok bn bd
  have red : Nat.gcd x.num.natAbs (x.den : Int).natAbs = 1 := by rw [Int.natAbs_natCast]; exact x.reduced
  rw [red] at g
  have pos : (1 : Int) ≤ (x.den : Int) := by have := x.den_pos; omega
  simp only [f_law_is_frac, runDef, b_law_is_frac, g_law_is_frac, contsOf, slotsOf, frD]
  simp [g, pos]
/-- a row of fractions -/
def rowD (xs : List Rat) : D := .tup (xs.map frD)
theorem isrow_ok {xs : List Rat} {N : Nat} (hx : ∀ x ∈ xs, Sz N x) (hN : N ≤ 4000000) : f_law_is_row [.fz (rowD xs)] = .ok (.bl true) [] := by
  simp only [f_law_is_row, runDef, b_law_is_row, contsOf, slotsOf, rowD]
  obtain ⟨G, hG⟩ : ∃ G : Gam, G = { md.gam g_law_is_row with io := ([] : List Cont).length } := ⟨_, rfl⟩
  have fns : G.fns = g_law_is_row := by rw [hG]; rfl
  have io : G.io = 0 := by rw [hG]; rfl
  rw [← hG]
  have loop := for_all (I := .tup (xs.map frD)) (body := fBody G (.nm 1) lp0_law_is_row) (n := (xs.map frD).length) (fun i ρ st => st = [] ∧ ∃ t, ρ = [some (.fz (.tup (xs.map frD))), t]) (fun i ρ st _ _ => rfl)
    (fun i ρ st hi ⟨h1, t, h2⟩ => by
      subst h1 h2
      rw [List.length_map] at hi
      refine ⟨frD xs[i], by simp [hi], [some (.fz (.tup (xs.map frD))), some (.fz (frD xs[i]))], [], .inl ?_, rfl, _, rfl⟩
      have h := isfrac_ok (hx xs[i] (List.getElem_mem hi)) hN
      simp [lp0_law_is_row, fns, io, g_law_is_row, h]) (xs.map frD).length 0 [some (.fz (.tup (xs.map frD))), none] [] (by omega) ⟨rfl, _, rfl⟩
  obtain ⟨ρ', st', e, rfl, t, rfl⟩ := loop
  rw [List.length_map] at e
  simp [e, List.length_map]
end K03

/-! F6 -/
set_option linter.all false
set_option maxRecDepth 100000
namespace PD
open PySem L2 FR
def frP (x : Rat) : PyData := .tuple [.int x.num, .int (x.den : Int)]
theorem pyOf_fr (x : Rat) : pyOf (frD x) = some (frP x) := rfl
theorem pyOfs_fr : ∀ xs : List Rat, pyOfs (xs.map frD) = some (xs.map frP)
  | [] => rfl
  | x :: xs => by
    show (match pyOf (frD x) with
      | some p => (match pyOfs (xs.map frD) with
        | some ps => some (p :: ps)
        | none => none)
      | none => none) = _
    rw [pyOf_fr, pyOfs_fr xs]
    rfl
theorem eqv_fr (x y : Rat) : PyData.eqv (frP x) (frP y) = decide (x = y) := by
  have e : PyData.eqv (frP x) (frP y) = (x.num == y.num && ((x.den : Int) == (y.den : Int) && true)) := by
    simp [frP, PyData.eqv, PyData.eqvAll]
  rw [e]
  by_cases h : x = y
  · subst h; simp
  · rw [decide_eq_false h]
    rw [Bool.and_true, Bool.and_eq_false_iff]
    by_cases h1 : x.num = y.num
    · right
      have h2 : x.den ≠ y.den := fun z => h (Rat.ext h1 z)
      simp; omega
    · left; simpa using h1
theorem eqvAll_fr : ∀ xs ys : List Rat, PyData.eqvAll (xs.map frP) (ys.map frP) = decide (xs = ys)
  | [], [] => by simp [PyData.eqvAll]
  | [], _ :: _ => by simp [PyData.eqvAll]
  | _ :: _, [] => by simp [PyData.eqvAll]
  | x :: xs, y :: ys => by
    have e : PyData.eqvAll ((x :: xs).map frP) ((y :: ys).map frP) = (PyData.eqv (frP x) (frP y) && PyData.eqvAll (xs.map frP) (ys.map frP)) := by
      simp [PyData.eqvAll]
    rw [e, eqv_fr, eqvAll_fr xs ys]
    by_cases h1 : x = y <;> by_cases h2 : xs = ys <;> simp [h1, h2]
theorem lay_fr (x : Rat) : PyData.canLay0 (frP x) = true := by simp [frP, PyData.canLay0, PyData.canLayAll0]
theorem layAll_fr : ∀ xs : List Rat, PyData.canLayAll0 (xs.map frP) = true
  | [] => by simp [PyData.canLayAll0]
  | x :: xs => by simp [PyData.canLayAll0, lay_fr, layAll_fr xs]
theorem depth_fr (x : Rat) : PyData.depth (frP x) = 1 := by simp [frP, PyData.depth, PyData.depthAll]
theorem depthAll_fr : ∀ xs : List Rat, PyData.depthAll (xs.map frP) ≤ 1
  | [] => by simp [PyData.depthAll]
  | x :: xs => by
    have := depthAll_fr xs
    simp [PyData.depthAll, depth_fr]
    omega
theorem shaped_fr (x : Rat) : SeqAt.shaped (frP x) = true := by
  unfold SeqAt.shaped
  rw [lay_fr, depth_fr]
  rfl
theorem shaped_row (xs : List Rat) : SeqAt.shaped (.tuple (xs.map frP)) = true := by
  unfold SeqAt.shaped
  have h1 : PyData.canLay0 (.tuple (xs.map frP)) = true := by rw [PyData.canLay0]; exact layAll_fr xs
  have h2 : PyData.depth (.tuple (xs.map frP)) ≤ 64 := by
    rw [PyData.depth]
    have := depthAll_fr xs
    omega
  rw [h1, decide_eq_true h2]
  rfl
@[simp] theorem eqS_fr (x y : Rat) : eqS (frD x) (frD y) = some (decide (x = y)) := by
  show (match pyOf (frD x), pyOf (frD y) with
    | some p, some q => if SeqAt.shaped p && SeqAt.shaped q then some (PyData.eqv p q) else none
    | _, _ => none) = _
  rw [pyOf_fr, pyOf_fr]
  simp only [shaped_fr, Bool.and_self, if_true, eqv_fr]
theorem eqS_row (xs ys : List Rat) : eqS (.tup (xs.map frD)) (.tup (ys.map frD)) = some (decide (xs = ys)) := by
  have e : ∀ xs : List Rat, pyOf (.tup (xs.map frD)) = some (.tuple (xs.map frP)) := fun xs => by
    show (match pyOfs (xs.map frD) with
      | some ps => some (PyData.tuple ps)
      | none => none) = _
    rw [pyOfs_fr]
  show (match pyOf (.tup (xs.map frD)), pyOf (.tup (ys.map frD)) with
    | some p, some q => if SeqAt.shaped p && SeqAt.shaped q then some (PyData.eqv p q) else none
    | _, _ => none) = _
  rw [e, e]
  simp only [shaped_row, Bool.and_self, if_true]
  rw [PyData.eqv, eqvAll_fr]
end PD
namespace K03
open PySem PD L2 FR
/-- what is told is what is due -/
theorem istold_ok {xs : List Rat} {N : Nat} {due : D} (hd : due = .lst (xs.map frD) ∨ due = .tup (xs.map frD)) (hx : ∀ x ∈ xs, Sz N x) (hN : N ≤ 4000000) : f_law_is_told [.fz (.tup [.str "told", rowD xs]), .fz due] = .ok (.bl true) [] := by
  have h := isrow_ok hx hN
  unfold rowD at h ⊢
  simp only [f_law_is_told, runDef, b_law_is_told, g_law_is_told, contsOf, slotsOf]
  have e := eqS_row xs xs
  rcases hd with rfl | rfl <;> simp [h, e]
theorem refused_ok {w : Str} : f_law_refused [.fz (.tup [.str w, .bl true]), .fz (.str w)] = .ok (.bl true) [] := by
  simp only [f_law_refused, runDef, b_law_refused, g_law_refused, contsOf, slotsOf]
  have e : isS (.bl true) (.bl true) = some true := rfl
  simp [e]
end K03

/-! F7 -/
set_option linter.all false
set_option maxRecDepth 100000
namespace K03
open PySem PD L2 FR
theorem con0 : (md.con.map (·.2))[0]? = some (frD 0) := by rfl
theorem con1 : (md.con.map (·.2))[1]? = some (frD 1) := by rfl
theorem con2 : (md.con.map (·.2))[2]? = some (.int 40) := by rfl
theorem frD_nat (k : Nat) : frD (k : Rat) = .tup [.int (k : Int), .int 1] := by
  unfold frD
  rw [Rat.num_natCast, Rat.den_natCast]
  rfl
theorem sz_nat {k : Nat} (h : k < 2 ^ 60) : Sz 60 (k : Rat) := ⟨by rw [Rat.num_natCast, Int.natAbs_natCast]; exact h, by rw [Rat.den_natCast]; exact Nat.one_lt_two_pow (by decide)⟩
/-- the first n numbers of a sequence -/
def seqL (f : Nat → Rat) (n : Nat) : List D := (List.range n).map fun i => frD (f i)
theorem seqL_succ (f : Nat → Rat) (n : Nat) : seqL f (n + 1) = seqL f n ++ [frD (f n)] := by
  unfold seqL
  rw [List.range_succ, List.map_append]
  rfl
@[simp] theorem seqL_length (f : Nat → Rat) (n : Nat) : (seqL f n).length = n := by simp [seqL]
theorem seqL_get (f : Nat → Rat) {n i : Nat} (h : i < n) : (seqL f n)[i]? = some (frD (f i)) := by
  simp [seqL, h]
theorem seqL_row (f : Nat → Rat) (n : Nat) : D.tup (seqL f n) = rowD ((List.range n).map f) := by
  simp [seqL, rowD, Function.comp_def]
theorem idx_seq (f : Nat → Rat) {n i : Nat} {j : Int} (hj : j = i) (h : i < n) : idxS (.lst (seqL f n)) (.int j) = some (frD (f i)) := by
  have h1 := idx_lst (ds := seqL f n) (k := i) hj (by simpa using h)
  rw [h1]
  have h2 := seqL_get f h
  rw [List.getElem?_eq_getElem (by simpa using h)] at h2
  exact h2
theorem idx_row (f : Nat → Rat) {n i : Nat} {j : Int} (hj : j = i) (h : i < n) : idxS (.tup (seqL f n)) (.int j) = some (frD (f i)) := by
  have h1 := idx_tup (ds := seqL f n) (k := i) hj (by simpa using h)
  rw [h1]
  have h2 := seqL_get f h
  rw [List.getElem?_eq_getElem (by simpa using h)] at h2
  exact h2
theorem powers_ok {t : Rat} {n : Nat} (hn : n < 1000) (ht : Sz NB t) (h1 : ∀ k ≤ n, Sz NB (expS t k)) (h2 : ∀ k ≤ n, Sz NB (expS t k * t)) : f_powers_series [.fz (frD t), .fz (.int n)] = .ok (.tup (seqL (expS t) (n + 1))) [] := by
  rw [show f_powers_series = runDef (md.gam g_powers_series) ⟨4, b_powers_series⟩ from rfl, runDef_eq]
  simp only [b_powers_series, contsOf, slotsOf]
  obtain ⟨G, hG⟩ : ∃ G : Gam, G = { md.gam g_powers_series with io := ([] : List Cont).length } := ⟨_, rfl⟩
  have fns : G.fns = g_powers_series := by rw [hG]; rfl
  have io : G.io = 0 := by rw [hG]; rfl
  have con : G.con = md.con.map (·.2) := by rw [hG]; rfl
  rw [← hG]
  have loop := for_all (I := .rng 1 n) (body := fBody G (.nm 3) lp0_powers_series) (n := n) (fun i ρ st => st = [.lst (seqL (expS t) (i + 1))] ∧ ∃ x, ρ = [some (.fz (frD t)), some (.fz (.int n)), some (.loc 0), x]) (fun i ρ st _ _ => rfl)
    (fun i ρ st hi ⟨e1, x, e2⟩ => by
      subst e1 e2
      refine ⟨.int (1 + i), rfl, [some (.fz (frD t)), some (.fz (.int n)), some (.loc 0), some (.fz (.int (1 + i)))], [.lst (seqL (expS t) (i + 2))], .inl ?_, rfl, _, rfl⟩
      have ix : idxS (.lst (seqL (expS t) (i + 1))) (.int (1 + (i : Int) - 1)) = some (frD (expS t i)) := idx_seq _ (by omega) (by omega)
      have p := product_ok (h1 i (by omega)) ht
      have k0 : ((i + 1 : Nat) : Rat) ≠ 0 := by
        intro z
        have := congrArg Rat.num z
        rw [Rat.num_natCast] at this
        have : ((i + 1 : Nat) : Int) = 0 := this
        omega
      have sz := sz_nat (k := i + 1) (by omega)
      have o := over_ok (h2 i (by omega)) (sz.mono (by decide)) k0 (Nat.lt_of_lt_of_le sz.n (Nat.pow_le_pow_right (by decide) (by decide)))
      rw [frD_nat] at o
      have o' : f_over [.fz (frD (expS t i * t)), .fz (.tup [.int (1 + (i : Int)), .int 1])] = .ok (frD (expS t (i + 1))) [] := by
        rw [show (1 + (i : Int)) = ((i + 1 : Nat) : Int) by omega]
        exact o
      simp only [fBody_nm, lp0_powers_series]
      rw [exs_cons, ex_app (n := 0) (ds := seqL (expS t) (i + 1)) (by rfl) (by rfl)]
      simp [fns, io, g_powers_series, ix, p, o']
      rw [kApp2_eq (ds := seqL (expS t) (i + 1)) (by rfl) (by rw [seqL_length]; unfold LIM; omega)]
      simp [← seqL_succ]) n 0 [some (.fz (frD t)), some (.fz (.int n)), some (.loc 0), none] [.lst (seqL (expS t) 1)] (by omega) ⟨rfl, _, rfl⟩
  obtain ⟨ρ', st', e, rfl, x, rfl⟩ := loop
  have r1 : rngOk 1 = true := by decide
  have r2 : rngOk ((n : Int) + 1) = true := by
    unfold rngOk
    simp
    omega
  have s1 : seqL (expS t) 1 = [frD 1] := rfl
  have hb : ∀ (ρ : Slots) (st : Store), ρ[1]? = some (some (.fz (.int n))) → ev G (.bin .add (.var 1) (.lit (.int 1))) ρ st = .ok (.fz (.int (n + 1))) st := fun ρ st h => by
    simp [ev_var h]
  rw [s1] at e
  have rr := fun (ρ : Slots) (st : Store) (h : ρ[1]? = some (some (.fz (.int n)))) => kRng2_eq (G := G) (ρ := ρ) (st := st) (i := 1) (hb ρ st h) r1 r2
  have hn2 : ((n : Int) + 1 - 1).toNat = n := by omega
  have c1 : G.con[1]? = some (frD 1) := by rw [con]; rfl
  simp [c1, io]
  rw [rr _ _ (by rfl)]
  rw [hn2]
  simp [e]
end K03

/-! F8 -/
set_option linter.all false
set_option maxRecDepth 100000
namespace K03
open PySem PD L2 FR
theorem times_inner {G : Gam} (fns : G.fns = g_series_times) (io : G.io = 0) {f g : Nat → Rat} {n m k : Nat} {s r : D} {st : Store} {b : Option Val} (hs : s = .tup (seqL f n) ∨ s = .lst (seqL f n)) (hr : r = .tup (seqL g m) ∨ r = .lst (seqL g m)) (hk : k < n) (hk2 : k < m)
    (h1 : ∀ j ≤ k, Sz NB (f j)) (h2 : ∀ j ≤ k, Sz NB (g j)) (h3 : ∀ j ≤ k, Sz NB (f j * g (k - j))) (h4 : ∀ j ≤ k, Sz NB (ps (fun j => f j * g (k - j)) j)) (x : Option Val) :
    ∃ x', forLoop (.rng 0 (k + 1)) (fBody G (.nm 5) lp0_series_times) (k + 1) 0 [some (.fz s), some (.fz r), b, some (.fz (.int k)), some (.fz (frD 0)), x] st = .nx [some (.fz s), some (.fz r), b, some (.fz (.int k)), some (.fz (frD (cv f g k))), x'] st := by
  have loop := for_all (I := .rng 0 (k + 1)) (body := fBody G (.nm 5) lp0_series_times) (n := k + 1) (fun i ρ st' => st' = st ∧ ∃ x, ρ = [some (.fz s), some (.fz r), b, some (.fz (.int k)), some (.fz (frD (ps (fun j => f j * g (k - j)) i))), x]) (fun i ρ st _ _ => rfl)
    (fun i ρ st' hi ⟨e1, x, e2⟩ => by
      subst e1 e2
      refine ⟨.int (0 + i), rfl, [some (.fz s), some (.fz r), b, some (.fz (.int k)), some (.fz (frD (ps (fun j => f j * g (k - j)) (i + 1)))), some (.fz (.int (0 + i)))], _, .inl ?_, rfl, _, rfl⟩
      have i1 : idxS s (.int (0 + (i : Int))) = some (frD (f i)) := by
        rcases hs with rfl | rfl
        · exact idx_row _ (by omega) (by omega)
        · exact idx_seq _ (by omega) (by omega)
      have i2 : idxS r (.int ((k : Int) - (0 + (i : Int)))) = some (frD (g (k - i))) := by
        rcases hr with rfl | rfl
        · exact idx_row _ (by omega) (by omega)
        · exact idx_seq _ (by omega) (by omega)
      have p := product_ok (h1 i (by omega)) (h2 (k - i) (by omega))
      have q := plus_ok (h4 i (by omega)) (h3 i (by omega))
      rw [Int.zero_add] at i1 i2
      simp [lp0_series_times, fns, io, g_series_times, i1, i2, p, q, ps]) (k + 1) 0 _ st (by omega) ⟨rfl, x, rfl⟩
  obtain ⟨ρ', st', e, rfl, x', rfl⟩ := loop
  exact ⟨x', e⟩
end K03

/-! F9 -/
set_option linter.all false
set_option maxRecDepth 100000
namespace K03
open PySem PD L2 FR
/-- sizes that a product of two series wants, below n -/
structure TimesSz (f g : Nat → Rat) (n : Nat) : Prop where
  hf : ∀ j < n, Sz NB (f j)
  hg : ∀ j < n, Sz NB (g j)
  p : ∀ k < n, ∀ j ≤ k, Sz NB (f j * g (k - j))
  s : ∀ k < n, ∀ j ≤ k, Sz NB (ps (fun j => f j * g (k - j)) j)
theorem times_ok {f g : Nat → Rat} {n m : Nat} {s r : D} (hs : s = .tup (seqL f n) ∨ s = .lst (seqL f n)) (hr : r = .tup (seqL g m) ∨ r = .lst (seqL g m)) (hn : n < 1000) (hm : n ≤ m) (z : TimesSz f g n) :
    f_series_times [.fz s, .fz r] = .ok (.tup (seqL (cv f g) n)) [] := by
  rw [show f_series_times = runDef (md.gam g_series_times) ⟨6, b_series_times⟩ from rfl, runDef_eq]
  simp only [b_series_times, contsOf, slotsOf]
  obtain ⟨G, hG⟩ : ∃ G : Gam, G = { md.gam g_series_times with io := ([] : List Cont).length } := ⟨_, rfl⟩
  have fns : G.fns = g_series_times := by rw [hG]; rfl
  have io : G.io = 0 := by rw [hG]; rfl
  have c0 : G.con[0]? = some (frD 0) := by rw [hG]; rfl
  rw [← hG]
  have loop := for_all (I := .rng 0 n) (body := fBody G (.nm 3) lp1_series_times) (n := n) (fun i ρ st => st = [.lst (seqL (cv f g) i)] ∧ ∃ x y w, ρ = [some (.fz s), some (.fz r), some (.loc 0), x, y, w]) (fun i ρ st _ _ => rfl)
    (fun i ρ st hi ⟨e1, x, y, w, e2⟩ => by
      subst e1 e2
      obtain ⟨w', e⟩ := times_inner (G := G) fns io (k := i) (st := [.lst (seqL (cv f g) i)]) (b := some (.loc 0)) hs hr hi (by omega) (fun j hj => z.hf j (by omega)) (fun j hj => z.hg j (by omega)) (z.p i hi) (z.s i hi) w
      refine ⟨.int (0 + i), rfl, [some (.fz s), some (.fz r), some (.loc 0), some (.fz (.int i)), some (.fz (frD (cv f g i))), w'], [.lst (seqL (cv f g) (i + 1))], .inl ?_, rfl, _, _, _, rfl⟩
      have r1 : rngOk 0 = true := by decide
      have r2 : rngOk ((i : Int) + 1) = true := by unfold rngOk; simp; omega
      have hi2 : ((i : Int) + 1).toNat = i + 1 := by omega
      simp only [fBody_nm, lp1_series_times]
      simp [c0, kRng_eq r1 r2, hi2, e]
      rw [ex_app (n := 0) (ds := seqL (cv f g) i) (by rfl) (by rfl)]
      simp [io]
      rw [kApp2_eq (ds := seqL (cv f g) i) (by rfl) (by rw [seqL_length]; unfold LIM; omega)]
      simp [← seqL_succ]) n 0 [some (.fz s), some (.fz r), some (.loc 0), none, none, none] [.lst (seqL (cv f g) 0)] (by omega) ⟨rfl, _, _, _, rfl⟩
  obtain ⟨ρ', st', e, rfl, x, y, w, rfl⟩ := loop
  have r1 : rngOk 0 = true := by decide
  have r2 : rngOk (n : Int) = true := by unfold rngOk; simp; omega
  have s0 : seqL (cv f g) 0 = [] := rfl
  rw [s0] at e
  rcases hs with rfl | rfl <;> simp [kRng_eq r1 r2, e]
end K03

/-! F10 -/
set_option linter.all false
set_option maxRecDepth 100000
namespace K03
open PySem PD L2 FR
theorem by_inner {G : Gam} (fns : G.fns = g_law_by) (io : G.io = 0) {f g : Nat → Rat} {n m k : Nat} {s r : D} {st : Store} {b : Option Val} (hs : s = .tup (seqL f n) ∨ s = .lst (seqL f n)) (hr : r = .tup (seqL g m) ∨ r = .lst (seqL g m)) (hk : k < n) (hk2 : k < m)
    (h1 : ∀ j ≤ k, Sz NB (f j)) (h2 : ∀ j ≤ k, Sz NB (g j)) (h3 : ∀ j ≤ k, Sz NB (f j * g (k - j))) (h4 : ∀ j ≤ k, Sz NB (ps (fun j => f j * g (k - j)) j)) (x : Option Val) :
    ∃ x', forLoop (.rng 0 (k + 1)) (fBody G (.nm 5) lp0_law_by) (k + 1) 0 [some (.fz s), some (.fz r), b, some (.fz (.int k)), some (.fz (frD 0)), x] st = .nx [some (.fz s), some (.fz r), b, some (.fz (.int k)), some (.fz (frD (cv f g k))), x'] st := by
  have loop := for_all (I := .rng 0 (k + 1)) (body := fBody G (.nm 5) lp0_law_by) (n := k + 1) (fun i ρ st' => st' = st ∧ ∃ x, ρ = [some (.fz s), some (.fz r), b, some (.fz (.int k)), some (.fz (frD (ps (fun j => f j * g (k - j)) i))), x]) (fun i ρ st _ _ => rfl)
    (fun i ρ st' hi ⟨e1, x, e2⟩ => by
      subst e1 e2
      refine ⟨.int (0 + i), rfl, [some (.fz s), some (.fz r), b, some (.fz (.int k)), some (.fz (frD (ps (fun j => f j * g (k - j)) (i + 1)))), some (.fz (.int (0 + i)))], _, .inl ?_, rfl, _, rfl⟩
      have i1 : idxS s (.int (0 + (i : Int))) = some (frD (f i)) := by
        rcases hs with rfl | rfl
        · exact idx_row _ (by omega) (by omega)
        · exact idx_seq _ (by omega) (by omega)
      have i2 : idxS r (.int ((k : Int) - (0 + (i : Int)))) = some (frD (g (k - i))) := by
        rcases hr with rfl | rfl
        · exact idx_row _ (by omega) (by omega)
        · exact idx_seq _ (by omega) (by omega)
      have p := lmul_ok (h1 i (by omega)) (h2 (k - i) (by omega))
      have q := ladd_ok (h4 i (by omega)) (h3 i (by omega))
      rw [Int.zero_add] at i1 i2
      simp [lp0_law_by, fns, io, g_law_by, i1, i2, p, q, ps]) (k + 1) 0 _ st (by omega) ⟨rfl, x, rfl⟩
  obtain ⟨ρ', st', e, rfl, x', rfl⟩ := loop
  exact ⟨x', e⟩
theorem by_ok {f g : Nat → Rat} {n m : Nat} {s r : D} (hs : s = .tup (seqL f n) ∨ s = .lst (seqL f n)) (hr : r = .tup (seqL g m) ∨ r = .lst (seqL g m)) (hn : n < 1000) (hm : n ≤ m) (z : TimesSz f g n) :
    f_law_by [.fz s, .fz r] = .okl (seqL (cv f g) n) [] := by
  rw [show f_law_by = runDef (md.gam g_law_by) ⟨6, b_law_by⟩ from rfl, runDef_eq]
  simp only [b_law_by, contsOf, slotsOf]
  obtain ⟨G, hG⟩ : ∃ G : Gam, G = { md.gam g_law_by with io := ([] : List Cont).length } := ⟨_, rfl⟩
  have fns : G.fns = g_law_by := by rw [hG]; rfl
  have io : G.io = 0 := by rw [hG]; rfl
  rw [← hG]
  have loop := for_all (I := .rng 0 n) (body := fBody G (.nm 3) lp1_law_by) (n := n) (fun i ρ st => st = [.lst (seqL (cv f g) i)] ∧ ∃ x y w, ρ = [some (.fz s), some (.fz r), some (.loc 0), x, y, w]) (fun i ρ st _ _ => rfl)
    (fun i ρ st hi ⟨e1, x, y, w, e2⟩ => by
      subst e1 e2
      obtain ⟨w', e⟩ := by_inner (G := G) fns io (k := i) (st := [.lst (seqL (cv f g) i)]) (b := some (.loc 0)) hs hr hi (by omega) (fun j hj => z.hf j (by omega)) (fun j hj => z.hg j (by omega)) (z.p i hi) (z.s i hi) w
      refine ⟨.int (0 + i), rfl, [some (.fz s), some (.fz r), some (.loc 0), some (.fz (.int i)), some (.fz (frD (cv f g i))), w'], [.lst (seqL (cv f g) (i + 1))], .inl ?_, rfl, _, _, _, rfl⟩
      have r1 : rngOk 0 = true := by decide
      have r2 : rngOk ((i : Int) + 1) = true := by unfold rngOk; simp; omega
      have hi2 : ((i : Int) + 1).toNat = i + 1 := by omega
      simp only [fBody_nm, lp1_law_by]
      have z0 : frD 0 = .tup [.int 0, .int 1] := rfl
      rw [z0] at e
      simp [kRng_eq r1 r2, hi2, e, io]
      rw [ex_app (n := 0) (ds := seqL (cv f g) i) (by rfl) (by rfl)]
      simp [io]
      rw [kApp2_eq (ds := seqL (cv f g) i) (by rfl) (by rw [seqL_length]; unfold LIM; omega)]
      simp [← seqL_succ]) n 0 [some (.fz s), some (.fz r), some (.loc 0), none, none, none] [.lst (seqL (cv f g) 0)] (by omega) ⟨rfl, _, _, _, rfl⟩
  obtain ⟨ρ', st', e, rfl, x, y, w, rfl⟩ := loop
  have r1 : rngOk 0 = true := by decide
  have r2 : rngOk (n : Int) = true := by unfold rngOk; simp; omega
  have s0 : seqL (cv f g) 0 = [] := rfl
  rw [s0] at e
  have rl : kRetl 0 (.loc 0) [.lst (seqL (cv f g) n)] = .rtl (seqL (cv f g) n) [.lst (seqL (cv f g) n)] := kRetl_eq rfl (Nat.le_refl _)
  rcases hs with rfl | rfl <;> simp [kRng_eq r1 r2, e, io, rl]
end K03

/-! F11 -/
set_option linter.all false
set_option maxRecDepth 100000
namespace K03
open PySem PD L2 FR
theorem grown_ok {t : Rat} {n : Nat} (hn : n < 1000) (ht : Sz NB t) (h1 : ∀ k ≤ n, Sz NB (expS t k)) (h2 : ∀ k ≤ n, Sz NB (expS t k * t)) : f_law_grown [.fz (frD t), .fz (.int n)] = .ok (.lst (seqL (expS t) (n + 1))) [] := by
  rw [show f_law_grown = runDef (md.gam g_law_grown) ⟨4, b_law_grown⟩ from rfl, runDef_eq]
  simp only [b_law_grown, contsOf, slotsOf]
  obtain ⟨G, hG⟩ : ∃ G : Gam, G = { md.gam g_law_grown with io := ([] : List Cont).length } := ⟨_, rfl⟩
  have fns : G.fns = g_law_grown := by rw [hG]; rfl
  have io : G.io = 0 := by rw [hG]; rfl
  have con : G.con = md.con.map (·.2) := by rw [hG]; rfl
  rw [← hG]
  have loop := for_all (I := .rng 0 n) (body := fBody G (.nm 3) lp0_law_grown) (n := n) (fun i ρ st => st = [.lst (seqL (expS t) (i + 1))] ∧ ∃ x, ρ = [some (.fz (frD t)), some (.fz (.int n)), some (.loc 0), x]) (fun i ρ st _ _ => rfl)
    (fun i ρ st hi ⟨e1, x, e2⟩ => by
      subst e1 e2
      refine ⟨.int (0 + i), rfl, [some (.fz (frD t)), some (.fz (.int n)), some (.loc 0), some (.fz (.int (0 + i)))], [.lst (seqL (expS t) (i + 2))], .inl ?_, rfl, _, rfl⟩
      have ix : idxS (.lst (seqL (expS t) (i + 1))) (.int (i : Int)) = some (frD (expS t i)) := idx_seq _ (by omega) (by omega)
      have p := lmul_ok (h1 i (by omega)) ht
      have k0 : ((i + 1 : Nat) : Rat) ≠ 0 := by
        intro z
        have := congrArg Rat.num z
        rw [Rat.num_natCast] at this
        have : ((i + 1 : Nat) : Int) = 0 := this
        omega
      have sz := sz_nat (k := i + 1) (by omega)
      have o := ldiv_ok (h2 i (by omega)) (sz.mono (by decide)) k0 (Nat.lt_of_lt_of_le sz.n (Nat.pow_le_pow_right (by decide) (by decide)))
      rw [frD_nat] at o
      have o' : f_law_div [.fz (frD (expS t i * t)), .fz (.tup [.int ((i : Int) + 1), .int 1])] = .ok (frD (expS t (i + 1))) [] := by
        rw [show ((i : Int) + 1) = ((i + 1 : Nat) : Int) by omega]
        exact o
      simp only [fBody_nm, lp0_law_grown]
      rw [exs_cons, ex_app (n := 0) (ds := seqL (expS t) (i + 1)) (by rfl) (by rfl)]
      simp [fns, io, g_law_grown, ix, p, o']
      rw [kApp2_eq (ds := seqL (expS t) (i + 1)) (by rfl) (by rw [seqL_length]; unfold LIM; omega)]
      simp [← seqL_succ]) n 0 [some (.fz (frD t)), some (.fz (.int n)), some (.loc 0), none] [.lst (seqL (expS t) 1)] (by omega) ⟨rfl, _, rfl⟩
  obtain ⟨ρ', st', e, rfl, x, rfl⟩ := loop
  have r1 : rngOk 0 = true := by decide
  have r2 : rngOk (n : Int) = true := by
    unfold rngOk
    simp
    omega
  have s1 : seqL (expS t) 1 = [.tup [.int 1, .int 1]] := rfl
  rw [s1] at e
  have fl : fr 0 (.loc 0) [.lst (seqL (expS t) (n + 1))] = .ok (.lst (seqL (expS t) (n + 1))) [.fz (.lst (seqL (expS t) (n + 1)))] := fr_loc rfl (Nat.le_refl _)
  simp [io, kRng_eq r1 r2, e, fl]
end K03

/-! F12 -/
set_option linter.all false
set_option maxRecDepth 100000
namespace PD
open PySem PySem.Spec PyProof.Rows L2
def kRngB (x y : Val) (st : Store) : Res Iter := pick (dr st x) fun d => pick (dr st y) fun e => pick (rngS d e) fun I => .ok I st
theorem kRng2_bind {G : Gam} {ρ : Slots} {st : Store} {b : Ex} {x : Val} : kRng2 G ρ b x st = (ev G b ρ st).bind (kRngB x) := by rfl
theorem kRngB_eq {st : Store} {i j : Int} (h : rngOk i = true) (h2 : rngOk j = true) : kRngB (.fz (.int i)) (.fz (.int j)) st = .ok (.rng i (j - i).toNat) st := by
  unfold kRngB
  simp [rngS_eq h h2]
theorem rngOk_nat {k : Nat} (h : k < 2 ^ 60) : rngOk (k : Int) = true := by
  unfold rngOk; simp; omega
end PD
namespace K03
open PySem PD L2 FR
/-- beyond its length a row goes on with 0 -/
def upTo (f : Nat → Rat) (n k : Nat) : Rat := if k < n then f k else 0
theorem number_at_ok {f : Nat → Rat} {n k : Nat} : f_number_at [.fz (.tup (seqL f n)), .fz (.int k)] = .ok (frD (upTo f n k)) [] := by
  rw [show f_number_at = runDef (md.gam g_number_at) ⟨2, b_number_at⟩ from rfl, runDef_eq]
  simp only [b_number_at, contsOf, slotsOf]
  obtain ⟨G, hG⟩ : ∃ G : Gam, G = { md.gam g_number_at with io := ([] : List Cont).length } := ⟨_, rfl⟩
  have io : G.io = 0 := by rw [hG]; rfl
  have c0 : G.con[0]? = some (frD 0) := by rw [hG]; rfl
  rw [← hG]
  unfold upTo
  by_cases h : k < n
  · have i1 := idx_row f (n := n) (i := k) (j := k) rfl h
    simp [h, i1, io]
  · simp [h, c0, io]
/-- a: the numerator (n numbers), b: the denominator (d numbers), Q the quotient -/
structure QuoSz (a b Q : Nat → Rat) (n d len : Nat) : Prop where
  hb : ∀ j < d, Sz NB (b j)
  hq : ∀ k ≤ len, Sz NB (Q k)
  hp : ∀ k ≤ len, ∀ i < min k (d - 1), Sz NB (b (i + 1) * Q (k - (i + 1)))
  hx : ∀ k ≤ len, ∀ i ≤ min k (d - 1), Sz NB (upTo a n k - ps (fun i => b (i + 1) * Q (k - (i + 1))) i)
theorem quo_inner {G : Gam} (fns : G.fns = g_quotient_series) (io : G.io = 0) {a b Q : Nat → Rat} {n d k len : Nat} {l : Val} (hd : 0 < d) (hk : k ≤ len) (z : QuoSz a b Q n d len) (x : Option Val) :
    ∃ x', forLoop (.rng 1 (min k (d - 1))) (fBody G (.nm 6) lp0_quotient_series) (min k (d - 1)) 0 [some (.fz (.tup (seqL a n))), some (.fz (.tup (seqL b d))), some l, some (.loc 0), some (.fz (.int k)), some (.fz (frD (upTo a n k))), x] [.lst (seqL Q k)] =
      .nx [some (.fz (.tup (seqL a n))), some (.fz (.tup (seqL b d))), some l, some (.loc 0), some (.fz (.int k)), some (.fz (frD (upTo a n k - ps (fun i => b (i + 1) * Q (k - (i + 1))) (min k (d - 1))))), x'] [.lst (seqL Q k)] := by
  have e0 : upTo a n k - ps (fun i => b (i + 1) * Q (k - (i + 1))) 0 = upTo a n k := by
    show upTo a n k - (0 : Rat) = _
    grind
  have loop := for_all (I := .rng 1 (min k (d - 1))) (body := fBody G (.nm 6) lp0_quotient_series) (n := min k (d - 1)) (fun i ρ st' => st' = [.lst (seqL Q k)] ∧ ∃ x, ρ = [some (.fz (.tup (seqL a n))), some (.fz (.tup (seqL b d))), some l, some (.loc 0), some (.fz (.int k)), some (.fz (frD (upTo a n k - ps (fun i => b (i + 1) * Q (k - (i + 1))) i))), x]) (fun i ρ st _ _ => rfl)
    (fun i ρ st' hi ⟨e1, x, e2⟩ => by
      subst e1 e2
      refine ⟨.int (1 + i), rfl, [some (.fz (.tup (seqL a n))), some (.fz (.tup (seqL b d))), some l, some (.loc 0), some (.fz (.int k)), some (.fz (frD (upTo a n k - ps (fun i => b (i + 1) * Q (k - (i + 1))) (i + 1)))), some (.fz (.int (1 + i)))], _, .inl ?_, rfl, _, rfl⟩
      have i1 : idxS (.tup (seqL b d)) (.int (1 + (i : Int))) = some (frD (b (i + 1))) := idx_row _ (by omega) (by omega)
      have i2 : idxS (.lst (seqL Q k)) (.int ((k : Int) - (1 + (i : Int)))) = some (frD (Q (k - (i + 1)))) := idx_seq _ (by omega) (by omega)
      have p := product_ok (z.hb (i + 1) (by omega)) (z.hq (k - (i + 1)) (by omega))
      have q := minus_ok (z.hx k hk i (by omega)) (z.hp k hk i hi)
      have e : upTo a n k - ps (fun i => b (i + 1) * Q (k - (i + 1))) (i + 1) = upTo a n k - ps (fun i => b (i + 1) * Q (k - (i + 1))) i - b (i + 1) * Q (k - (i + 1)) := by
        simp only [ps]
        grind
      rw [← e] at q
      simp [lp0_quotient_series, fns, io, g_quotient_series, i1, i2, p, q]) (min k (d - 1)) 0 [some (.fz (.tup (seqL a n))), some (.fz (.tup (seqL b d))), some l, some (.loc 0), some (.fz (.int k)), some (.fz (frD (upTo a n k))), x] [.lst (seqL Q k)] (by omega) ⟨rfl, x, by rw [e0]⟩
  obtain ⟨ρ', st', e, rfl, x', rfl⟩ := loop
  exact ⟨x', e⟩
theorem quotient_ok {a b : Nat → Rat} {n d len : Nat} (hd : 0 < d) (hd2 : d < 1000) (hl : len < 1000) (h0 : b 0 ≠ 0) (hb : (b 0).num.natAbs < 2 ^ 4500) (z : QuoSz a b (quo (upTo a n) b d) n d len) :
    f_quotient_series [.fz (.tup (seqL a n)), .fz (.tup (seqL b d)), .fz (.int len)] = .ok (.tup (seqL (quo (upTo a n) b d) (len + 1))) [] := by
  rw [show f_quotient_series = runDef (md.gam g_quotient_series) ⟨7, b_quotient_series⟩ from rfl, runDef_eq]
  simp only [b_quotient_series, contsOf, slotsOf]
  obtain ⟨G, hG⟩ : ∃ G : Gam, G = { md.gam g_quotient_series with io := ([] : List Cont).length } := ⟨_, rfl⟩
  have fns : G.fns = g_quotient_series := by rw [hG]; rfl
  have io : G.io = 0 := by rw [hG]; rfl
  rw [← hG]
  obtain ⟨Q, hQ⟩ : ∃ Q, Q = quo (upTo a n) b d := ⟨_, rfl⟩
  have qe : ∀ k, Q k = (upTo a n k - ps (fun i => b (i + 1) * Q (k - (i + 1))) (min k (d - 1))) / b 0 := fun k => by rw [hQ]; exact quo_eq _ _ _ _
  rw [← hQ] at z ⊢
  have r1 : rngOk 0 = true := by decide
  have r11 : rngOk 1 = true := by decide
  have loop := for_all (I := .rng 0 (len + 1)) (body := fBody G (.nm 4) lp1_quotient_series) (n := len + 1) (fun i ρ st => st = [.lst (seqL Q i)] ∧ ∃ x y w, ρ = [some (.fz (.tup (seqL a n))), some (.fz (.tup (seqL b d))), some (.fz (.int len)), some (.loc 0), x, y, w]) (fun i ρ st _ _ => rfl)
    (fun i ρ st hi ⟨e1, x, y, w, e2⟩ => by
      subst e1 e2
      obtain ⟨w', e⟩ := quo_inner (G := G) fns io (k := i) (l := .fz (.int len)) hd (by omega) z w
      refine ⟨.int (0 + i), rfl, [some (.fz (.tup (seqL a n))), some (.fz (.tup (seqL b d))), some (.fz (.int len)), some (.loc 0), some (.fz (.int i)), some (.fz (frD (upTo a n i - ps (fun j => b (j + 1) * Q (i - (j + 1))) (min i (d - 1))))), w'], [.lst (seqL Q (i + 1))], .inl ?_, rfl, _, _, _, rfl⟩
      have na := number_at_ok (f := a) (n := n) (k := i)
      have ov := over_ok (z.hx i (by omega) _ (Nat.le_refl _)) (z.hb 0 hd) h0 hb
      rw [← qe] at ov
      have i0 : idxS (.tup (seqL b d)) (.int 0) = some (frD (b 0)) := idx_row _ rfl hd
      have mn : (if (d : Int) - 1 < (i : Int) then (d : Int) - 1 else (i : Int)) = ((min i (d - 1) : Nat) : Int) := by
        split <;> omega
      have r2 : rngOk (((min i (d - 1) : Nat) : Int) + 1) = true := rngOk_nat (k := min i (d - 1) + 1) (by omega)
      have hi2 : ((((min i (d - 1) : Nat) : Int) + 1) - 1).toNat = min i (d - 1) := by omega
      simp only [fBody_nm, lp1_quotient_series]
      simp only [exs_cons, ex_asg, ev_call, fns, g_quotient_series]
      simp [na, io, kRng2_bind]
      rw [mn, kRngB_eq r11 r2, hi2]
      simp [e]
      rw [ex_app (n := 0) (ds := seqL Q i) (by rfl) (by rfl)]
      simp [fns, g_quotient_series, io, i0, ov]
      rw [kApp2_eq (ds := seqL Q i) (by rfl) (by rw [seqL_length]; unfold LIM; omega)]
      simp [← seqL_succ]) (len + 1) 0 [some (.fz (.tup (seqL a n))), some (.fz (.tup (seqL b d))), some (.fz (.int len)), some (.loc 0), none, none, none] [.lst (seqL Q 0)] (by omega) ⟨rfl, _, _, _, rfl⟩
  obtain ⟨ρ', st', e, rfl, x, y, w, rfl⟩ := loop
  have r2 : rngOk ((len : Int) + 1) = true := rngOk_nat (k := len + 1) (by omega)
  have s0 : seqL Q 0 = [] := rfl
  rw [s0] at e
  have hi2 : ((len : Int) + 1).toNat = len + 1 := by omega
  simp [kRng_eq r1 r2, hi2, e]
end K03

/-! F13 -/
set_option linter.all false
set_option maxRecDepth 100000
namespace K03
open PySem PD L2 FR
/-- a step's term -/
def lt (L s : Nat → Rat) (k i : Nat) : Rat := ((i + 1 : Nat) : Rat) * (L (i + 1) * s (k - (i + 1)))
structure LogSz (s L : Nat → Rat) (n : Nat) : Prop where
  hs : ∀ j < n, Sz NB (s j)
  hl : ∀ j < n, Sz NB (L j)
  hp : ∀ k < n, ∀ i, i + 1 < k → Sz NB (L (i + 1) * s (k - (i + 1)))
  hq : ∀ k < n, ∀ i, i + 1 < k → Sz NB (lt L s k i)
  hx : ∀ k < n, ∀ i, i < k → Sz NB (ps (lt L s k) i)
  hd : ∀ k < n, 0 < k → Sz NB (ps (lt L s k) (k - 1) / (k : Rat))
theorem log_inner {G : Gam} (fns : G.fns = g_series_log) (io : G.io = 0) {s L : Nat → Rat} {n k : Nat} {S : D} (hS : S = .tup (seqL s n) ∨ S = .lst (seqL s n)) (hk : k + 1 < n) (hn : n < 1000) (z : LogSz s L n) (w : Option Val) :
    ∃ w', forLoop (.rng 1 k) (fBody G (.nm 4) lp0_series_log) k 0 [some (.fz S), some (.loc 0), some (.fz (.int ((k : Int) + 1))), some (.fz (frD 0)), w] [.lst (seqL L (k + 1))] =
      .nx [some (.fz S), some (.loc 0), some (.fz (.int ((k : Int) + 1))), some (.fz (frD (ps (lt L s (k + 1)) k))), w'] [.lst (seqL L (k + 1))] := by
  have loop := for_all (I := .rng 1 k) (body := fBody G (.nm 4) lp0_series_log) (n := k) (fun i ρ st' => st' = [.lst (seqL L (k + 1))] ∧ ∃ w, ρ = [some (.fz S), some (.loc 0), some (.fz (.int ((k : Int) + 1))), some (.fz (frD (ps (lt L s (k + 1)) i))), w]) (fun i ρ st _ _ => rfl)
    (fun i ρ st' hi ⟨e1, w, e2⟩ => by
      subst e1 e2
      refine ⟨.int (1 + i), rfl, [some (.fz S), some (.loc 0), some (.fz (.int ((k : Int) + 1))), some (.fz (frD (ps (lt L s (k + 1)) (i + 1)))), some (.fz (.int (1 + i)))], _, .inl ?_, rfl, _, rfl⟩
      have i1 : idxS (.lst (seqL L (k + 1))) (.int (1 + (i : Int))) = some (frD (L (i + 1))) := idx_seq _ (by omega) (by omega)
      have i2 : idxS S (.int ((k : Int) + 1 - (1 + (i : Int)))) = some (frD (s (k + 1 - (i + 1)))) := by
        rcases hS with rfl | rfl
        · exact idx_row _ (by omega) (by omega)
        · exact idx_seq _ (by omega) (by omega)
      have p := product_ok (z.hl (i + 1) (by omega)) (z.hs (k + 1 - (i + 1)) (by omega))
      have sz := sz_nat (k := i + 1) (by omega)
      have q := product_ok (sz.mono (by decide)) (z.hp (k + 1) (by omega) i (by omega))
      rw [frD_nat] at q
      have q' : f_product_of [.fz (.tup [.int (1 + (i : Int)), .int 1]), .fz (frD (L (i + 1) * s (k + 1 - (i + 1))))] = .ok (frD (lt L s (k + 1) i)) [] := by
        rw [show (1 + (i : Int)) = ((i + 1 : Nat) : Int) by omega]
        exact q
      have r := plus_ok (z.hx (k + 1) (by omega) i (by omega)) (z.hq (k + 1) (by omega) i (by omega))
      have r' : f_plus [.fz (frD (ps (lt L s (k + 1)) i)), .fz (frD (lt L s (k + 1) i))] = .ok (frD (ps (lt L s (k + 1)) (i + 1))) [] := r
      clear q r
      generalize s (k + 1 - (i + 1)) = u at i2 p q'
      simp [lp0_series_log, fns, io, g_series_log, i1, i2, p, q', r']) k 0 _ [.lst (seqL L (k + 1))] (by omega) ⟨rfl, w, rfl⟩
  obtain ⟨ρ', st', e, rfl, x', rfl⟩ := loop
  exact ⟨x', e⟩
theorem log_ok {s L : Nat → Rat} {n : Nat} {S : D} (hS : S = .tup (seqL s n) ∨ S = .lst (seqL s n)) (hn0 : 0 < n) (hn : n < 1000) (h0 : s 0 = 1) (hL : IsLog s L n) (z : LogSz s L n) :
    f_series_log [.fz S] = .ok (.tup (seqL L n)) [] := by
  rw [show f_series_log = runDef (md.gam g_series_log) ⟨5, b_series_log⟩ from rfl, runDef_eq]
  simp only [b_series_log, contsOf, slotsOf]
  obtain ⟨G, hG⟩ : ∃ G : Gam, G = { md.gam g_series_log with io := ([] : List Cont).length } := ⟨_, rfl⟩
  have fns : G.fns = g_series_log := by rw [hG]; rfl
  have io : G.io = 0 := by rw [hG]; rfl
  have c0 : G.con[0]? = some (frD 0) := by rw [hG]; rfl
  have c1 : G.con[1]? = some (frD 1) := by rw [hG]; rfl
  rw [← hG]
  have r11 : rngOk 1 = true := by decide
  have loop := for_all (I := .rng 1 (n - 1)) (body := fBody G (.nm 2) lp1_series_log) (n := n - 1) (fun i ρ st => st = [.lst (seqL L (i + 1))] ∧ ∃ x y w, ρ = [some (.fz S), some (.loc 0), x, y, w]) (fun i ρ st _ _ => rfl)
    (fun i ρ st hi ⟨e1, x, y, w, e2⟩ => by
      subst e1 e2
      obtain ⟨w', e⟩ := log_inner (G := G) fns io (k := i) hS (by omega) hn z w
      refine ⟨.int (1 + i), rfl, [some (.fz S), some (.loc 0), some (.fz (.int (1 + i))), some (.fz (frD (ps (lt L s (i + 1)) i))), w'], [.lst (seqL L (i + 1 + 1))], .inl ?_, rfl, _, _, _, rfl⟩
      have k1 : (1 : Int) + (i : Int) = (i : Int) + 1 := by omega
      rw [k1]
      have i0 : idxS S (.int ((i : Int) + 1)) = some (frD (s (i + 1))) := by
        rcases hS with rfl | rfl
        · exact idx_row _ (by omega) (by omega)
        · exact idx_seq _ (by omega) (by omega)
      have sz := sz_nat (k := i + 1) (by omega)
      have ov := over_ok (z.hx (i + 1) (by omega) i (by omega)) (sz.mono (by decide)) nat_ne (Nat.lt_of_lt_of_le sz.n (Nat.pow_le_pow_right (by decide) (by decide)))
      rw [frD_nat] at ov
      have mi := minus_ok (z.hs (i + 1) (by omega)) (z.hd (i + 1) (by omega) (by omega))
      have le : L (i + 1) = s (i + 1) - ps (lt L s (i + 1)) i / ((i + 1 : Nat) : Rat) := log_rec h0 hL (k := i) (by omega)
      rw [Nat.add_sub_cancel, ← le] at mi
      have r2 : rngOk ((i : Int) + 1) = true := rngOk_nat (k := i + 1) (by omega)
      have hi2 : ((i : Int) + 1 - 1).toNat = i := by omega
      have ov' : f_over [.fz (frD (ps (lt L s (i + 1)) i)), .fz (.tup [.int ((i : Int) + 1), .int 1])] = .ok (frD (ps (lt L s (i + 1)) i / ((i + 1 : Nat) : Rat))) [] := ov
      clear ov le
      generalize ps (lt L s (i + 1)) i / ((i + 1 : Nat) : Rat) = q at ov' mi
      simp only [fBody_nm, lp1_series_log]
      simp [c0, kRng2_bind]
      rw [kRngB_eq r11 r2, hi2]
      simp [e]
      rw [ex_app (n := 0) (ds := seqL L (i + 1)) (by rfl) (by rfl)]
      simp [fns, g_series_log, io, i0, ov', mi]
      rw [kApp2_eq (ds := seqL L (i + 1)) (by rfl) (by rw [seqL_length]; unfold LIM; omega)]
      simp [← seqL_succ]) (n - 1) 0 [some (.fz S), some (.loc 0), none, none, none] [.lst (seqL L 1)] (by omega) ⟨rfl, _, _, _, rfl⟩
  obtain ⟨ρ', st', e, rfl, x, y, w, rfl⟩ := loop
  have r2 : rngOk (n : Int) = true := rngOk_nat (by omega)
  have s1 : seqL L 1 = [frD 0] := by rw [← hL.1]; rfl
  rw [s1] at e
  have hi2 : ((n : Int) - 1).toNat = n - 1 := by omega
  have i0 : idxS S (.int 0) = some (frD 1) := by
    rw [← h0]
    rcases hS with rfl | rfl
    · exact idx_row _ rfl hn0
    · exact idx_seq _ rfl hn0
  have ln : ∀ (ρ : Slots) (st : Store), ρ[0]? = some (some (.fz S)) → ev G (.bfn .len (.cons (.var 0) .nil)) ρ st = .ok (.fz (.int n)) st := fun ρ st h => by
    rcases hS with rfl | rfl <;> simp [ev_var h]
  simp [i0, c0, c1, io, kRng2_bind, ← ev_bfn]
  rw [ln _ _ (by rfl)]
  simp
  rw [kRngB_eq r11 r2, hi2]
  simp [e, show n - 1 + 1 = n by omega]
/-- a series that does not begin with 1 -/
theorem log_bad {x : Rat} {ds : List D} {S : D} (hS : S = .tup (frD x :: ds) ∨ S = .lst (frD x :: ds)) (h : x ≠ 1) : f_series_log [.fz S] = .exc ⟨"BadNumber", []⟩ [] := by
  rw [show f_series_log = runDef (md.gam g_series_log) ⟨5, b_series_log⟩ from rfl, runDef_eq]
  simp only [b_series_log, contsOf, slotsOf]
  obtain ⟨G, hG⟩ : ∃ G : Gam, G = { md.gam g_series_log with io := ([] : List Cont).length } := ⟨_, rfl⟩
  have c1 : G.con[1]? = some (frD 1) := by rw [hG]; rfl
  rw [← hG]
  rcases hS with rfl | rfl <;> simp [c1, h]
end K03

/-! F14 -/
set_option linter.all false
set_option maxRecDepth 100000
namespace K03
open PySem PD L2 FR
structure ExpSz (s E : Nat → Rat) (n : Nat) : Prop where
  hs : ∀ j < n, Sz NB (s j)
  hl : ∀ j < n, Sz NB (E j)
  hp : ∀ k < n, ∀ i, i < k → Sz NB (s (i + 1) * E (k - (i + 1)))
  hq : ∀ k < n, ∀ i, i < k → Sz NB (lt s E k i)
  hx : ∀ k < n, ∀ i, i ≤ k → Sz NB (ps (lt s E k) i)
theorem exp_inner {G : Gam} (fns : G.fns = g_series_exp) (io : G.io = 0) {s E : Nat → Rat} {n k : Nat} {S : D} (hS : S = .tup (seqL s n) ∨ S = .lst (seqL s n)) (hk : k + 1 < n) (hn : n < 1000) (z : ExpSz s E n) (w : Option Val) :
    ∃ w', forLoop (.rng 1 (k + 1)) (fBody G (.nm 4) lp0_series_exp) (k + 1) 0 [some (.fz S), some (.loc 0), some (.fz (.int ((k : Int) + 1))), some (.fz (frD 0)), w] [.lst (seqL E (k + 1))] =
      .nx [some (.fz S), some (.loc 0), some (.fz (.int ((k : Int) + 1))), some (.fz (frD (ps (lt s E (k + 1)) (k + 1)))), w'] [.lst (seqL E (k + 1))] := by
  have loop := for_all (I := .rng 1 (k + 1)) (body := fBody G (.nm 4) lp0_series_exp) (n := k + 1) (fun i ρ st' => st' = [.lst (seqL E (k + 1))] ∧ ∃ w, ρ = [some (.fz S), some (.loc 0), some (.fz (.int ((k : Int) + 1))), some (.fz (frD (ps (lt s E (k + 1)) i))), w]) (fun i ρ st _ _ => rfl)
    (fun i ρ st' hi ⟨e1, w, e2⟩ => by
      subst e1 e2
      refine ⟨.int (1 + i), rfl, [some (.fz S), some (.loc 0), some (.fz (.int ((k : Int) + 1))), some (.fz (frD (ps (lt s E (k + 1)) (i + 1)))), some (.fz (.int (1 + i)))], _, .inl ?_, rfl, _, rfl⟩
      have i1 : idxS (.lst (seqL E (k + 1))) (.int ((k : Int) + 1 - (1 + (i : Int)))) = some (frD (E (k + 1 - (i + 1)))) := idx_seq _ (by omega) (by omega)
      have i2 : idxS S (.int (1 + (i : Int))) = some (frD (s (i + 1))) := by
        rcases hS with rfl | rfl
        · exact idx_row _ (by omega) (by omega)
        · exact idx_seq _ (by omega) (by omega)
      have p := product_ok (z.hs (i + 1) (by omega)) (z.hl (k + 1 - (i + 1)) (by omega))
      have sz := sz_nat (k := i + 1) (by omega)
      have q := product_ok (sz.mono (by decide)) (z.hp (k + 1) (by omega) i (by omega))
      rw [frD_nat] at q
      have q' : f_product_of [.fz (.tup [.int (1 + (i : Int)), .int 1]), .fz (frD (s (i + 1) * E (k + 1 - (i + 1))))] = .ok (frD (lt s E (k + 1) i)) [] := by
        rw [show (1 + (i : Int)) = ((i + 1 : Nat) : Int) by omega]
        exact q
      have r := plus_ok (z.hx (k + 1) (by omega) i (by omega)) (z.hq (k + 1) (by omega) i (by omega))
      have r' : f_plus [.fz (frD (ps (lt s E (k + 1)) i)), .fz (frD (lt s E (k + 1) i))] = .ok (frD (ps (lt s E (k + 1)) (i + 1))) [] := r
      clear q r
      generalize E (k + 1 - (i + 1)) = u at i1 p q'
      simp [lp0_series_exp, fns, io, g_series_exp, i1, i2, p, q', r']) (k + 1) 0 _ [.lst (seqL E (k + 1))] (by omega) ⟨rfl, w, rfl⟩
  obtain ⟨ρ', st', e, rfl, x', rfl⟩ := loop
  exact ⟨x', e⟩
theorem exp_ok {s E : Nat → Rat} {n : Nat} {S : D} (hS : S = .tup (seqL s n) ∨ S = .lst (seqL s n)) (hn0 : 0 < n) (hn : n < 1000) (h0 : s 0 = 0) (hL : IsExp s E n) (z : ExpSz s E n) :
    f_series_exp [.fz S] = .ok (.tup (seqL E n)) [] := by
  rw [show f_series_exp = runDef (md.gam g_series_exp) ⟨5, b_series_exp⟩ from rfl, runDef_eq]
  simp only [b_series_exp, contsOf, slotsOf]
  obtain ⟨G, hG⟩ : ∃ G : Gam, G = { md.gam g_series_exp with io := ([] : List Cont).length } := ⟨_, rfl⟩
  have fns : G.fns = g_series_exp := by rw [hG]; rfl
  have io : G.io = 0 := by rw [hG]; rfl
  have c0 : G.con[0]? = some (frD 0) := by rw [hG]; rfl
  have c1 : G.con[1]? = some (frD 1) := by rw [hG]; rfl
  rw [← hG]
  have r11 : rngOk 1 = true := by decide
  have loop := for_all (I := .rng 1 (n - 1)) (body := fBody G (.nm 2) lp1_series_exp) (n := n - 1) (fun i ρ st => st = [.lst (seqL E (i + 1))] ∧ ∃ x y w, ρ = [some (.fz S), some (.loc 0), x, y, w]) (fun i ρ st _ _ => rfl)
    (fun i ρ st hi ⟨e1, x, y, w, e2⟩ => by
      subst e1 e2
      obtain ⟨w', e⟩ := exp_inner (G := G) fns io (k := i) hS (by omega) hn z w
      refine ⟨.int (1 + i), rfl, [some (.fz S), some (.loc 0), some (.fz (.int (1 + i))), some (.fz (frD (ps (lt s E (i + 1)) (i + 1)))), w'], [.lst (seqL E (i + 1 + 1))], .inl ?_, rfl, _, _, _, rfl⟩
      have k1 : (1 : Int) + (i : Int) = (i : Int) + 1 := by omega
      rw [k1]
      have sz := sz_nat (k := i + 1) (by omega)
      have ov := over_ok (z.hx (i + 1) (by omega) (i + 1) (by omega)) (sz.mono (by decide)) nat_ne (Nat.lt_of_lt_of_le sz.n (Nat.pow_le_pow_right (by decide) (by decide)))
      rw [frD_nat] at ov
      have le : E (i + 1) = ps (lt s E (i + 1)) (i + 1) / ((i + 1 : Nat) : Rat) := exp_rec hL (k := i) (by omega)
      rw [← le] at ov
      have r2 : rngOk ((i : Int) + 1 + 1) = true := rngOk_nat (k := i + 2) (by omega)
      have hi2 : ((i : Int) + 1 + 1 - 1).toNat = i + 1 := by omega
      have ov' : f_over [.fz (frD (ps (lt s E (i + 1)) (i + 1))), .fz (.tup [.int ((i : Int) + 1), .int 1])] = .ok (frD (E (i + 1))) [] := ov
      clear ov le
      simp only [fBody_nm, lp1_series_exp]
      simp [c0, kRng2_bind]
      rw [kRngB_eq r11 r2, hi2]
      simp [e]
      rw [ex_app (n := 0) (ds := seqL E (i + 1)) (by rfl) (by rfl)]
      simp [fns, g_series_exp, io, ov']
      rw [kApp2_eq (ds := seqL E (i + 1)) (by rfl) (by rw [seqL_length]; unfold LIM; omega)]
      simp [← seqL_succ]) (n - 1) 0 [some (.fz S), some (.loc 0), none, none, none] [.lst (seqL E 1)] (by omega) ⟨rfl, _, _, _, rfl⟩
  obtain ⟨ρ', st', e, rfl, x, y, w, rfl⟩ := loop
  have r2 : rngOk (n : Int) = true := rngOk_nat (by omega)
  have s1 : seqL E 1 = [frD 1] := by rw [← hL.1]; rfl
  rw [s1] at e
  have hi2 : ((n : Int) - 1).toNat = n - 1 := by omega
  have i0 : idxS S (.int 0) = some (frD 0) := by
    rw [← h0]
    rcases hS with rfl | rfl
    · exact idx_row _ rfl hn0
    · exact idx_seq _ rfl hn0
  have ln : ∀ (ρ : Slots) (st : Store), ρ[0]? = some (some (.fz S)) → ev G (.bfn .len (.cons (.var 0) .nil)) ρ st = .ok (.fz (.int n)) st := fun ρ st h => by
    rcases hS with rfl | rfl <;> simp [ev_var h]
  simp [i0, c0, c1, io, kRng2_bind, ← ev_bfn]
  rw [ln _ _ (by rfl)]
  simp
  rw [kRngB_eq r11 r2, hi2]
  simp [e, show n - 1 + 1 = n by omega]
/-- a series that does not begin with 0 -/
theorem exp_bad {x : Rat} {ds : List D} {S : D} (hS : S = .tup (frD x :: ds) ∨ S = .lst (frD x :: ds)) (h : x ≠ 0) : f_series_exp [.fz S] = .exc ⟨"BadNumber", []⟩ [] := by
  rw [show f_series_exp = runDef (md.gam g_series_exp) ⟨5, b_series_exp⟩ from rfl, runDef_eq]
  simp only [b_series_exp, contsOf, slotsOf]
  obtain ⟨G, hG⟩ : ∃ G : Gam, G = { md.gam g_series_exp with io := ([] : List Cont).length } := ⟨_, rfl⟩
  have c0 : G.con[0]? = some (frD 0) := by rw [hG]; rfl
  rw [← hG]
  rcases hS with rfl | rfl <;> simp [c0, h]
end K03

/-! F15 -/
set_option linter.all false
set_option maxRecDepth 100000
namespace FR
/-- the sums' numbers: of the logarithm, of the exponential -/
def ce : Nat → Rat
  | 0 => 1
  | m + 1 => ce m / ((m + 1 : Nat) : Rat)
def cl (m : Nat) : Rat := Rat.divInt (if m % 2 = 0 then -1 else 1) (m : Int)
def cc (b : Bool) (m : Nat) : Rat := if b then cl m else ce m
def ini (b : Bool) (k : Nat) : Rat := if b then 0 else one k
def shv (b : Bool) (i : Nat) : Rat := if i = 0 then 1 else cc b i
end FR
namespace K03
open PySem PD L2 FR
theorem seqL_set0 (f : Nat → Rat) (v : Rat) (n : Nat) : (seqL f n).set 0 (frD v) = seqL (fun k => if k = 0 then v else f k) n := by
  apply List.ext_getElem
  · simp
  · intro i h1 h2
    simp only [seqL, List.getElem_set, List.getElem_map, List.getElem_range]
    by_cases h : i = 0
    · subst h; simp
    · simp [h, Ne.symm h]
theorem seqL_congr {f g : Nat → Rat} {n : Nat} (h : ∀ k < n, f k = g k) : seqL f n = seqL g n := by
  unfold seqL
  exact List.map_congr_left fun i hi => by rw [h i (List.mem_range.mp hi)]
/-- a comprehension over a range whose elements are fractions -/
theorem lc_rng {G : Gam} {ρ : Slots} {st : Store} {own : List Nat} {i n : Nat} {elt : Ex} {f : Nat → Rat} (hn : n ≤ LIM)
    (h : ∀ k < n, ev G elt ((wipeS ρ own).set i (some (.fz (.int k)))) st = .ok (.fz (frD (f k))) st) : kLc G ρ own (.nm i) (.lit (.bl true)) elt (.rng 0 n) st = .ok (.loc st.length) (st ++ [.lst (seqL f n)]) := by
  rw [kLc_eq (n := n) rfl hn]
  have loop := lc_all (I := .rng 0 n) (body := lBody G own (.nm i) (.lit (.bl true)) elt ρ) (n := n) (fun j acc st' => st' = st ∧ acc = seqL f j) (fun _ _ _ _ _ => rfl)
    (fun j acc st' hj ⟨e1, e2⟩ => by
      subst e1 e2
      refine ⟨.int (0 + j), rfl, [frD (f j)], _, ?_, rfl, (seqL_succ f j).symm⟩
      rw [Int.zero_add]
      exact lBody_1 (h j hj)) n 0 [] st (by omega) ⟨rfl, rfl⟩
  obtain ⟨acc', st', e, rfl, rfl⟩ := loop
  rw [e]
  simp
/-- a comprehension over a list -/
theorem lc_lst {G : Gam} {ρ : Slots} {st : Store} {own : List Nat} {i : Nat} {elt : Ex} {ds : List D} {f : Nat → Rat} (hn : ds.length ≤ LIM)
    (h : ∀ (k : Nat) (hk : k < ds.length), ev G elt ((wipeS ρ own).set i (some (.fz ds[k]))) st = .ok (.fz (frD (f k))) st) : kLc G ρ own (.nm i) (.lit (.bl true)) elt (.lst (.fz (.lst ds))) st = .ok (.loc st.length) (st ++ [.lst (seqL f ds.length)]) := by
  rw [kLc_eq (n := ds.length) rfl hn]
  have loop := lc_all (I := .lst (.fz (.lst ds))) (body := lBody G own (.nm i) (.lit (.bl true)) elt ρ) (n := ds.length) (fun j acc st' => st' = st ∧ acc = seqL f j) (fun _ _ _ _ _ => rfl)
    (fun j acc st' hj ⟨e1, e2⟩ => by
      subst e1 e2
      refine ⟨ds[j], by simp [hj], [frD (f j)], _, ?_, rfl, (seqL_succ f j).symm⟩
      exact lBody_1 (h j hj)) ds.length 0 [] st (by omega) ⟨rfl, rfl⟩
  obtain ⟨acc', st', e, rfl, rfl⟩ := loop
  rw [e]
  simp
structure SumSz (x : Nat → Rat) (b : Bool) (n : Nat) : Prop where
  ht : ∀ i, i + 1 < n → TimesSz (pw x i) x n
  hc : ∀ i < n, Sz NB (shv b i)
  hp : ∀ i < n, ∀ k < n, Sz NB (pw x i k)
  hm : ∀ i, i + 1 < n → ∀ k < n, Sz NB (pw x (i + 1) k * cc b (i + 1))
  hs : ∀ i < n, ∀ k < n, Sz NB (ini b k + psum (cc b) x i k)
theorem share_ok {G : Gam} (fns : G.fns = g_law_summed) (io : G.io = 0) {b : Bool} {i n : Nat} (hi : i + 1 < n) (hn : n < 1000) (hc : Sz NB (shv b i)) {ρ : Slots} {st : Store} (h1 : ρ[1]? = some (some (.fz (.bl b)))) (h5 : ρ[5]? = some (some (.fz (frD (shv b i))))) (h6 : ρ[6]? = some (some (.fz (.int ((i : Int) + 1))))) :
    ex G (.if_ (.tru (.var 1)) (.cons (.asg (.nm 5) (.call 1 (.cons (.idx (.lst (.cons (.neg (.lit (.int (1)))) (.cons (.lit (.int (1))) .nil))) (.bin .mod (.bfn .int (.cons (.var 6) .nil)) (.lit (.int (2))))) (.cons (.var 6) .nil)))) .nil) (.cons (.asg (.nm 5) (.call 2 (.cons (.var 5) (.cons (.tup (.cons (.var 6) (.cons (.lit (.int (1))) .nil))) .nil)))) .nil)) ρ st =
      .nx (ρ.set 5 (some (.fz (frD (shv b (i + 1)))))) (if b then st ++ [.lst [.int (-1), .int 1]] else st) := by
  have sv : shv b (i + 1) = cc b (i + 1) := rfl
  rw [sv]
  cases b with
  | true =>
    have fr := frac_ok (p := if (i + 1) % 2 = 0 then -1 else 1) (q := (i + 1 : Int)) (by omega) (bits_of (N := 1) (by split <;> decide) (by decide)) (Nat.lt_of_lt_of_le (m := 2 ^ 60) (by omega) (Nat.pow_le_pow_right (by decide) (by decide)))
    have e1 : cc true (i + 1) = Rat.divInt (if (i + 1) % 2 = 0 then -1 else 1) ((i : Int) + 1) := rfl
    rw [← e1] at fr
    have md : bopS .mod (.int ((i : Int) + 1)) (.int 2) = .d (.int (((i : Int) + 1).fmod 2)) := bopS_mod (by decide)
    have ix : idxS (.lst [.int (-1), .int 1]) (.int (((i : Int) + 1).fmod 2)) = some (.int (if (i + 1) % 2 = 0 then -1 else 1)) := by
      have e2 : ((i : Int) + 1).fmod 2 = (((i + 1) % 2 : Nat) : Int) := by
        rw [Int.fmod_eq_emod_of_nonneg _ (by decide)]
        omega
      rw [e2]
      rcases Nat.mod_two_eq_zero_or_one (i + 1) with h | h <;> rw [h] <;> simp
    simp [ev_var h1]
    simp [ev_var h6, md, ix, fns, g_law_summed, io, fr]
  | false =>
    have sz := sz_nat (k := i + 1) (by omega)
    have o := ldiv_ok hc (sz.mono (by decide)) nat_ne (Nat.lt_of_lt_of_le sz.n (Nat.pow_le_pow_right (by decide) (by decide)))
    rw [frD_nat] at o
    have e1 : shv false i / ((i + 1 : Nat) : Rat) = cc false (i + 1) := by
      show _ = ce i / _
      congr 1
      unfold shv
      by_cases h : i = 0
      · subst h; rfl
      · rw [if_neg h]; rfl
    rw [e1] at o
    have o' : f_law_div [.fz (frD (shv false i)), .fz (.tup [.int ((i : Int) + 1), .int 1])] = .ok (frD (cc false (i + 1))) [] := o
    simp [ev_var h1]
    simp [ev_var h6, ev_var h5, fns, g_law_summed, io, o']
end K03

/-! F16 -/
set_option linter.all false
set_option maxRecDepth 100000
namespace K03
open PySem PD L2 FR
/-- the state before turn i -/
def SumI (x : Nat → Rat) (b : Bool) (n i : Nat) (ρ : Slots) (st : Store) : Prop :=
  ∃ a c o3 o6 o7, ρ = [some (.fz (.lst (seqL x n))), some (.fz (.bl b)), some (.loc a), o3, some (.loc c), some (.fz (frD (shv b i))), o6, o7] ∧ a ≠ c ∧ st[a]? = some (.lst (seqL (fun k => ini b k + psum (cc b) x i k) n)) ∧ st[c]? = some (.lst (seqL (pw x i) n))
theorem sum_turn {G : Gam} (fns : G.fns = g_law_summed) (io : G.io = 0) {x : Nat → Rat} {b : Bool} {n i : Nat} (hi : i + 1 < n) (hn : n < 1000) (z : SumSz x b n) {ρ : Slots} {st : Store} (h : SumI x b n i ρ st) :
    ∃ ρ' st', fBody G (.nm 6) lp0_law_summed (.int (1 + i)) ρ st = .nx ρ' st' ∧ SumI x b n (i + 1) ρ' st' := by
  obtain ⟨a, c, o3, o6, o7, rfl, ac, ha, hc⟩ := h
  have k1 : (1 : Int) + (i : Int) = (i : Int) + 1 := by omega
  rw [k1]
  have by_ := by_ok (s := .lst (seqL (pw x i) n)) (r := .lst (seqL x n)) (.inr rfl) (.inr rfl) hn (Nat.le_refl n) (z.ht i hi)
  have hlen : c < st.length := (List.getElem?_eq_some_iff.mp hc).1
  have halen : a < st.length := (List.getElem?_eq_some_iff.mp ha).1
  have frc : fr 0 (.loc c) st = .ok (.lst (seqL (pw x i) n)) (st.set c (.fz (.lst (seqL (pw x i) n)))) := fr_loc hc (Nat.zero_le _)
  obtain ⟨st1, hst1⟩ : ∃ st1, st1 = st.set c (.fz (.lst (seqL (pw x i) n))) ++ [.lst (seqL (cv (pw x i) x) n)] := ⟨_, rfl⟩
  have l1 : st1.length = st.length + 1 := by rw [hst1]; simp
  have g1 : st1[st.length]? = some (.lst (seqL (pw x (i + 1)) n)) := by
    rw [hst1, List.getElem?_append_right (by simp)]
    simp
    rfl
  have g2 : st1[a]? = some (.lst (seqL (fun k => ini b k + psum (cc b) x i k) n)) := by
    rw [hst1, List.getElem?_append_left (by simpa using halen), List.getElem?_set_ne (Ne.symm ac)]
    exact ha
  obtain ⟨st2, hst2⟩ : ∃ st2, st2 = (if b then st1 ++ [.lst [.int (-1), .int 1]] else st1) := ⟨_, rfl⟩
  have l2 : st1.length ≤ st2.length := by rw [hst2]; split <;> simp
  have up : ∀ j, j < st1.length → st2[j]? = st1[j]? := fun j hj => by
    rw [hst2]
    split
    · exact List.getElem?_append_left hj
    · rfl
  have g1' : st2[st.length]? = some (.lst (seqL (pw x (i + 1)) n)) := by rw [up _ (by omega)]; exact g1
  have g2' : st2[a]? = some (.lst (seqL (fun k => ini b k + psum (cc b) x i k) n)) := by rw [up _ (by omega)]; exact g2
  have sh1 := share_ok (G := G) fns io hi hn (z.hc i (by omega)) (ρ := [some (.fz (.lst (seqL x n))), some (.fz (.bl b)), some (.loc a), o3, some (.loc st.length), some (.fz (frD (shv b i))), some (.fz (.int ((i : Int) + 1))), o7]) (st := st1) (by rfl) (by rfl) (by rfl)
  rw [← hst2] at sh1
  have lc := lc_rng (G := G) (ρ := [some (.fz (.lst (seqL x n))), some (.fz (.bl b)), some (.loc a), o3, some (.loc st.length), some (.fz (frD (shv b (i + 1)))), some (.fz (.int ((i : Int) + 1))), o7]) (st := st2) (own := [7]) (i := 7) (n := n) (elt := .call 3 (.cons (.idx (.var 2) (.var 7)) (.cons (.call 4 (.cons (.idx (.var 4) (.var 7)) (.cons (.var 5) .nil))) .nil))) (f := fun k => ini b k + psum (cc b) x (i + 1) k) (by unfold LIM; omega) fun k hk => by
    have m := lmul_ok (z.hp (i + 1) (by omega) k hk) (z.hc (i + 1) (by omega))
    have p := ladd_ok (z.hs i (by omega) k hk) (z.hm i hi k hk)
    have e : ini b k + psum (cc b) x i k + pw x (i + 1) k * cc b (i + 1) = ini b k + psum (cc b) x (i + 1) k := by
      show _ = ini b k + (psum (cc b) x i k + pw x (i + 1) k * cc b (i + 1))
      grind
    rw [e] at p
    have m' : f_law_mul [.fz (frD (pw x (i + 1) k)), .fz (frD (shv b (i + 1)))] = .ok (frD (pw x (i + 1) k * cc b (i + 1))) [] := m
    have i1 : idxS (.lst (seqL (fun k => ini b k + psum (cc b) x i k) n)) (.int (k : Int)) = some (frD (ini b k + psum (cc b) x i k)) := idx_seq (fun k => ini b k + psum (cc b) x i k) (n := n) (i := k) (j := k) rfl hk
    have i2 := idx_seq (pw x (i + 1)) (n := n) (i := k) (j := k) rfl hk
    clear e m
    generalize ini b k + psum (cc b) x (i + 1) k = u at p
    generalize pw x (i + 1) k * cc b (i + 1) = v at p m'
    generalize ini b k + psum (cc b) x i k = t at p i1
    simp [wipeS, fns, io, g_law_summed, g1', g2', i1, i2, m', p]
  refine ⟨[some (.fz (.lst (seqL x n))), some (.fz (.bl b)), some (.loc st2.length), o3, some (.loc st.length), some (.fz (frD (shv b (i + 1)))), some (.fz (.int ((i : Int) + 1))), o7], st2 ++ [.lst (seqL (fun k => ini b k + psum (cc b) x (i + 1) k) n)], ?_, _, _, _, _, _, rfl, by omega, ?_, ?_⟩
  · have r1 : rngOk 0 = true := by decide
    have r2 : rngOk (n : Int) = true := rngOk_nat (by omega)
    simp only [fBody_nm, lp0_law_summed]
    rw [exs_cons]
    have e1 : ex G (.asg (.nm 4) (.call 0 (.cons (.var 4) (.cons (.var 0) .nil)))) ([some (.fz (.lst (seqL x n))), some (.fz (.bl b)), some (.loc a), o3, some (.loc c), some (.fz (frD (shv b i))), o6, o7].set 6 (some (.fz (.int ((i : Int) + 1))))) st = .nx [some (.fz (.lst (seqL x n))), some (.fz (.bl b)), some (.loc a), o3, some (.loc st.length), some (.fz (frD (shv b i))), some (.fz (.int ((i : Int) + 1))), o7] st1 := by
      rw [hst1]
      simp [fns, io, g_law_summed, frc, by_]
    rw [e1, SR.bind_nx', kSeq_eq, exs_cons, sh1, SR.bind_nx', kSeq_eq, exs_cons]
    simp [kRng_eq r1 r2, lc]
  · rw [List.getElem?_append_right (Nat.le_refl _)]
    simp
  · rw [List.getElem?_append_left (by omega)]
    exact g1'
end K03

/-! F17 -/
set_option linter.all false
set_option maxRecDepth 100000
namespace K03
open PySem PD L2 FR
theorem summed_ok {x : Nat → Rat} {b : Bool} {n : Nat} (hn0 : 0 < n) (hn : n < 1000) (z : SumSz x b n) :
    f_law_summed [.fz (.lst (seqL x n)), .fz (.bl b)] = .ok (.lst (seqL (fun k => ini b k + psum (cc b) x (n - 1) k) n)) [] := by
  rw [show f_law_summed = runDef (md.gam g_law_summed) ⟨8, b_law_summed⟩ from rfl, runDef_eq]
  simp only [b_law_summed, contsOf, slotsOf]
  obtain ⟨G, hG⟩ : ∃ G : Gam, G = { md.gam g_law_summed with io := ([] : List Cont).length } := ⟨_, rfl⟩
  have fns : G.fns = g_law_summed := by rw [hG]; rfl
  have io : G.io = 0 := by rw [hG]; rfl
  rw [← hG]
  have r11 : rngOk 1 = true := by decide
  have r2 : rngOk (n : Int) = true := rngOk_nat (by omega)
  have hi2 : ((n : Int) - 1).toNat = n - 1 := by omega
  have z0 : D.tup [.int 0, .int 1] = frD 0 := rfl
  have z1 : D.tup [.int 1, .int 1] = frD 1 := rfl
  have zero : ∀ (ρ : Slots) (st : Store) (k : Nat) (hk : k < (seqL x n).length), ev G (.tup (.cons (.lit (.int 0)) (.cons (.lit (.int 1)) .nil))) ((wipeS ρ [3]).set 3 (some (.fz (seqL x n)[k]))) st = .ok (.fz (frD ((fun _ => 0 : Nat → Rat) k))) st := fun ρ st k hk => by
    simp [z0]
  have lz : ∀ (ρ : Slots) (st : Store), kLc G ρ [3] (.nm 3) (.lit (.bl true)) (.tup (.cons (.lit (.int 0)) (.cons (.lit (.int 1)) .nil))) (.lst (.fz (.lst (seqL x n)))) st = .ok (.loc st.length) (st ++ [.lst (seqL (fun _ => 0) n)]) := fun ρ st => by
    have h := lc_lst (G := G) (ρ := ρ) (st := st) (own := [3]) (i := 3) (elt := .tup (.cons (.lit (.int 0)) (.cons (.lit (.int 1)) .nil))) (ds := seqL x n) (f := fun _ => 0) (by rw [seqL_length]; unfold LIM; omega) (zero ρ st)
    rw [h, seqL_length]
  have loop := fun (a c : Nat) (o3 o6 o7 : Option Val) (st : Store) (ac : a ≠ c) (ha : st[a]? = some (.lst (seqL (fun k => ini b k + psum (cc b) x 0 k) n))) (hc : st[c]? = some (.lst (seqL (pw x 0) n))) => for_all (I := .rng 1 (n - 1)) (body := fBody G (.nm 6) lp0_law_summed) (n := n - 1) (SumI x b n) (fun i ρ st _ _ => rfl)
    (fun i ρ st hi h => by
      obtain ⟨ρ', st', e, h'⟩ := sum_turn (G := G) fns io (by omega) hn z h
      exact ⟨.int (1 + i), rfl, ρ', st', .inl e, h'⟩) (n - 1) 0 [some (.fz (.lst (seqL x n))), some (.fz (.bl b)), some (.loc a), o3, some (.loc c), some (.fz (.tup [.int 1, .int 1])), o6, o7] st (by omega) ⟨a, c, o3, o6, o7, rfl, ac, ha, hc⟩
  have fin_ : ∀ (ρ : Slots) (st : Store), SumI x b n (n - 1) ρ st → fin 0 (exs G (.cons (.ret (.var 2)) .nil) ρ st) = .ok (.lst (seqL (fun k => ini b k + psum (cc b) x (n - 1) k) n)) [] := fun ρ st h => by
    obtain ⟨a, c, o3, o6, o7, rfl, ac, ha, hc⟩ := h
    simp [io, fr_loc ha (Nat.zero_le _)]
  have st1 : (seqL (fun _ => 0) n).set 0 (frD 1) = seqL (pw x 0) n := by
    rw [seqL_set0]
    exact seqL_congr fun k _ => by
      show _ = FR.one k
      unfold FR.one
      rfl
  have len0 : 0 < (seqL (fun _ => 0) n).length := by rw [seqL_length]; exact hn0
  have s0 : ∀ k, psum (cc b) x 0 k = 0 := fun k => rfl
  cases b with
  | true =>
    have t0 : seqL (fun k => ini true k + psum (cc true) x 0 k) n = seqL (fun _ => 0) n := seqL_congr fun k _ => by
      rw [s0]; exact Rat.add_zero 0
    obtain ⟨ρ', st', e, h⟩ := loop 0 1 none none none [.lst (seqL (fun _ => 0) n), .lst ((seqL (fun _ => 0) n).set 0 (frD 1))] (by omega) (by rw [t0]; rfl) (by rw [← st1]; rfl)
    have f := fin_ ρ' st' h
    simp only [exs_cons] at f
    simp [lz, io]
    rw [kSix_eq (n := 1) (by rfl)]
    simp [io, z1]
    rw [kSix3_eq (n := 1) (m := 0) (ds := seqL (fun _ => 0) n) (by rfl) (by rfl) len0]
    simp [kRng2_bind]
    rw [kRngB_eq r11 r2, hi2]
    simp [e]
    simpa using f
  | false =>
    have t0 : seqL (fun k => ini false k + psum (cc false) x 0 k) n = seqL (pw x 0) n := seqL_congr fun k _ => by
      rw [s0]; exact Rat.add_zero (FR.one k)
    obtain ⟨ρ', st', e, h⟩ := loop 0 1 none none none [.lst ((seqL (fun _ => 0) n).set 0 (frD 1)), .lst ((seqL (fun _ => 0) n).set 0 (frD 1))] (by omega) (by rw [t0, st1]; rfl) (by rw [← st1]; rfl)
    have f := fin_ ρ' st' h
    simp only [exs_cons] at f
    simp [lz, io, hn0]
    rw [kSix_eq (n := 0) (by rfl)]
    simp [io, z1]
    rw [kSix3_eq (n := 0) (m := 0) (ds := seqL (fun _ => 0) n) (by rfl) (by rfl) len0]
    simp [lz, io]
    rw [kSix_eq (n := 1) (by rfl)]
    simp [io, z1]
    rw [kSix3_eq (n := 1) (m := 0) (ds := seqL (fun _ => 0) n) (by rfl) (by rfl) len0]
    simp [kRng2_bind]
    rw [kRngB_eq r11 r2, hi2]
    simp [e]
    simpa using f
end K03

/-! F18 -/
set_option linter.all false
set_option maxRecDepth 100000
namespace PD
open PySem PySem.Spec PyProof.Rows L2
/-- what the law draws from -/
def IsWell (ds : List D) : Prop := ∃ (spot : Nat) (rows : List Int), rows.length ≤ 100000 ∧ ds = [.int spot, .lst (rows.map .int)]
end PD
namespace K03
open PySem PD L2 FR
theorem pull_ok {ds : List D} (h : IsWell ds) {t : Int} (ht : 0 < t) : ∃ (r : Int) (ds' : List D), 0 ≤ r ∧ r < t ∧ IsWell ds' ∧ f_law_pull [.mu (.lst ds), .fz (.int t)] = .ok (.int r) [.lst ds'] := by
  obtain ⟨spot, rows, hl, rfl⟩ := h
  have i1 : idxS (.lst [.int (spot : Int), .lst (rows.map .int)]) (.int 1) = some (.lst (rows.map .int)) := by simp
  have six : ∀ (ρ : Slots), ρ[0]? = some (some (.loc 0)) → ∀ d, kSix3 ρ 0 (.fz (.int 0)) d [.lst [.int (spot : Int), .lst (rows.map .int)]] = .nx ρ [.lst [d, .lst (rows.map .int)]] := fun ρ _ d => kSix3_eq (st := [.lst [.int (spot : Int), .lst (rows.map .int)]]) (n := 0) (m := 0) (ds := [.int (spot : Int), .lst (rows.map .int)]) (by rfl) (by rfl) (by simp)
  by_cases hs : spot < rows.length
  · refine ⟨(rows[spot]).fmod t, [.int ((spot : Int) + 1), .lst (rows.map .int)], Int.fmod_nonneg_of_pos _ ht, Int.fmod_lt_of_pos _ ht, ⟨spot + 1, rows, hl, rfl⟩, ?_⟩
    rw [show f_law_pull = runDef (md.gam g_law_pull) ⟨4, b_law_pull⟩ from rfl, runDef_eq]
    simp only [b_law_pull, contsOf, slotsOf]
    obtain ⟨G, hG⟩ : ∃ G : Gam, G = { md.gam g_law_pull with io := ([.lst [.int (spot : Int), .lst (rows.map .int)]] : List Cont).length } := ⟨_, rfl⟩
    have io : G.io = 1 := by rw [hG]; rfl
    rw [← hG]
    have ix : idxS (.lst (rows.map .int)) (.int (spot : Int)) = some (.int rows[spot]) := by
      rw [idx_lst (k := spot) rfl (by simpa using hs)]
      simp
    have md : bopS .mod (.int rows[spot]) (.int t) = .d (.int (rows[spot].fmod t)) := bopS_mod (by omega)
    simp [io, i1]
    rw [kSix_eq (n := 0) (by rfl)]
    simp [io]
    rw [six _ (by rfl)]
    have ng : ¬ (rows.length : Int) ≤ (spot : Int) := by omega
    have ng2 : ¬ rows.length ≤ spot := by omega
    simp [ng, ng2, ix, md, io]
  · refine ⟨0, [.int ((spot : Int) + 1), .lst (rows.map .int)], by omega, ht, ⟨spot + 1, rows, hl, rfl⟩, ?_⟩
    rw [show f_law_pull = runDef (md.gam g_law_pull) ⟨4, b_law_pull⟩ from rfl, runDef_eq]
    simp only [b_law_pull, contsOf, slotsOf]
    obtain ⟨G, hG⟩ : ∃ G : Gam, G = { md.gam g_law_pull with io := ([.lst [.int (spot : Int), .lst (rows.map .int)]] : List Cont).length } := ⟨_, rfl⟩
    have io : G.io = 1 := by rw [hG]; rfl
    rw [← hG]
    simp [io, i1]
    rw [kSix_eq (n := 0) (by rfl)]
    simp [io]
    rw [six _ (by rfl)]
    have ng : (rows.length : Int) ≤ (spot : Int) := by omega
    have ng2 : rows.length ≤ spot := by omega
    simp [ng, ng2, io]
/-- a drawn number -/
structure Nm (x : Rat) : Prop where
  n : x.num.natAbs < 2 ^ 71
  d : x.den < 2 ^ 64
theorem nm_frac {p q : Int} (hq : 0 < q) (hp : p.natAbs < 2 ^ 71) (h : q < 2 ^ 64) : Nm (Rat.divInt p q) := by
  obtain ⟨k, rfl⟩ := Int.eq_ofNat_of_zero_le (Int.le_of_lt hq)
  have k0 : k ≠ 0 := by omega
  rw [Rat.divInt_ofNat]
  exact ⟨Nat.lt_of_le_of_lt (num_mkRat_le _ _ k0) hp, Nat.lt_of_le_of_lt (Nat.le_of_dvd (by omega) (den_mkRat_dvd _ _ k0)) (by omega)⟩
theorem frac_nm {p q : Int} (hq : 0 < q) (hp : p.natAbs < 2 ^ 71) (h : q < 2 ^ 64) : f_law_frac [.fz (.int p), .fz (.int q)] = .ok (frD (Rat.divInt p q)) [] :=
  frac_ok (by omega) (bits_of hp (by decide)) (Nat.lt_of_lt_of_le (m := 2 ^ 64) (by omega) (Nat.pow_le_pow_right (by decide) (by decide)))
theorem tops {r : Int} (h0 : 0 ≤ r) (h1 : r < 12) : ∃ v : Int, -7 ≤ v ∧ v ≤ 7 ∧ idxS (.lst [.int 1, .int 2, .int 0, .int (-1), .int 3, .int (-2), .int 5, .int 1, .int (-3), .int 7, .int (-1), .int 4]) (.int r) = some (.int v) := by
  obtain ⟨k, rfl⟩ := Int.eq_ofNat_of_zero_le h0
  have hk : k < 12 := by omega
  rw [idx_lst (k := k) rfl (by simpa using hk)]
  match k, hk with
  | 0, _ => exact ⟨1, by decide, by decide, rfl⟩
  | 1, _ => exact ⟨2, by decide, by decide, rfl⟩
  | 2, _ => exact ⟨0, by decide, by decide, rfl⟩
  | 3, _ => exact ⟨-1, by decide, by decide, rfl⟩
  | 4, _ => exact ⟨3, by decide, by decide, rfl⟩
  | 5, _ => exact ⟨-2, by decide, by decide, rfl⟩
  | 6, _ => exact ⟨5, by decide, by decide, rfl⟩
  | 7, _ => exact ⟨1, by decide, by decide, rfl⟩
  | 8, _ => exact ⟨-3, by decide, by decide, rfl⟩
  | 9, _ => exact ⟨7, by decide, by decide, rfl⟩
  | 10, _ => exact ⟨-1, by decide, by decide, rfl⟩
  | 11, _ => exact ⟨4, by decide, by decide, rfl⟩
theorem frD_int (v : Int) : D.tup [.int v, .int 1] = frD (v : Rat) := by
  unfold frD
  rw [Rat.num_intCast, Rat.den_intCast]
  rfl
theorem number_ok {ds : List D} (h : IsWell ds) : ∃ (x : Rat) (ds' : List D), Nm x ∧ IsWell ds' ∧ f_law_number [.mu (.lst ds)] = .ok (frD x) [.lst ds'] := by
  obtain ⟨w, ds1, w0, w1, hw, e1⟩ := pull_ok h (t := 12) (by decide)
  obtain ⟨r, ds2, r0, r1, hr, e2⟩ := pull_ok hw (t := 12) (by decide)
  obtain ⟨v, v0, v1, ev_⟩ := tops r0 r1
  rw [show f_law_number = runDef (md.gam g_law_number) ⟨3, b_law_number⟩ from rfl, runDef_eq]
  simp only [b_law_number, contsOf, slotsOf]
  obtain ⟨G, hG⟩ : ∃ G : Gam, G = { md.gam g_law_number with io := ([.lst ds] : List Cont).length } := ⟨_, rfl⟩
  have fns : G.fns = g_law_number := by rw [hG]; rfl
  have io : G.io = 1 := by rw [hG]; rfl
  rw [← hG]
  have nn : ([D.int 1, .int 2, .int 0, .int (-1), .int 3, .int (-2), .int 5, .int 1, .int (-3), .int 7, .int (-1), .int 4] : List D).length ≤ LIM := by decide
  by_cases c1 : w < 5
  · refine ⟨(v : Rat), ds2, ⟨by rw [Rat.num_intCast]; omega, by rw [Rat.den_intCast]; decide⟩, hr, ?_⟩
    rw [← frD_int]
    simp [fns, g_law_number, io, kCal2_m1, e1, e2, kLst2_eq nn, ev_, c1]
  · by_cases c2 : w < 8
    · refine ⟨_, ds2, nm_frac (p := v) (q := 2) (by decide) (by omega) (by decide), hr, ?_⟩
      simp [fns, g_law_number, io, kCal2_m1, e1, e2, kLst2_eq nn, ev_, c1, c2, frac_nm (p := v) (q := 2) (by decide) (by omega) (by decide)]
    · by_cases c3 : w < 10
      · obtain ⟨s, ds3, s0, s1, hs, e3⟩ := pull_ok hr (t := 5) (by decide)
        refine ⟨_, ds3, nm_frac (p := v) (q := 3 + s) (by omega) (by omega) (by omega), hs, ?_⟩
        simp [fns, g_law_number, io, kCal2_m1, e1, e2, e3, kLst2_eq nn, ev_, c1, c2, c3, frac_nm (p := v) (q := 3 + s) (by omega) (by omega) (by omega)]
      · by_cases c4 : w = 10
        · obtain ⟨s, ds3, s0, s1, hs, e3⟩ := pull_ok hr (t := 60) (by decide)
          obtain ⟨t, ds4, t0, t1, ht, e4⟩ := pull_ok hs (t := 60) (by decide)
          have m : mok v 60 = true := mok_of (N := 4) (M := 6) (by omega) (by decide) (by decide)
          refine ⟨_, ds4, nm_frac (p := v * 60 + s) (q := 1 + t) (by omega) (by omega) (by omega), ht, ?_⟩
          simp [fns, g_law_number, io, kCal2_m1, e1, e2, e3, e4, kLst2_eq nn, ev_, c1, c2, c3, c4, bopS_mul m, frac_nm (p := v * 60 + s) (q := 1 + t) (by omega) (by omega) (by omega)]
        · obtain ⟨s, ds3, s0, s1, hs, e3⟩ := pull_ok hr (t := 60) (by decide)
          have m : mok v (10 ^ 20) = true := mok_of (N := 4) (M := 67) (by omega) (by decide) (by decide)
          have m2 : mok 7 s = true := mok_of (N := 4) (M := 67) (by decide) (by omega) (by decide)
          have p1 : bopS .pow (.int 10) (.int 20) = .d (.int (10 ^ 20)) := bopS_pow (i := 10) (j := 20) (by decide)
          have p2 : bopS .pow (.int 10) (.int 19) = .d (.int (10 ^ 19)) := bopS_pow (i := 10) (j := 19) (by decide)
          refine ⟨_, ds3, nm_frac (p := v * 10 ^ 20 + 1) (q := 10 ^ 19 + 7 * s) (by omega) (by omega) (by omega), hs, ?_⟩
          have fr := frac_nm (p := v * 10 ^ 20 + 1) (q := 10 ^ 19 + 7 * s) (by omega) (by omega) (by omega)
          have c4' : (w == 10) = false := by simpa using c4
          have m' := bopS_mul m
          have m2' := bopS_mul m2
          generalize (10 : Int) ^ 20 = A at *
          generalize (10 : Int) ^ 19 = B at *
          simp [fns, g_law_number, io, kCal2_m1, e1, e2, e3, kLst2_eq nn, ev_, c1, c2, c3, c4', m', m2', p1, p2, fr]
theorem some_ok {ds : List D} (h : IsWell ds) : ∃ (x : Rat) (ds' : List D), Nm x ∧ x ≠ 0 ∧ IsWell ds' ∧ f_law_some [.mu (.lst ds)] = .ok (frD x) [.lst ds'] := by
  obtain ⟨x, ds1, hx, hw, e⟩ := number_ok h
  rw [show f_law_some = runDef (md.gam g_law_some) ⟨2, b_law_some⟩ from rfl, runDef_eq]
  simp only [b_law_some, contsOf, slotsOf]
  obtain ⟨G, hG⟩ : ∃ G : Gam, G = { md.gam g_law_some with io := ([.lst ds] : List Cont).length } := ⟨_, rfl⟩
  have fns : G.fns = g_law_some := by rw [hG]; rfl
  have io : G.io = 1 := by rw [hG]; rfl
  rw [← hG]
  have km := kCal2_m (st := [.lst ds]) (n := 0) (ds := ds) (muts := [true]) (f := f_law_number) rfl
  have i0 : idxS (frD x) (.int 0) = some (.int x.num) := by unfold frD; simp
  by_cases c : x.num = 0
  · have h2 : D.tup [.int 1, .int 2] = frD (Rat.divInt 1 2) := by
      unfold frD
      rw [show (Rat.divInt 1 2).num = 1 by decide +kernel, show (Rat.divInt 1 2).den = 2 by decide +kernel]
      rfl
    refine ⟨Rat.divInt 1 2, ds1, nm_frac (by decide) (by decide) (by decide), by decide +kernel, hw, ?_⟩
    rw [← h2]
    simp [fns, g_law_some, io, km, e, i0, c]
  · refine ⟨x, ds1, hx, fun z => c (by rw [z]; rfl), hw, ?_⟩
    simp [fns, g_law_some, io, km, e, i0, c]
theorem entry_ok {ds : List D} (h : IsWell ds) (long : Bool) : ∃ (x : Rat) (ds' : List D), Nm x ∧ (long = false → x.den ∣ 12) ∧ IsWell ds' ∧ f_law_entry [.mu (.lst ds), .fz (.bl long)] = .ok (frD x) [.lst ds'] := by
  rw [show f_law_entry = runDef (md.gam g_law_entry) ⟨2, b_law_entry⟩ from rfl, runDef_eq]
  simp only [b_law_entry, contsOf, slotsOf]
  obtain ⟨G, hG⟩ : ∃ G : Gam, G = { md.gam g_law_entry with io := ([.lst ds] : List Cont).length } := ⟨_, rfl⟩
  have fns : G.fns = g_law_entry := by rw [hG]; rfl
  have io : G.io = 1 := by rw [hG]; rfl
  rw [← hG]
  cases long with
  | true =>
    obtain ⟨x, ds1, hx, hw, e⟩ := number_ok h
    have km := kCal2_m (st := [.lst ds]) (n := 0) (ds := ds) (muts := [true]) (f := f_law_number) rfl
    refine ⟨x, ds1, hx, by simp, hw, ?_⟩
    simp [fns, g_law_entry, io, km, e]
  | false =>
    obtain ⟨r, ds1, r0, r1, hw, e⟩ := pull_ok h (t := 13) (by decide)
    obtain ⟨s, ds2, s0, s1, hw2, e2⟩ := pull_ok hw (t := 4) (by decide)
    refine ⟨_, ds2, nm_frac (p := r - 6) (q := 1 + s) (by omega) (by omega) (by omega), fun _ => ?_, hw2, ?_⟩
    · obtain ⟨k, rfl⟩ := Int.eq_ofNat_of_zero_le s0
      have e3 : (1 : Int) + (k : Int) = ((k + 1 : Nat) : Int) := by omega
      rw [e3, Rat.divInt_ofNat]
      refine Nat.dvd_trans (den_mkRat_dvd _ _ (by omega)) ?_
      have : k < 4 := by omega
      match k, this with
      | 0, _ => decide
      | 1, _ => decide
      | 2, _ => decide
      | 3, _ => decide
    · simp [fns, g_law_entry, io, kCal2_m1, e, e2, frac_nm (p := r - 6) (q := 1 + s) (by omega) (by omega) (by omega)]
end K03

/-! F19 -/
set_option linter.all false
set_option maxRecDepth 100000
namespace K03
open PySem PD L2 FR
def RowsI (n : Nat) (st : Store) : Prop := ∃ rows : List Int, rows.length ≤ n ∧ st = [.lst (rows.map .int)]
theorem rows_app {n : Nat} {rows : List Int} (h : rows.length ≤ n) (v : Int) : RowsI (n + 1) [.lst (rows.map .int ++ [.int v])] := ⟨rows ++ [v], by simpa using h, by simp⟩
theorem well_mix {G : Gam} (io : G.io = 0) {S : D} {spot n : Nat} {c m : Int} (hs : spot < 100) (m0 : 0 ≤ m) (m1 : m < 2147483648) (hn : n < 100000) (o : Option Val) {st : Store} (h : RowsI n st) :
    ∃ m' o' st', forLoop (.rng 0 5) (fBody G (.nm 5) lp0_law_well) 5 0 [some (.fz S), some (.loc 0), some (.fz (.int spot)), some (.fz (.int c)), some (.fz (.int m)), o] st = .nx [some (.fz S), some (.loc 0), some (.fz (.int spot)), some (.fz (.int c)), some (.fz (.int m')), o'] st' ∧ RowsI (n + 5) st' := by
  have loop := for_all (I := .rng 0 5) (body := fBody G (.nm 5) lp0_law_well) (n := 5) (fun i ρ st => RowsI (n + i) st ∧ ∃ (m : Int) (o : Option Val), 0 ≤ m ∧ m < 2147483648 ∧ ρ = [some (.fz S), some (.loc 0), some (.fz (.int spot)), some (.fz (.int c)), some (.fz (.int m)), o]) (fun i ρ st _ _ => rfl)
    (fun i ρ st hi ⟨⟨rows, hr, e1⟩, m, o, m0, m1, e2⟩ => by
      subst e1 e2
      have k1 : mok m m = true := mok_of (N := 31) (M := 31) (by omega) (by omega) (by decide)
      have k2 : mok 40014 (i : Int) = true := mok_of (N := 31) (M := 31) (by decide) (by omega) (by decide)
      have md : bopS .mod (.int (m * m + 40014 * (i : Int) + (spot : Int) + 1)) (.int 2147483563) = .d (.int ((m * m + 40014 * (i : Int) + (spot : Int) + 1).fmod 2147483563)) := bopS_mod (by decide)
      obtain ⟨m', hm'⟩ : ∃ m', m' = (m * m + 40014 * (i : Int) + (spot : Int) + 1).fmod 2147483563 := ⟨_, rfl⟩
      rw [← hm'] at md
      have b0 : 0 ≤ m' := by rw [hm']; exact Int.fmod_nonneg_of_pos _ (by decide)
      have b1 : m' < 2147483563 := by rw [hm']; exact Int.fmod_lt_of_pos _ (by decide)
      have fd : bopS .fdv (.int m') (.int 7) = .d (.int (m'.fdiv 7)) := bopS_fdv (by decide) (pyl_of (by decide +kernel))
      refine ⟨.int (0 + i), rfl, [some (.fz S), some (.loc 0), some (.fz (.int spot)), some (.fz (.int c)), some (.fz (.int m')), some (.fz (.int i))], [.lst (rows.map .int ++ [.int (m'.fdiv 7)])], .inl ?_, rows_app hr _, m', _, b0, by omega, rfl⟩
      simp only [fBody_nm, lp0_law_well]
      simp [bopS_mul k1, bopS_mul k2, md]
      rw [ex_app (n := 0) (ds := rows.map .int) (by rfl) (by rfl)]
      simp [fd, io]
      rw [kApp2_eq (ds := rows.map .int) (by rfl) (by rw [List.length_map]; unfold LIM; omega)]
      simp) 5 0 _ st (by omega) ⟨h, m, o, m0, m1, rfl⟩
  obtain ⟨ρ', st', e, hr, m', o', _, _, rfl⟩ := loop
  exact ⟨m', o', st', e, hr⟩
theorem well_cut {G : Gam} (io : G.io = 0) {S : D} {spot n : Nat} {c : Int} (c0 : 0 ≤ c) (hn : n < 100000) (x o : Option Val) {st : Store} (h : RowsI n st) :
    ∃ c' o' st', forLoop (.rng 0 50) (fBody G (.nm 5) lp1_law_well) 50 0 [some (.fz S), some (.loc 0), some (.fz (.int spot)), some (.fz (.int c)), x, o] st = .nx [some (.fz S), some (.loc 0), some (.fz (.int spot)), some (.fz (.int c')), x, o'] st' ∧ RowsI (n + 50) st' := by
  have loop := for_all (I := .rng 0 50) (body := fBody G (.nm 5) lp1_law_well) (n := 50) (fun i ρ st => RowsI (n + i) st ∧ ∃ (c : Int) (o : Option Val), 0 ≤ c ∧ ρ = [some (.fz S), some (.loc 0), some (.fz (.int spot)), some (.fz (.int c)), x, o]) (fun i ρ st _ _ => rfl)
    (fun i ρ st hi ⟨⟨rows, hr, e1⟩, c, o, c0, e2⟩ => by
      subst e1 e2
      by_cases hc : 0 < c
      · have md : bopS .mod (.int c) (.int 60) = .d (.int (c.fmod 60)) := bopS_mod (by decide)
        have fd : bopS .fdv (.int c) (.int 60) = .d (.int (c.fdiv 60)) := bopS_fdv (by decide) (pyl_of (by decide +kernel))
        refine ⟨.int (0 + i), rfl, [some (.fz S), some (.loc 0), some (.fz (.int spot)), some (.fz (.int (c.fdiv 60))), x, some (.fz (.int i))], [.lst (rows.map .int ++ [.int (c.fmod 60)])], .inl ?_, rows_app hr _, _, _, Int.fdiv_nonneg c0 (by decide), rfl⟩
        simp only [fBody_nm, lp1_law_well]
        simp [hc]
        rw [ex_app (n := 0) (ds := rows.map .int) (by rfl) (by rfl)]
        simp [md, io]
        rw [kApp2_eq (ds := rows.map .int) (by rfl) (by rw [List.length_map]; unfold LIM; omega)]
        simp [fd]
      · refine ⟨.int (0 + i), rfl, [some (.fz S), some (.loc 0), some (.fz (.int spot)), some (.fz (.int c)), x, some (.fz (.int i))], [.lst (rows.map .int)], .inl ?_, ⟨rows, by omega, rfl⟩, c, _, c0, rfl⟩
        simp only [fBody_nm, lp1_law_well]
        simp [hc]) 50 0 _ st (by omega) ⟨h, c, o, c0, rfl⟩
  obtain ⟨ρ', st', e, hr, c', o', _, rfl⟩ := loop
  exact ⟨c', o', st', e, hr⟩
theorem well_ok {ns : List Int} (hl : ns.length ≤ 63) (hb : ∀ z ∈ ns, Builtin.Int.intBits z ≤ 1048576) : ∃ ds, IsWell ds ∧ f_law_well [.fz (.lst (ns.map .int))] = .okl ds [] := by
  rw [show f_law_well = runDef (md.gam g_law_well) ⟨6, b_law_well⟩ from rfl, runDef_eq]
  simp only [b_law_well, contsOf, slotsOf]
  obtain ⟨G, hG⟩ : ∃ G : Gam, G = { md.gam g_law_well with io := ([] : List Cont).length } := ⟨_, rfl⟩
  have io : G.io = 0 := by rw [hG]; rfl
  rw [← hG]
  obtain ⟨S, hS⟩ : ∃ S, S = D.lst (ns.map .int) := ⟨_, rfl⟩
  have len : bfnS .len [S] = .d (.int ns.length) := by rw [hS]; simp
  have at_ : ∀ (k : Nat) (hk : k < ns.length), idxS S (.int k) = some (.int ns[k]) := fun k hk => by
    rw [hS, idx_lst (k := k) rfl (by simpa using hk)]
    simp
  have p18 : bopS .pow (.int 10) (.int 18) = .d (.int (10 ^ 18)) := bopS_pow (i := 10) (j := 18) (by decide)
  rw [← hS]
  have loop := for_all (I := .rng 0 63) (body := fBody G (.nm 2) lp2_law_well) (n := 63) (fun i ρ st => RowsI (50 * i) st ∧ ∃ a b c d, ρ = [some (.fz S), some (.loc 0), a, b, c, d]) (fun i ρ st _ _ => rfl)
    (fun i ρ st hi ⟨hr, a, b, c, d, e2⟩ => by
      subst e2
      have hr0 := hr
      obtain ⟨rows, hr, rfl⟩ := hr
      by_cases hs : i < ns.length
      · have hz := hb ns[i] (List.getElem_mem hs)
        have hzb := bits_lt ns[i]
        have m3 : mok 3 ns[i] = true := mok_of (N := 31) (M := 1048576) (by decide) (Nat.lt_of_lt_of_le hzb (Nat.pow_le_pow_right (by decide) hz)) (by decide)
        obtain ⟨z, hz_⟩ : ∃ z : Int, z = (if ns[i] < 0 then 2 - 3 * ns[i] else ns[i]) := ⟨_, rfl⟩
        have z0 : 0 ≤ z := by rw [hz_]; split <;> omega
        by_cases hc : z < 10 ^ 18
        · have k1 : mok z 16807 = true := mok_of (N := 61) (M := 31) (by omega) (by decide) (by decide)
          have k2 : mok (i : Int) 7919 = true := mok_of (N := 31) (M := 31) (by omega) (by decide) (by decide)
          have md : bopS .mod (.int (z * 16807 + (i : Int) * 7919 + 3)) (.int 2147483647) = .d (.int ((z * 16807 + (i : Int) * 7919 + 3).fmod 2147483647)) := bopS_mod (by decide)
          have b0 : 0 ≤ (z * 16807 + (i : Int) * 7919 + 3).fmod 2147483647 := Int.fmod_nonneg_of_pos _ (by decide)
          have b1 : (z * 16807 + (i : Int) * 7919 + 3).fmod 2147483647 < 2147483647 := Int.fmod_lt_of_pos _ (by decide)
          obtain ⟨m', o', st', e, hr'⟩ := well_mix (G := G) io (S := S) (spot := i) (c := z) (by omega) b0 (by omega) (n := 50 * i) (by omega) d hr0
          refine ⟨.int (0 + i), rfl, _, st', .inl ?_, ?_, some (.fz (.int i)), some (.fz (.int z)), some (.fz (.int m')), o', rfl⟩
          · simp only [fBody_nm, lp2_law_well]
            generalize (10 : Int) ^ 18 = A at *
            generalize (z * 16807 + (i : Int) * 7919 + 3).fmod 2147483647 = M at *
            by_cases hn : ns[i] < 0
            · rw [if_pos hn] at hz_
              simp [len, hs, at_ i hs, hn, bopS_mul m3, ← hz_, p18, hc, bopS_mul k1, bopS_mul k2, md, kRng_eq (i := 0) (j := 5) (by decide) (by decide), e]
            · rw [if_neg hn] at hz_
              rw [← hz_] at hn
              simp [len, hs, at_ i hs, ← hz_, hn, p18, hc, bopS_mul k1, bopS_mul k2, md, kRng_eq (i := 0) (j := 5) (by decide) (by decide), e]
          · obtain ⟨r, h1, h2⟩ := hr'
            exact ⟨r, by omega, h2⟩
        · obtain ⟨c', o', st', e, hr'⟩ := well_cut (G := G) io (S := S) (spot := i) (c := z) z0 (n := 50 * i) (by omega) c d hr0
          refine ⟨.int (0 + i), rfl, _, st', .inl ?_, ?_, some (.fz (.int i)), some (.fz (.int c')), c, o', rfl⟩
          · simp only [fBody_nm, lp2_law_well]
            generalize (10 : Int) ^ 18 = A at *
            by_cases hn : ns[i] < 0
            · rw [if_pos hn] at hz_
              simp [len, hs, at_ i hs, hn, bopS_mul m3, ← hz_, p18, hc, kRng_eq (i := 0) (j := 50) (by decide) (by decide), e]
            · rw [if_neg hn] at hz_
              rw [← hz_] at hn
              simp [len, hs, at_ i hs, ← hz_, hn, p18, hc, kRng_eq (i := 0) (j := 50) (by decide) (by decide), e]
          · obtain ⟨r, h1, h2⟩ := hr'
            exact ⟨r, by omega, h2⟩
      · refine ⟨.int (0 + i), rfl, _, [.lst (rows.map .int)], .inl ?_, ⟨rows, by omega, rfl⟩, some (.fz (.int i)), b, c, d, rfl⟩
        simp only [fBody_nm, lp2_law_well]
        have hs' : ¬ ((i : Int) < (ns.length : Int)) := by omega
        simp [len, hs]) 63 0 [some (.fz S), some (.loc 0), none, none, none, none] [.lst []] (by omega) ⟨⟨[], by simp, rfl⟩, _, _, _, _, rfl⟩
  obtain ⟨ρ', st', e, ⟨rows, hr, rfl⟩, a, b, c, d, rfl⟩ := loop
  refine ⟨[.int 0, .lst (rows.map .int)], ⟨0, rows, by omega, rfl⟩, ?_⟩
  have fl : fr 0 (.loc 0) [.lst (rows.map .int)] = .ok (.lst (rows.map .int)) [.fz (.lst (rows.map .int))] := fr_loc rfl (Nat.le_refl _)
  have rl : kRetl 0 (.loc 1) [.fz (.lst (rows.map .int)), .lst [.int 0, .lst (rows.map .int)]] = .rtl [.int 0, .lst (rows.map .int)] [.fz (.lst (rows.map .int)), .lst [.int 0, .lst (rows.map .int)]] := kRetl_eq rfl (by omega)
  simp [io, kRng_eq (i := 0) (j := 63) (by decide) (by decide), e, fl, rl]
end K03

/-! F20 -/
set_option linter.all false
set_option maxRecDepth 100000
namespace K03
open PySem PD L2 FR
theorem series_of_ok {a b : Nat → Rat} {n d len : Nat} (hd : 0 < d) (hd2 : d < 1000) (hl : len ≤ 40) (h0 : b 0 ≠ 0) (hb : (b 0).num.natAbs < 2 ^ 4500) (z : QuoSz a b (quo (upTo a n) b d) n d len) :
    f_series_of [.fz (.tup (seqL a n)), .fz (.tup (seqL b d)), .fz (.int len)] = .ok (.tup (seqL (quo (upTo a n) b d) (len + 1))) [] := by
  have q := quotient_ok hd hd2 (by omega) h0 hb z
  rw [show f_series_of = runDef (md.gam g_series_of) ⟨3, b_series_of⟩ from rfl, runDef_eq]
  simp only [b_series_of, contsOf, slotsOf]
  obtain ⟨G, hG⟩ : ∃ G : Gam, G = { md.gam g_series_of with io := ([] : List Cont).length } := ⟨_, rfl⟩
  have fns : G.fns = g_series_of := by rw [hG]; rfl
  have io : G.io = 0 := by rw [hG]; rfl
  have c2 : G.con[2]? = some (.int 40) := by rw [hG]; rfl
  rw [← hG]
  have i0 : idxS (.tup (seqL b d)) (.int 0) = some (frD (b 0)) := idx_row _ rfl hd
  have i1 : idxS (frD (b 0)) (.int 0) = some (.int (b 0).num) := by unfold frD; simp
  have n0 : (b 0).num ≠ 0 := fun z => h0 (Rat.num_eq_zero.mp z)
  have d0 : d ≠ 0 := by omega
  have l0 : ¬ 40 < len := by omega
  have l1 : ¬ (40 : Int) < (len : Int) := by omega
  simp [i0, i1, n0, c2, fns, g_series_of, io, d0, l0, l1, q]
/-- a denominator that is none -/
def BadDen (b : D) : Prop := b = .tup [] ∨ ∃ ds, b = .tup (frD 0 :: ds)
theorem series_of_bad {a b : D} {len : Int} (h : BadDen b) : f_series_of [.fz a, .fz b, .fz (.int len)] = .exc ⟨"BadPoly", []⟩ [] := by
  rw [show f_series_of = runDef (md.gam g_series_of) ⟨3, b_series_of⟩ from rfl, runDef_eq]
  simp only [b_series_of, contsOf, slotsOf]
  obtain ⟨G, hG⟩ : ∃ G : Gam, G = { md.gam g_series_of with io := ([] : List Cont).length } := ⟨_, rfl⟩
  rw [← hG]
  rcases h with rfl | ⟨ds, rfl⟩
  · simp
  · have i1 : idxS (frD 0) (.int 0) = some (.int 0) := by unfold frD; simp
    have n0 : ¬ ((ds.length : Int) + 1 = 0) := by omega
    simp [i1, n0]
theorem series_of_long {a b : D} {bs : List D} {y : Rat} (hb : b = .tup (frD y :: bs)) (h0 : y ≠ 0) : f_series_of [.fz a, .fz b, .fz (.int 41)] = .exc ⟨"TooLarge", [("what", .str "length")]⟩ [] := by
  subst hb
  rw [show f_series_of = runDef (md.gam g_series_of) ⟨3, b_series_of⟩ from rfl, runDef_eq]
  simp only [b_series_of, contsOf, slotsOf]
  obtain ⟨G, hG⟩ : ∃ G : Gam, G = { md.gam g_series_of with io := ([] : List Cont).length } := ⟨_, rfl⟩
  have c2 : G.con[2]? = some (.int 40) := by rw [hG]; rfl
  have io : G.io = 0 := by rw [hG]; rfl
  rw [← hG]
  have i1 : idxS (frD y) (.int 0) = some (.int y.num) := by unfold frD; simp
  have n0 : y.num ≠ 0 := fun z => h0 (Rat.num_eq_zero.mp z)
  have n1 : ¬ ((bs.length : Int) + 1 = 0) := by omega
  simp [i1, n0, n1, c2, io]
theorem exp_series_ok {t : Rat} {n : Nat} (hn : n ≤ 40) (ht : Sz NB t) (h1 : ∀ k ≤ n, Sz NB (expS t k)) (h2 : ∀ k ≤ n, Sz NB (expS t k * t)) : f_exp_series [.fz (frD t), .fz (.int n)] = .ok (.tup (seqL (expS t) (n + 1))) [] := by
  have p := powers_ok (n := n) (by omega) ht h1 h2
  rw [show f_exp_series = runDef (md.gam g_exp_series) ⟨2, b_exp_series⟩ from rfl, runDef_eq]
  simp only [b_exp_series, contsOf, slotsOf]
  obtain ⟨G, hG⟩ : ∃ G : Gam, G = { md.gam g_exp_series with io := ([] : List Cont).length } := ⟨_, rfl⟩
  have fns : G.fns = g_exp_series := by rw [hG]; rfl
  have io : G.io = 0 := by rw [hG]; rfl
  have c2 : G.con[2]? = some (.int 40) := by rw [hG]; rfl
  rw [← hG]
  have l0 : ¬ 40 < n := by omega
  have l1 : ¬ (40 : Int) < (n : Int) := by omega
  simp [c2, fns, g_exp_series, io, l0, l1, p]
theorem exp_series_long {t : D} : f_exp_series [.fz t, .fz (.int 41)] = .exc ⟨"TooLarge", [("what", .str "length")]⟩ [] := by
  rw [show f_exp_series = runDef (md.gam g_exp_series) ⟨2, b_exp_series⟩ from rfl, runDef_eq]
  simp only [b_exp_series, contsOf, slotsOf]
  obtain ⟨G, hG⟩ : ∃ G : Gam, G = { md.gam g_exp_series with io := ([] : List Cont).length } := ⟨_, rfl⟩
  have c2 : G.con[2]? = some (.int 40) := by rw [hG]; rfl
  have io : G.io = 0 := by rw [hG]; rfl
  rw [← hG]
  simp [c2, io]
end K03

/-! F21 -/
set_option linter.all false
set_option maxRecDepth 100000
namespace PD
open PySem PySem.Spec PyProof.Rows L2
theorem isx_1 {ex : Str → Str → Option Bool} {c t : Str} {b : Bool} (h : ex c t = some b) : isxS ex c [t] = some b := by
  show (match ex c t with | some true => some true | some false => some false | none => none) = _
  rw [h]
  cases b <;> rfl
theorem endH_nx {i : Nat} {ρ : Slots} {st : Store} (h : noExn (ρ.set i none) = true) : endH (some i) (.nx ρ st) = .nx (ρ.set i none) st := if_pos h
end PD
namespace K03
open PySem PD L2 FR
theorem s_pq : (("powers" : Str) == "quotient") = false := by decide +kernel
theorem s_lq : (("log" : Str) == "quotient") = false := by decide +kernel
theorem s_lp : (("log" : Str) == "powers") = false := by decide +kernel
theorem s_eq : (("exp" : Str) == "quotient") = false := by decide +kernel
theorem s_ep : (("exp" : Str) == "powers") = false := by decide +kernel
theorem s_el : (("exp" : Str) == "log") = false := by decide +kernel
theorem asked_q {a b c d : D} (h : f_series_of [.fz a, .fz b, .fz c] = .ok d []) : f_law_asked [.fz (.str "quotient"), .fz a, .fz b, .fz c] = .ok (.tup [.str "told", d]) [] := by
  rw [show f_law_asked = runDef (md.gam g_law_asked) ⟨6, b_law_asked⟩ from rfl, runDef_eq]
  simp only [b_law_asked, contsOf, slotsOf]
  obtain ⟨G, hG⟩ : ∃ G : Gam, G = { md.gam g_law_asked with io := ([] : List Cont).length } := ⟨_, rfl⟩
  have fns : G.fns = g_law_asked := by rw [hG]; rfl
  have io : G.io = 0 := by rw [hG]; rfl
  rw [← hG]
  simp [fns, io, g_law_asked, h]
theorem asked_p {a b c d : D} (h : f_exp_series [.fz a, .fz c] = .ok d []) : f_law_asked [.fz (.str "powers"), .fz a, .fz b, .fz c] = .ok (.tup [.str "told", d]) [] := by
  rw [show f_law_asked = runDef (md.gam g_law_asked) ⟨6, b_law_asked⟩ from rfl, runDef_eq]
  simp only [b_law_asked, contsOf, slotsOf]
  obtain ⟨G, hG⟩ : ∃ G : Gam, G = { md.gam g_law_asked with io := ([] : List Cont).length } := ⟨_, rfl⟩
  have fns : G.fns = g_law_asked := by rw [hG]; rfl
  have io : G.io = 0 := by rw [hG]; rfl
  rw [← hG]
  simp [fns, io, g_law_asked, h, s_pq]
theorem asked_l {a b c d : D} (h : f_series_log [.fz a] = .ok d []) : f_law_asked [.fz (.str "log"), .fz a, .fz b, .fz c] = .ok (.tup [.str "told", d]) [] := by
  rw [show f_law_asked = runDef (md.gam g_law_asked) ⟨6, b_law_asked⟩ from rfl, runDef_eq]
  simp only [b_law_asked, contsOf, slotsOf]
  obtain ⟨G, hG⟩ : ∃ G : Gam, G = { md.gam g_law_asked with io := ([] : List Cont).length } := ⟨_, rfl⟩
  have fns : G.fns = g_law_asked := by rw [hG]; rfl
  have io : G.io = 0 := by rw [hG]; rfl
  rw [← hG]
  simp [fns, io, g_law_asked, h, s_lq, s_lp]
theorem asked_e {a b c d : D} (h : f_series_exp [.fz a] = .ok d []) : f_law_asked [.fz (.str "exp"), .fz a, .fz b, .fz c] = .ok (.tup [.str "told", d]) [] := by
  rw [show f_law_asked = runDef (md.gam g_law_asked) ⟨6, b_law_asked⟩ from rfl, runDef_eq]
  simp only [b_law_asked, contsOf, slotsOf]
  obtain ⟨G, hG⟩ : ∃ G : Gam, G = { md.gam g_law_asked with io := ([] : List Cont).length } := ⟨_, rfl⟩
  have fns : G.fns = g_law_asked := by rw [hG]; rfl
  have io : G.io = 0 := by rw [hG]; rfl
  rw [← hG]
  simp [fns, io, g_law_asked, h, s_eq, s_ep, s_el]
section
theorem xTT : exmL md.exm "TooLarge" "TooLarge" = some true := by decide +kernel
theorem xTR : exmL md.exm "TooLarge" "RunsError" = some true := by decide +kernel
theorem xTP : exmL md.exm "TooLarge" "BadPoly" = some false := by decide +kernel
theorem xTN : exmL md.exm "TooLarge" "BadNumber" = some false := by decide +kernel
theorem xPT : exmL md.exm "BadPoly" "TooLarge" = some false := by decide +kernel
theorem xPP : exmL md.exm "BadPoly" "BadPoly" = some true := by decide +kernel
theorem xPR : exmL md.exm "BadPoly" "RunsError" = some true := by decide +kernel
theorem xPN : exmL md.exm "BadPoly" "BadNumber" = some false := by decide +kernel
theorem xNT : exmL md.exm "BadNumber" "TooLarge" = some false := by decide +kernel
theorem xNP : exmL md.exm "BadNumber" "BadPoly" = some false := by decide +kernel
theorem xNN : exmL md.exm "BadNumber" "BadNumber" = some true := by decide +kernel
theorem xNR : exmL md.exm "BadNumber" "RunsError" = some true := by decide +kernel
theorem xTPN : isxS (exmL md.exm) "TooLarge" ["BadPoly", "BadNumber"] = some false := by
  show (match exmL md.exm "TooLarge" "BadPoly" with | some true => some true | some false => isxS (exmL md.exm) "TooLarge" ["BadNumber"] | none => none) = _
  rw [xTP, isx_1 xTN]
theorem lkw {w : D} : List.lookup ("what" : Str) [(("what" : Str), w)] = some w := by
  unfold List.lookup
  rw [show (("what" : Str) == "what") = true by decide +kernel]
end
/-- the three clauses -/
theorem clause_T {G : Gam} (ex_ : G.exm = exmL md.exm) (xf : G.xfl "TooLarge" "what" = true) (io : G.io = 0) {x0 x1 x2 x3 : D} {o4 o5 : Option Val} {w : Str} {st : Store} {hs : Hds} :
    exh G (.cons ["TooLarge"] false (some 5) (.cons (.asg (.nm 4) (.tup (.cons (.xfld 5 "what") (.cons (.and_ (.isx 5 ["RunsError"] false) (.not_ (.isx 5 ["BadPoly", "BadNumber"] true))) .nil)))) .nil) hs) ⟨"TooLarge", [("what", .str w)]⟩ [some (.fz x0), some (.fz x1), some (.fz x2), some (.fz x3), o4, o5] st = .nx [some (.fz x0), some (.fz x1), some (.fz x2), some (.fz x3), some (.fz (.tup [.str w, .bl true])), none] st := by
  have hit : isxS G.exm (XD.cls ⟨"TooLarge", [("what", .str w)]⟩) ["TooLarge"] = some true := by rw [ex_]; exact isx_1 xTT
  rw [exh_hit (c := "") hit]
  have b : begH (some 5) ⟨"TooLarge", [("what", .str w)]⟩ [some (.fz x0), some (.fz x1), some (.fz x2), some (.fz x3), o4, o5] = [some (.fz x0), some (.fz x1), some (.fz x2), some (.fz x3), o4, some (.exn ⟨"TooLarge", [("what", .str w)]⟩)] := rfl
  rw [b]
  have e : exs G (.cons (.asg (.nm 4) (.tup (.cons (.xfld 5 "what") (.cons (.and_ (.isx 5 ["RunsError"] false) (.not_ (.isx 5 ["BadPoly", "BadNumber"] true))) .nil)))) .nil) [some (.fz x0), some (.fz x1), some (.fz x2), some (.fz x3), o4, some (.exn ⟨"TooLarge", [("what", .str w)]⟩)] st = .nx [some (.fz x0), some (.fz x1), some (.fz x2), some (.fz x3), some (.fz (.tup [.str w, .bl true])), some (.exn ⟨"TooLarge", [("what", .str w)]⟩)] st := by
    rw [exs_cons, ex_asg, ev_tup, evs_cons, ev_xfld (y := ⟨"TooLarge", [("what", .str w)]⟩) (by rfl) xf, lkw]
    simp only [pick_some', Res.bind_ok', kEvs_eq, evs_cons, ev_and]
    rw [ev_isx (y := ⟨"TooLarge", [("what", .str w)]⟩) (by rfl), ex_, isx_1 xTR]
    simp only [pick_some', Res.bind_ok', kAnd_eq, if_true, ev_not]
    rw [ev_isx (y := ⟨"TooLarge", [("what", .str w)]⟩) (by rfl), ex_, xTPN]
    simp [io]
  rw [e]
  exact endH_nx rfl
theorem clause_P {G : Gam} (ex_ : G.exm = exmL md.exm) (io : G.io = 0) {x0 x1 x2 x3 : D} {o4 o5 : Option Val} {st : Store} {hs : Hds} :
    exh G (.cons ["BadPoly"] false (some 5) (.cons (.asg (.nm 4) (.tup (.cons (.lit (.str "bad poly")) (.cons (.and_ (.isx 5 ["RunsError"] false) (.not_ (.isx 5 ["BadNumber"] false))) .nil)))) .nil) hs) ⟨"BadPoly", []⟩ [some (.fz x0), some (.fz x1), some (.fz x2), some (.fz x3), o4, o5] st = .nx [some (.fz x0), some (.fz x1), some (.fz x2), some (.fz x3), some (.fz (.tup [.str "bad poly", .bl true])), none] st := by
  have hit : isxS G.exm (XD.cls ⟨"BadPoly", []⟩) ["BadPoly"] = some true := by rw [ex_]; exact isx_1 xPP
  rw [exh_hit (c := "") hit]
  have b : begH (some 5) ⟨"BadPoly", []⟩ [some (.fz x0), some (.fz x1), some (.fz x2), some (.fz x3), o4, o5] = [some (.fz x0), some (.fz x1), some (.fz x2), some (.fz x3), o4, some (.exn ⟨"BadPoly", []⟩)] := rfl
  rw [b]
  have e : exs G (.cons (.asg (.nm 4) (.tup (.cons (.lit (.str "bad poly")) (.cons (.and_ (.isx 5 ["RunsError"] false) (.not_ (.isx 5 ["BadNumber"] false))) .nil)))) .nil) [some (.fz x0), some (.fz x1), some (.fz x2), some (.fz x3), o4, some (.exn ⟨"BadPoly", []⟩)] st = .nx [some (.fz x0), some (.fz x1), some (.fz x2), some (.fz x3), some (.fz (.tup [.str "bad poly", .bl true])), some (.exn ⟨"BadPoly", []⟩)] st := by
    rw [exs_cons, ex_asg, ev_tup, evs_cons]
    simp only [ev_lit, Res.bind_ok', kEvs_eq, evs_cons, ev_and]
    rw [ev_isx (y := ⟨"BadPoly", []⟩) (by rfl), ex_, isx_1 xPR]
    simp only [pick_some', Res.bind_ok', kAnd_eq, if_true, ev_not]
    rw [ev_isx (y := ⟨"BadPoly", []⟩) (by rfl), ex_, isx_1 xPN]
    simp [io]
  rw [e]
  exact endH_nx rfl
theorem clause_N {G : Gam} (ex_ : G.exm = exmL md.exm) (io : G.io = 0) {x0 x1 x2 x3 : D} {o4 o5 : Option Val} {st : Store} {hs : Hds} :
    exh G (.cons ["BadNumber"] false (some 5) (.cons (.asg (.nm 4) (.tup (.cons (.lit (.str "bad number")) (.cons (.isx 5 ["RunsError"] false) .nil)))) .nil) hs) ⟨"BadNumber", []⟩ [some (.fz x0), some (.fz x1), some (.fz x2), some (.fz x3), o4, o5] st = .nx [some (.fz x0), some (.fz x1), some (.fz x2), some (.fz x3), some (.fz (.tup [.str "bad number", .bl true])), none] st := by
  have hit : isxS G.exm (XD.cls ⟨"BadNumber", []⟩) ["BadNumber"] = some true := by rw [ex_]; exact isx_1 xNN
  rw [exh_hit (c := "") hit]
  have b : begH (some 5) ⟨"BadNumber", []⟩ [some (.fz x0), some (.fz x1), some (.fz x2), some (.fz x3), o4, o5] = [some (.fz x0), some (.fz x1), some (.fz x2), some (.fz x3), o4, some (.exn ⟨"BadNumber", []⟩)] := rfl
  rw [b]
  have e : exs G (.cons (.asg (.nm 4) (.tup (.cons (.lit (.str "bad number")) (.cons (.isx 5 ["RunsError"] false) .nil)))) .nil) [some (.fz x0), some (.fz x1), some (.fz x2), some (.fz x3), o4, some (.exn ⟨"BadNumber", []⟩)] st = .nx [some (.fz x0), some (.fz x1), some (.fz x2), some (.fz x3), some (.fz (.tup [.str "bad number", .bl true])), some (.exn ⟨"BadNumber", []⟩)] st := by
    rw [exs_cons, ex_asg, ev_tup, evs_cons]
    simp only [ev_lit, Res.bind_ok', kEvs_eq, evs_cons]
    rw [ev_isx (y := ⟨"BadNumber", []⟩) (by rfl), ex_, isx_1 xNR]
    simp [io]
  rw [e]
  exact endH_nx rfl
theorem asked_qT {a b c : D} (h : f_series_of [.fz a, .fz b, .fz c] = .exc ⟨"TooLarge", [("what", .str "length")]⟩ []) : f_law_asked [.fz (.str "quotient"), .fz a, .fz b, .fz c] = .ok (.tup [.str "length", .bl true]) [] := by
  rw [show f_law_asked = runDef (md.gam g_law_asked) ⟨6, b_law_asked⟩ from rfl, runDef_eq]
  simp only [b_law_asked, contsOf, slotsOf]
  obtain ⟨G, hG⟩ : ∃ G : Gam, G = { md.gam g_law_asked with io := ([] : List Cont).length } := ⟨_, rfl⟩
  have fns : G.fns = g_law_asked := by rw [hG]; rfl
  have io : G.io = 0 := by rw [hG]; rfl
  have ex_ : G.exm = exmL md.exm := by rw [hG]; rfl
  have xf : G.xfl "TooLarge" "what" = true := by rw [hG]; decide +kernel
  rw [← hG]
  simp [fns, io, g_law_asked, h, clause_T ex_ xf io]
theorem asked_qP {a b c : D} (h : f_series_of [.fz a, .fz b, .fz c] = .exc ⟨"BadPoly", []⟩ []) : f_law_asked [.fz (.str "quotient"), .fz a, .fz b, .fz c] = .ok (.tup [.str "bad poly", .bl true]) [] := by
  rw [show f_law_asked = runDef (md.gam g_law_asked) ⟨6, b_law_asked⟩ from rfl, runDef_eq]
  simp only [b_law_asked, contsOf, slotsOf]
  obtain ⟨G, hG⟩ : ∃ G : Gam, G = { md.gam g_law_asked with io := ([] : List Cont).length } := ⟨_, rfl⟩
  have fns : G.fns = g_law_asked := by rw [hG]; rfl
  have io : G.io = 0 := by rw [hG]; rfl
  have ex_ : G.exm = exmL md.exm := by rw [hG]; rfl
  rw [← hG]
  simp [fns, io, g_law_asked, h, clause_P ex_ io]
  rw [exh_miss (by rw [ex_]; exact isx_1 xPT)]
  simp [clause_P ex_ io, io]
theorem asked_pT {a b c : D} (h : f_exp_series [.fz a, .fz c] = .exc ⟨"TooLarge", [("what", .str "length")]⟩ []) : f_law_asked [.fz (.str "powers"), .fz a, .fz b, .fz c] = .ok (.tup [.str "length", .bl true]) [] := by
  rw [show f_law_asked = runDef (md.gam g_law_asked) ⟨6, b_law_asked⟩ from rfl, runDef_eq]
  simp only [b_law_asked, contsOf, slotsOf]
  obtain ⟨G, hG⟩ : ∃ G : Gam, G = { md.gam g_law_asked with io := ([] : List Cont).length } := ⟨_, rfl⟩
  have fns : G.fns = g_law_asked := by rw [hG]; rfl
  have io : G.io = 0 := by rw [hG]; rfl
  have ex_ : G.exm = exmL md.exm := by rw [hG]; rfl
  have xf : G.xfl "TooLarge" "what" = true := by rw [hG]; decide +kernel
  rw [← hG]
  simp [fns, io, g_law_asked, h, s_pq, clause_T ex_ xf io]
theorem asked_lN {a b c : D} (h : f_series_log [.fz a] = .exc ⟨"BadNumber", []⟩ []) : f_law_asked [.fz (.str "log"), .fz a, .fz b, .fz c] = .ok (.tup [.str "bad number", .bl true]) [] := by
  rw [show f_law_asked = runDef (md.gam g_law_asked) ⟨6, b_law_asked⟩ from rfl, runDef_eq]
  simp only [b_law_asked, contsOf, slotsOf]
  obtain ⟨G, hG⟩ : ∃ G : Gam, G = { md.gam g_law_asked with io := ([] : List Cont).length } := ⟨_, rfl⟩
  have fns : G.fns = g_law_asked := by rw [hG]; rfl
  have io : G.io = 0 := by rw [hG]; rfl
  have ex_ : G.exm = exmL md.exm := by rw [hG]; rfl
  rw [← hG]
  simp [fns, io, g_law_asked, h, s_lq, s_lp]
  rw [exh_miss (by rw [ex_]; exact isx_1 xNT), exh_miss (by rw [ex_]; exact isx_1 xNP)]
  simp [clause_N ex_ io, io]
theorem asked_eN {a b c : D} (h : f_series_exp [.fz a] = .exc ⟨"BadNumber", []⟩ []) : f_law_asked [.fz (.str "exp"), .fz a, .fz b, .fz c] = .ok (.tup [.str "bad number", .bl true]) [] := by
  rw [show f_law_asked = runDef (md.gam g_law_asked) ⟨6, b_law_asked⟩ from rfl, runDef_eq]
  simp only [b_law_asked, contsOf, slotsOf]
  obtain ⟨G, hG⟩ : ∃ G : Gam, G = { md.gam g_law_asked with io := ([] : List Cont).length } := ⟨_, rfl⟩
  have fns : G.fns = g_law_asked := by rw [hG]; rfl
  have io : G.io = 0 := by rw [hG]; rfl
  have ex_ : G.exm = exmL md.exm := by rw [hG]; rfl
  rw [← hG]
  simp [fns, io, g_law_asked, h, s_eq, s_ep, s_el]
  rw [exh_miss (by rw [ex_]; exact isx_1 xNT), exh_miss (by rw [ex_]; exact isx_1 xNP)]
  simp [clause_N ex_ io, io]
end K03

/-! F22 -/
set_option linter.all false
set_option maxRecDepth 100000
namespace K03
open PySem PD L2 FR
theorem trim_ok {f : Nat → Rat} {n : Nat} (hn : n < 1000) : ∃ m, m ≤ n ∧ (∀ k, m ≤ k → k < n → f k = 0) ∧ f_law_trim [.fz (.lst (seqL f n))] = .ok (.tup (seqL f m)) [] := by
  rw [show f_law_trim = runDef (md.gam g_law_trim) ⟨4, b_law_trim⟩ from rfl, runDef_eq]
  simp only [b_law_trim, contsOf, slotsOf]
  obtain ⟨G, hG⟩ : ∃ G : Gam, G = { md.gam g_law_trim with io := ([] : List Cont).length } := ⟨_, rfl⟩
  have io : G.io = 0 := by rw [hG]; rfl
  rw [← hG]
  have loop := for_all (I := .rng 0 n) (body := fBody G (.nm 2) lp0_law_trim) (n := n) (fun i ρ st => st = [] ∧ ∃ (s : Nat) (t : Option Val), s ≤ n ∧ (∀ k, s ≤ k → k < n → f k = 0) ∧ ρ = [some (.fz (.lst (seqL f n))), some (.fz (.int s)), t, none]) (fun i ρ st _ _ => rfl)
    (fun i ρ st hi ⟨e1, s, t, hs, hz, e2⟩ => by
      subst e1 e2
      by_cases c0 : 0 < s
      · have i1 : idxS (.lst (seqL f n)) (.int ((s : Int) - 1)) = some (frD (f (s - 1))) := idx_seq f (by omega) (by omega)
        have i2 : idxS (frD (f (s - 1))) (.int 0) = some (.int (f (s - 1)).num) := by unfold frD; simp
        by_cases c1 : (f (s - 1)).num = 0
        · refine ⟨.int (0 + i), rfl, [some (.fz (.lst (seqL f n))), some (.fz (.int ((s : Int) - 1))), some (.fz (.int i)), none], [], .inl ?_, rfl, s - 1, _, by omega, fun k h1 h2 => ?_, by rw [show ((s - 1 : Nat) : Int) = (s : Int) - 1 by omega]⟩
          · simp only [fBody_nm, lp0_law_trim]
            simp [c0, i1, i2, c1]
          · by_cases e : k = s - 1
            · subst e; exact Rat.num_eq_zero.mp c1
            · exact hz k (by omega) h2
        · refine ⟨.int (0 + i), rfl, [some (.fz (.lst (seqL f n))), some (.fz (.int s)), some (.fz (.int i)), none], [], .inl ?_, rfl, s, _, hs, hz, rfl⟩
          simp only [fBody_nm, lp0_law_trim]
          simp [c0, i1, i2, c1]
      · refine ⟨.int (0 + i), rfl, [some (.fz (.lst (seqL f n))), some (.fz (.int s)), some (.fz (.int i)), none], [], .inl ?_, rfl, s, _, hs, hz, rfl⟩
        simp only [fBody_nm, lp0_law_trim]
        have c0' : s = 0 := by omega
        subst c0'
        simp) n 0 [some (.fz (.lst (seqL f n))), some (.fz (.int n)), none, none] [] (by omega) ⟨rfl, n, _, Nat.le_refl n, fun k h1 h2 => by omega, rfl⟩
  obtain ⟨ρ', st', e, rfl, s, t, hs, hz, rfl⟩ := loop
  refine ⟨s, hs, hz, ?_⟩
  have r1 : rngOk 0 = true := by decide
  have r2 : rngOk (n : Int) = true := rngOk_nat (by omega)
  have r3 : rngOk (s : Int) = true := rngOk_nat (by omega)
  have lc := lc_rng (G := G) (ρ := [some (.fz (.lst (seqL f n))), some (.fz (.int s)), t, none]) (st := []) (own := [3]) (i := 3) (n := s) (elt := .idx (.var 0) (.var 3)) (f := f) (by unfold LIM; omega) fun k hk => by
    have i1 := idx_seq f (n := n) (i := k) (j := k) rfl (by omega)
    simp [wipeS, i1]
  simp [kRng_eq r1 r2, e, kRng_eq r1 r3, lc, io]
/-- sizes of the law's own product -/
structure QuoLz (b Q : Nat → Rat) (d len : Nat) : Prop where
  hp : ∀ k ≤ len, ∀ i < min (k + 1) d, Sz NB (b i * Q (k - i))
  hx : ∀ k ≤ len, ∀ i < min (k + 1) d, Sz NB (ps (fun i => b i * Q (k - i)) i)
theorem lq_inner {G : Gam} (fns : G.fns = g_law_quotient) (io : G.io = 0) {b Q : Nat → Rat} {d k len : Nat} {s0 s2 : D} (hk : k ≤ len) (hb : ∀ j < d, Sz NB (b j)) (hq : ∀ j ≤ len, Sz NB (Q j)) (z : QuoLz b Q d len) (w o7 : Option Val) :
    ∃ w', forLoop (.rng 0 (k + 1)) (fBody G (.nm 6) lp0_law_quotient) (k + 1) 0 [some (.fz s0), some (.fz (.tup (seqL b d))), some (.fz s2), some (.fz (.tup [.str "told", .tup (seqL Q (len + 1))])), some (.fz (.int k)), some (.fz (frD 0)), w, o7] [] =
      .nx [some (.fz s0), some (.fz (.tup (seqL b d))), some (.fz s2), some (.fz (.tup [.str "told", .tup (seqL Q (len + 1))])), some (.fz (.int k)), some (.fz (frD (ps (fun i => b i * Q (k - i)) (min (k + 1) d)))), w', o7] [] := by
  have loop := for_all (I := .rng 0 (k + 1)) (body := fBody G (.nm 6) lp0_law_quotient) (n := k + 1) (fun i ρ st' => st' = [] ∧ ∃ w, ρ = [some (.fz s0), some (.fz (.tup (seqL b d))), some (.fz s2), some (.fz (.tup [.str "told", .tup (seqL Q (len + 1))])), some (.fz (.int k)), some (.fz (frD (ps (fun i => b i * Q (k - i)) (min i d)))), w, o7]) (fun i ρ st _ _ => rfl)
    (fun i ρ st' hi ⟨e1, w, e2⟩ => by
      subst e1 e2
      refine ⟨.int (0 + i), rfl, [some (.fz s0), some (.fz (.tup (seqL b d))), some (.fz s2), some (.fz (.tup [.str "told", .tup (seqL Q (len + 1))])), some (.fz (.int k)), some (.fz (frD (ps (fun i => b i * Q (k - i)) (min (i + 1) d)))), some (.fz (.int i)), o7], _, .inl ?_, rfl, _, rfl⟩
      simp only [fBody_nm, lp0_law_quotient]
      by_cases c : i < d
      · have i1 : idxS (.tup (seqL b d)) (.int (i : Int)) = some (frD (b i)) := idx_row _ rfl c
        have i2 : idxS (.tup (seqL Q (len + 1))) (.int ((k : Int) - (i : Int))) = some (frD (Q (k - i))) := idx_row _ (by omega) (by omega)
        have p := lmul_ok (hb i c) (hq (k - i) (by omega))
        have q := ladd_ok (z.hx k hk i (by omega)) (z.hp k hk i (by omega))
        have q' : f_law_add [.fz (frD (ps (fun i => b i * Q (k - i)) i)), .fz (frD (b i * Q (k - i)))] = .ok (frD (ps (fun i => b i * Q (k - i)) (i + 1))) [] := q
        rw [show min i d = i by omega, show min (i + 1) d = i + 1 by omega]
        clear q
        generalize Q (k - i) = u at i2 p q'
        simp [fns, io, g_law_quotient, c, i1, i2, p, q']
      · rw [show min i d = d by omega, show min (i + 1) d = d by omega]
        simp [c]) (k + 1) 0 [some (.fz s0), some (.fz (.tup (seqL b d))), some (.fz s2), some (.fz (.tup [.str "told", .tup (seqL Q (len + 1))])), some (.fz (.int k)), some (.fz (frD 0)), w, o7] [] (by omega) ⟨rfl, w, by rw [Nat.zero_min]; rfl⟩
  obtain ⟨ρ', st', e, rfl, x', rfl⟩ := loop
  exact ⟨x', e⟩
theorem lquotient_ok {a b : Nat → Rat} {n d len : Nat} (hd : 0 < d) (hd2 : d < 1000) (hl : len ≤ 40) (h0 : b 0 ≠ 0) (hb : (b 0).num.natAbs < 2 ^ 4500) (z : QuoSz a b (quo (upTo a n) b d) n d len) (z2 : QuoLz b (quo (upTo a n) b d) d len) :
    f_law_quotient [.fz (.tup (seqL a n)), .fz (.tup (seqL b d)), .fz (.int len)] = .ok (.bl true) [] := by
  have ask := asked_q (series_of_ok hd hd2 hl h0 hb z)
  have isr := isrow_ok (xs := (List.range (len + 1)).map (quo (upTo a n) b d)) (N := NB) (fun x hx => by
    obtain ⟨j, hj, rfl⟩ := List.mem_map.mp hx
    exact z.hq j (by have := List.mem_range.mp hj; omega)) (by decide)
  rw [← seqL_row] at isr
  rw [show f_law_quotient = runDef (md.gam g_law_quotient) ⟨8, b_law_quotient⟩ from rfl, runDef_eq]
  simp only [b_law_quotient, contsOf, slotsOf]
  obtain ⟨G, hG⟩ : ∃ G : Gam, G = { md.gam g_law_quotient with io := ([] : List Cont).length } := ⟨_, rfl⟩
  have fns : G.fns = g_law_quotient := by rw [hG]; rfl
  have io : G.io = 0 := by rw [hG]; rfl
  rw [← hG]
  obtain ⟨Q, hQ⟩ : ∃ Q, Q = quo (upTo a n) b d := ⟨_, rfl⟩
  have qm : ∀ k, ps (fun i => b i * Q (k - i)) (min (k + 1) d) = upTo a n k := fun k => by rw [hQ]; exact quo_mul hd h0 k
  rw [← hQ] at z z2 ask isr
  have r1 : rngOk 0 = true := by decide
  have loop := for_all (I := .rng 0 (len + 1)) (body := fBody G (.nm 4) lp1_law_quotient) (n := len + 1) (fun i ρ st' => st' = [] ∧ ∃ x y w v, ρ = [some (.fz (.tup (seqL a n))), some (.fz (.tup (seqL b d))), some (.fz (.int len)), some (.fz (.tup [.str "told", .tup (seqL Q (len + 1))])), x, y, w, v]) (fun i ρ st _ _ => rfl)
    (fun i ρ st' hi ⟨e1, x, y, w, v, e2⟩ => by
      subst e1 e2
      obtain ⟨w', e⟩ := lq_inner (G := G) fns io (k := i) (s0 := .tup (seqL a n)) (s2 := .int len) (by omega) z.hb (fun j hj => z.hq j hj) z2 w v
      rw [qm] at e
      refine ⟨.int (0 + i), rfl, [some (.fz (.tup (seqL a n))), some (.fz (.tup (seqL b d))), some (.fz (.int len)), some (.fz (.tup [.str "told", .tup (seqL Q (len + 1))])), some (.fz (.int i)), some (.fz (frD (upTo a n i))), w', some (.fz (frD (upTo a n i)))], [], .inl ?_, rfl, _, _, _, _, rfl⟩
      have r2 : rngOk ((i : Int) + 1) = true := rngOk_nat (k := i + 1) (by omega)
      have hi2 : ((i : Int) + 1).toNat = i + 1 := by omega
      have z0 : D.tup [.int 0, .int 1] = frD 0 := rfl
      simp only [fBody_nm, lp1_law_quotient]
      by_cases c : i < n
      · have u : upTo a n i = a i := if_pos c
        have i1 : idxS (.tup (seqL a n)) (.int (i : Int)) = some (frD (a i)) := idx_row _ rfl c
        rw [u] at e ⊢
        simp [kRng_eq r1 r2, hi2, z0, e, c, i1, io]
      · have u : upTo a n i = 0 := if_neg c
        rw [u] at e ⊢
        simp [kRng_eq r1 r2, hi2, z0, e, c, io]) (len + 1) 0 [some (.fz (.tup (seqL a n))), some (.fz (.tup (seqL b d))), some (.fz (.int len)), some (.fz (.tup [.str "told", .tup (seqL Q (len + 1))])), none, none, none, none] [] (by omega) ⟨rfl, _, _, _, _, rfl⟩
  obtain ⟨ρ', st', e, rfl, x, y, w, v, rfl⟩ := loop
  have r2 : rngOk ((len : Int) + 1) = true := rngOk_nat (k := len + 1) (by omega)
  have hi2 : ((len : Int) + 1).toNat = len + 1 := by omega
  have st : (("told" : Str) == "told") = true := by decide +kernel
  simp [fns, io, g_law_quotient, ask, isr, kRng_eq r1 r2, hi2, e]
end K03

/-! F23 -/
set_option linter.all false
set_option maxRecDepth 100000
namespace K03
open PySem PD L2 FR
theorem istold_seq {f g : Nat → Rat} {n : Nat} {due : D} (hd : due = .lst (seqL g n) ∨ due = .tup (seqL g n)) (hx : ∀ j < n, Sz NB (f j)) (h : ∀ j < n, f j = g j) : f_law_is_told [.fz (.tup [.str "told", .tup (seqL f n)]), .fz due] = .ok (.bl true) [] := by
  rw [← seqL_congr h] at hd
  have e : seqL f n = ((List.range n).map f).map frD := by simp [seqL, Function.comp_def]
  rw [e] at hd ⊢
  exact istold_ok (xs := (List.range n).map f) hd (fun x hx' => by
    obtain ⟨j, hj, rfl⟩ := List.mem_map.mp hx'
    exact hx j (List.mem_range.mp hj)) (N := NB) (by decide)
theorem expS_sz {t : Rat} {W N n : Nat} (hW : W ≠ 0) (ht : Qz W N t) (w : Ok (W ^ n * fct n * W)) (hN : n * (N + 1) + 1 + N ≤ NB) : (∀ k ≤ n, Sz NB (expS t k)) ∧ (∀ k ≤ n, Sz NB (expS t k * t)) := by
  have up : ∀ k ≤ n, Qz (W ^ n * fct n) (n * (N + 1) + 1) (expS t k) := fun k hk => (Qz.expS hW ht k).mono (Nat.mul_dvd_mul (pow_dvd hk) (fct_dvd hk)) (by
    have := Nat.mul_le_mul_right (N + 1) hk
    omega)
  have w1 := w.of_le (Nat.dvd_mul_right (W ^ n * fct n) W)
  exact ⟨fun k hk => (up k hk).sz w1 (by omega), fun k hk => (Qz.mul w1.p hW (up k hk) ht).sz w hN⟩
def bG (k : Nat) : Rat := if k = 0 then 1 else -1
theorem quo_ones (k : Nat) : quo (upTo (fun _ => 1) 1) bG 2 k = 1 := by
  induction k with
  | zero => rw [quo_eq]; simp [upTo, ps, bG]; grind
  | succ k ih =>
    rw [quo_eq]
    have m : min (k + 1) (2 - 1) = 1 := by omega
    rw [m]
    simp [upTo, ps, bG, ih]
    grind
theorem sz_one : Sz NB 1 := (Qz.one 1 (N := 1) (by decide)).sz ⟨by decide, Nat.one_lt_two_pow (by decide)⟩ (by decide)
theorem sz_zero : Sz NB 0 := (Qz.zero 1 1).sz ⟨by decide, Nat.one_lt_two_pow (by decide)⟩ (by decide)
theorem sz_mone : Sz NB (-1) := sz_one.neg
theorem quoSz_ones : QuoSz (fun _ => 1) bG (quo (upTo (fun _ => 1) 1) bG 2) 1 2 40 := by
  refine ⟨fun j _ => ?_, fun k _ => by rw [quo_ones]; exact sz_one, fun k _ i _ => ?_, fun k _ i hi => ?_⟩
  · unfold bG; split
    · exact sz_one
    · exact sz_mone
  · rw [quo_ones, Rat.mul_one]
    unfold bG
    rw [if_neg (by omega)]
    exact sz_mone
  · have u : Sz NB (upTo (fun _ => 1) 1 k) ∧ (k ≠ 0 → upTo (fun _ => 1) 1 k = 0) := by
      unfold upTo
      split
      · exact ⟨sz_one, fun h => by omega⟩
      · exact ⟨sz_zero, fun _ => rfl⟩
    match i, hi with
    | 0, _ => rw [show upTo (fun _ => 1) 1 k - ps (fun i => bG (i + 1) * quo (upTo (fun _ => 1) 1) bG 2 (k - (i + 1))) 0 = upTo (fun _ => 1) 1 k by simp [ps]; grind]; exact u.1
    | 1, hi =>
      have e : upTo (fun _ => 1) 1 k - ps (fun i => bG (i + 1) * quo (upTo (fun _ => 1) 1) bG 2 (k - (i + 1))) 1 = 1 := by
        rw [u.2 (by omega)]
        simp [ps, quo_ones, bG]
        grind
      rw [e]; exact sz_one
    | i + 2, hi => exact absurd hi (by omega)
theorem bounds_ok {num : D} {low t : Rat} : f_law_bounds [.fz num, .fz (frD low), .fz (frD t)] = .ok (.bl true) [] := by
  have a1 := asked_q (series_of_ok (a := fun _ => 1) (b := bG) (n := 1) (d := 2) (len := 40) (by decide) (by decide) (by decide) (by decide) (by decide +kernel) quoSz_ones)
  have t1 := istold_seq (f := quo (upTo (fun _ => 1) 1) bG 2) (g := fun _ => 1) (n := 41) (.inl rfl) (fun j _ => by rw [quo_ones]; exact sz_one) (fun j _ => quo_ones j)
  have e1 : D.tup (seqL (fun _ => 1) 1) = .tup [.tup [.int 1, .int 1]] := rfl
  have e2 : D.tup (seqL bG 2) = .tup [.tup [.int 1, .int 1], .tup [.int (-1), .int 1]] := rfl
  rw [e1, e2] at a1
  replace a1 : f_law_asked [.fz (.str "quotient"), .fz (.tup [.tup [.int 1, .int 1]]), .fz (.tup [.tup [.int 1, .int 1], .tup [.int (-1), .int 1]]), .fz (.int 40)] = .ok (.tup [.str "told", .tup (seqL (quo (upTo (fun _ => 1) 1) bG 2) 41)]) [] := a1
  have a2 := asked_qT (series_of_long (a := num) (b := .tup [.tup [.int 1, .int 1], .tup [.int 1, .int 2]]) (y := 1) (bs := [.tup [.int 1, .int 2]]) rfl (by decide))
  have p1 : ∀ (b : D) (len : Int), BadDen b → f_law_asked [.fz (.str "quotient"), .fz num, .fz b, .fz (.int len)] = .ok (.tup [.str "bad poly", .bl true]) [] := fun b len h => asked_qP (series_of_bad h)
  have a4 := asked_pT (b := .non) (exp_series_long (t := frD t))
  have q2 : Qz 1 2 (-2) := ⟨Nat.dvd_refl 1, by decide⟩
  have es := expS_sz (W := 1) (N := 2) (n := 40) (by decide) q2 ⟨by decide +kernel, by decide +kernel⟩ (by decide)
  have s2 : Sz NB (-2) := q2.sz ⟨by decide, Nat.one_lt_two_pow (by decide)⟩ (by decide)
  have a5 := asked_p (b := .non) (exp_series_ok (t := -2) (n := 40) (by decide) s2 es.1 es.2)
  have g5 := grown_ok (t := -2) (n := 40) (by decide) s2 es.1 es.2
  have t5 := istold_seq (f := expS (-2)) (g := expS (-2)) (n := 41) (.inl rfl) (fun j hj => es.1 j (by omega)) fun _ _ => rfl
  have m2 : frD (-2) = .tup [.int (-2), .int 1] := rfl
  rw [m2] at a5 g5
  replace a5 : f_law_asked [.fz (.str "powers"), .fz (.tup [.int (-2), .int 1]), .fz .non, .fz (.int 40)] = .ok (.tup [.str "told", .tup (seqL (expS (-2)) 41)]) [] := a5
  replace g5 : f_law_grown [.fz (.tup [.int (-2), .int 1]), .fz (.int 40)] = .ok (.lst (seqL (expS (-2)) 41)) [] := g5
  have rf : ∀ w : Str, f_law_refused [.fz (.tup [.str w, .bl true]), .fz (.str w)] = .ok (.bl true) [] := fun w => refused_ok
  rw [show f_law_bounds = runDef (md.gam g_law_bounds) ⟨6, b_law_bounds⟩ from rfl, runDef_eq]
  simp only [b_law_bounds, contsOf, slotsOf]
  obtain ⟨G, hG⟩ : ∃ G : Gam, G = { md.gam g_law_bounds with io := ([] : List Cont).length } := ⟨_, rfl⟩
  have fns : G.fns = g_law_bounds := by rw [hG]; rfl
  have io : G.io = 0 := by rw [hG]; rfl
  rw [← hG]
  have lc := fun (ρ : Slots) => lc_rng (G := G) (ρ := ρ) (st := []) (own := [4]) (i := 4) (n := 41) (elt := .tup (.cons (.lit (.int 1)) (.cons (.lit (.int 1)) .nil))) (f := fun _ => 1) (by unfold LIM; omega) fun k hk => by
    have z1 : D.tup [.int 1, .int 1] = frD 1 := rfl
    simp [z1]
  obtain ⟨dens, hdens⟩ : ∃ dens : List D, dens = [.tup [], .tup [.tup [.int 0, .int 1], frD low], .tup [.tup [.int 0, .int 1], .tup [.int 0, .int 1], .tup [.int 1, .int 1]]] := ⟨_, rfl⟩
  have hbad : ∀ x ∈ dens, BadDen x := by
    intro x hx
    rw [hdens] at hx
    simp only [List.mem_cons, List.not_mem_nil, or_false] at hx
    rcases hx with rfl | rfl | rfl
    · exact .inl rfl
    · exact .inr ⟨[frD low], rfl⟩
    · exact .inr ⟨[.tup [.int 0, .int 1], .tup [.int 1, .int 1]], rfl⟩
  have loop := fun (many : Val) (st : Store) (o4 : Option Val) => for_all (I := .tup dens) (body := fBody G (.nm 5) lp0_law_bounds) (n := dens.length) (fun i ρ st' => st' = st ∧ ∃ x, ρ = [some (.fz num), some (.fz (frD low)), some (.fz (frD t)), some many, o4, x]) (fun i ρ st _ _ => rfl)
    (fun i ρ st' hi ⟨e1, x, e2⟩ => by
      subst e1 e2
      refine ⟨dens[i], by simp [hi], [some (.fz num), some (.fz (frD low)), some (.fz (frD t)), some many, o4, some (.fz dens[i])], _, .inl ?_, rfl, _, rfl⟩
      have b3 := p1 dens[i] 3 (hbad _ (List.getElem_mem hi))
      have b41 := p1 dens[i] 41 (hbad _ (List.getElem_mem hi))
      simp only [fBody_nm, lp0_law_bounds]
      simp [fns, io, g_law_bounds, b3, b41, rf]) dens.length 0 [some (.fz num), some (.fz (frD low)), some (.fz (frD t)), some many, o4, none] st (by omega) ⟨rfl, _, rfl⟩
  have r1 : rngOk 0 = true := by decide
  have r2 : rngOk 41 = true := by decide
  obtain ⟨ρ', st', e, rfl, x, rfl⟩ := loop (.loc 0) [.fz (.lst (seqL (fun _ => 1) 41))] none
  have fl : fr 0 (.loc 0) [.lst (seqL (fun _ => 1) 41)] = .ok (.lst (seqL (fun _ => 1) 41)) [.fz (.lst (seqL (fun _ => 1) 41))] := fr_loc rfl (Nat.le_refl _)
  have lcn := fun (ρ : Slots) => lc ρ
  simp [kRng_eq r1 r2, fns, io, g_law_bounds]
  rw [lc]
  simp [fns, io, g_law_bounds, a1, fl, t1, a2, rf]
  rw [hdens] at e
  simp at e
  simp [e, fns, io, g_law_bounds, a4, rf, a5, g5, t5]
end K03

/-! F24 -/
set_option linter.all false
set_option maxRecDepth 100000
namespace K03
open PySem PD L2 FR
theorem timesSz_of {f g : Nat → Rat} {W V N M n : Nat} (w : Ok (W * V)) (hf : ∀ j < n, Qz W N (f j)) (hg : ∀ j < n, Qz V M (g j)) (hN : N + M + 4401 * n ≤ NB) : TimesSz f g n := by
  have w1 : Ok W := w.of_le (Nat.dvd_mul_right _ _)
  have w2 : Ok V := w.of_le (Nat.dvd_mul_left _ _)
  have p : ∀ k < n, ∀ j ≤ k, Qz (W * V) (N + M) (f j * g (k - j)) := fun k hk j hj => Qz.mul w1.p w2.p (hf j (by omega)) (hg (k - j) (by omega))
  exact ⟨fun j hj => (hf j hj).sz w1 (by omega), fun j hj => (hg j hj).sz w2 (by omega), fun k hk j hj => (p k hk j hj).sz w (by omega),
    fun k hk j hj => (Qz.ps w (n := j) fun i hi => p k hk i (by omega)).sz w (by have := Nat.mul_le_mul_left 4401 (show j ≤ n by omega); omega)⟩
theorem cl_qz {m n : Nat} (h0 : m ≠ 0) (h : m ≤ n) : Qz (fct n) 1 (cl m) := by
  unfold cl
  rw [Rat.divInt_ofNat]
  refine ⟨Nat.dvd_trans (den_mkRat_dvd _ _ h0) (dvd_fct h0 h), ?_⟩
  refine Nat.lt_of_le_of_lt (num_mkRat_le _ _ h0) ?_
  split <;> decide
theorem ce_qz : ∀ (m : Nat), Qz (fct m) (m + 1) (ce m)
  | 0 => Qz.one _ (by omega)
  | m + 1 => (Qz.divN (fct_ne m) (k := m + 1) (by omega) (ce_qz m)).mono (Nat.dvd_refl _) (by omega)
theorem cc_qz {b : Bool} {m n : Nat} (h0 : m ≠ 0) (h : m ≤ n) : Qz (fct n) (n + 1) (cc b m) := by
  cases b with
  | true => exact (cl_qz h0 h).up (by omega)
  | false => exact (ce_qz m).mono (fct_dvd h) (by omega)
theorem sumSz_of {x : Nat → Rat} {W N n : Nat} {b : Bool} (w : Ok (W ^ n * fct n)) (hx : ∀ j < n, Qz W N (x j)) (hN : 1 + n * (N + 4401 * n) + (n + 1) + 4401 * n + 4401 ≤ NB) : SumSz x b n := by
  have w1 : Ok (W ^ n) := w.of_le (Nat.dvd_mul_right _ _)
  have w2 : Ok (fct n) := w.of_le (Nat.dvd_mul_left _ _)
  have pm : ∀ i, i ≤ n → i * (N + 4401 * n) ≤ n * (N + 4401 * n) := fun i hi => Nat.mul_le_mul_right _ hi
  have pq : ∀ i < n, ∀ k < n, Qz (W ^ i) (1 + i * (N + 4401 * n)) (pw x i k) := fun i hi k hk => Qz.pw hx i (w1.of_le (pow_dvd (by omega))) k hk
  have im : ∀ k < n, ∀ m < n, Qz (W ^ n * fct n) (1 + n * (N + 4401 * n) + (n + 1)) (pw x (m + 1) k * cc b (m + 1)) := Qz.psumI w hx fun m hm => cc_qz (by omega) (by omega)
  refine ⟨fun i hi => ?_, fun i hi => ?_, fun i hi k hk => ?_, fun i hi k hk => ?_, fun i hi k hk => ?_⟩
  · have w3 : Ok (W ^ i * W) := by rw [← Nat.pow_succ]; exact w1.of_le (pow_dvd (by omega))
    refine timesSz_of w3 (pq i (by omega)) hx ?_
    have := pm (i + 1) (by omega)
    rw [Nat.add_mul] at this
    omega
  · unfold shv
    split
    · exact sz_one
    · exact (cc_qz (by omega) (by omega)).sz w2 (by omega)
  · exact (pq i hi k hk).sz (w1.of_le (pow_dvd (by omega))) (by have := pm i (by omega); omega)
  · exact (im k hk i (by omega)).sz w (by omega)
  · have h1 : Qz (W ^ n * fct n) (1 + n * (N + 4401 * n) + (n + 1) + 4401 * n) (psum (cc b) x i k) := Qz.psum w hx (fun m hm => cc_qz (by omega) (by omega)) k hk i (by omega)
    have h2 : Qz (W ^ n * fct n) (1 + n * (N + 4401 * n) + (n + 1) + 4401 * n) (ini b k) := by
      unfold ini FR.one
      split
      · exact Qz.zero _ _
      · split
        · exact Qz.one _ (by omega)
        · exact Qz.zero _ _
    exact (h2.add w h1).sz w (by omega)
theorem lt_qz {L s : Nat → Rat} {U M A N n k i : Nat} (hU : U ≠ 0) (hM : M ≠ 0) (hi : i + 1 < 2 ^ 10) (h1 : Qz U A (L (i + 1))) (h2 : Qz M N (s (k - (i + 1)))) : Qz (U * M) (10 + (A + N)) (lt L s k i) := by
  have h := Qz.mul (W := 1) (by decide) (Nat.mul_ne_zero hU hM) (Qz.nat 1 hi) (Qz.mul hU hM h1 h2)
  rw [Nat.one_mul] at h
  exact h
theorem logSz_of {s L : Nat → Rat} {M U N A n : Nat} (w : Ok (U * M * fct n)) (hL : ∀ j < n, Qz U A (L j)) (hs : ∀ j < n, Qz M N (s j)) (hn : n < 1000) (hN : 10 + (A + N) + 4401 * n + 1 ≤ NB) : LogSz s L n := by
  have w1 : Ok (U * M) := w.of_le (Nat.dvd_mul_right _ _)
  have wU : Ok U := w1.of_le (Nat.dvd_mul_right _ _)
  have wM : Ok M := w1.of_le (Nat.dvd_mul_left _ _)
  have q : ∀ k < n, ∀ i, i + 1 < k → Qz (U * M) (10 + (A + N)) (lt L s k i) := fun k hk i hi => lt_qz (n := n) wU.p wM.p (by omega) (hL _ (by omega)) (hs _ (by omega))
  have x : ∀ k < n, ∀ i, i < k → Qz (U * M) (10 + (A + N) + 4401 * n) (ps (lt L s k) i) := fun k hk i hi => (Qz.ps w1 (n := i) fun j hj => q k hk j (by omega)).up (by have := Nat.mul_le_mul_left 4401 (show i ≤ n by omega); omega)
  refine ⟨fun j hj => (hs j hj).sz wM (by omega), fun j hj => (hL j hj).sz wU (by omega), fun k hk i hi => (Qz.mul wU.p wM.p (hL _ (by omega)) (hs _ (by omega))).sz w1 (by omega), fun k hk i hi => (q k hk i hi).sz w1 (by omega), fun k hk i hi => (x k hk i hi).sz w1 (by omega), fun k hk h0 => ?_⟩
  exact ((Qz.divN w1.p (k := k) (by omega) (x k hk (k - 1) (by omega))).mono (Nat.mul_dvd_mul (Nat.dvd_refl _) (dvd_fct (by omega) (by omega))) (Nat.le_refl _)).sz w (by omega)
theorem expSz_of {s E : Nat → Rat} {M U N A n : Nat} (w : Ok (U * M)) (hs : ∀ j < n, Qz U A (s j)) (hE : ∀ j < n, Qz M N (E j)) (hn : n < 1000) (hN : 10 + (A + N) + 4401 * n + 1 ≤ NB) : ExpSz s E n := by
  have wU : Ok U := w.of_le (Nat.dvd_mul_right _ _)
  have wM : Ok M := w.of_le (Nat.dvd_mul_left _ _)
  have q : ∀ k < n, ∀ i, i < k → Qz (U * M) (10 + (A + N)) (lt s E k i) := fun k hk i hi => lt_qz (n := n) wU.p wM.p (by omega) (hs _ (by omega)) (hE _ (by omega))
  exact ⟨fun j hj => (hs j hj).sz wU (by omega), fun j hj => (hE j hj).sz wM (by omega), fun k hk i hi => (Qz.mul wU.p wM.p (hs _ (by omega)) (hE _ (by omega))).sz w (by omega), fun k hk i hi => (q k hk i hi).sz w (by omega),
    fun k hk i hi => (Qz.ps w (n := i) fun j hj => q k hk j (by omega)).sz w (by have := Nat.mul_le_mul_left 4401 (show i ≤ n by omega); omega)⟩
/-! ### the drawn series' logarithm, exponential -/
def xz (s : Nat → Rat) (k : Nat) : Rat := if k = 0 then 0 else s k
theorem xz_one {s : Nat → Rat} (h0 : s 0 = 1) (k : Nat) : FR.one k + xz s k = s k := by
  unfold FR.one xz
  by_cases h : k = 0
  · subst h; simp [h0]
  · simp [h]
theorem hcl : ∀ m, cc true (m + 1) * ((m + 1 : Nat) : Rat) = if m % 2 = 0 then 1 else -1 := fun m => by
  show cl (m + 1) * _ = _
  have e : cl (m + 1) = ((if (m + 1) % 2 = 0 then -1 else 1 : Int) : Rat) / ((m + 1 : Nat) : Rat) := by
    unfold cl
    rw [Rat.divInt_eq_div]
    rfl
  rw [e]
  have := nat_ne (k := m)
  by_cases h : m % 2 = 0
  · have h' : (m + 1) % 2 ≠ 0 := by omega
    simp only [h, h', if_true, if_false]
    rw [show ((1 : Int) : Rat) = 1 from rfl]
    grind
  · have h' : (m + 1) % 2 = 0 := by omega
    simp only [h, h', if_true, if_false]
    rw [show ((-1 : Int) : Rat) = -1 from rfl]
    grind
theorem hce : ∀ m, cc false (m + 1) * ((m + 1 : Nat) : Rat) = cc false m := fun m => by
  show ce m / _ * _ = ce m
  have := nat_ne (k := m)
  grind
/-- the logarithm -/
def lgS (s : Nat → Rat) (n : Nat) : Nat → Rat := psum (cc true) (xz s) (n - 1)
def exS (x : Nat → Rat) (n : Nat) (k : Nat) : Rat := FR.one k + psum (cc false) x (n - 1) k
theorem lgS_log {s : Nat → Rat} {n : Nat} (h0 : s 0 = 1) (hn : 0 < n) : IsLog s (lgS s n) n := by
  have h := psum_log (x := xz s) rfl hcl (n - 1)
  rw [show n - 1 + 1 = n by omega] at h
  exact log_congr (fun k _ => xz_one h0 k) (fun _ _ => rfl) h hn
theorem exS_exp {x : Nat → Rat} {n : Nat} (h0 : x 0 = 0) (hn : 0 < n) : IsExp x (exS x n) n := by
  have h := psum_exp (x := x) h0 hce rfl (n - 1)
  rw [show n - 1 + 1 = n by omega] at h
  exact h
end K03

/-! F25 -/
set_option linter.all false
set_option maxRecDepth 100000
namespace PD
open PySem PySem.Spec PyProof.Rows L2
def frK (io n : Nat) (st : Store) : Option Cont → Res D
  | some (.fz d) => .ok d st
  | some c => if io ≤ n then .ok c.d (st.set n (.fz c.d)) else .stuck
  | none => .stuck
theorem fr_at {io n : Nat} {st : Store} : fr io (.loc n) st = frK io n st st[n]? := by
  unfold fr frK
  rfl
@[simp] theorem frK_fz {io n : Nat} {st : Store} {d : D} : frK io n st (some (.fz d)) = .ok d st := by rfl
@[simp] theorem frK_lst {n : Nat} {st : Store} {ds : List D} : frK 0 n st (some (.lst ds)) = .ok (.lst ds) (st.set n (.fz (.lst ds))) := by rfl
end PD
namespace K03
open PySem PD L2 FR
theorem cut1 {f : Nat → Rat} {n : Nat} (h : 0 < n) : [frD 0] ++ cutD (seqL f n) (some 1) none = seqL (xz f) n := by
  have e : cutD (seqL f n) (some 1) none = (seqL f n).drop 1 := by
    unfold cutD
    have h1 : HT.sIx (seqL f n).length 0 (some 1) = 1 := by
      rw [seqL_length]
      have := HT.sIx_nat n 0 1
      rw [show ((1 : Nat) : Int) = 1 from rfl] at this
      rw [this]
      omega
    have h2 : HT.sIx (seqL f n).length (seqL f n).length none = (seqL f n).length := rfl
    rw [h1, h2]
    exact List.take_of_length_le (by simp)
  rw [e]
  apply List.ext_getElem
  · simp; omega
  · intro i h1 h2
    cases i with
    | zero => simp [seqL, xz]
    | succ i => simp [seqL, xz]
theorem pow_dvd_l {a b : Nat} (h : a ∣ b) : ∀ n, a ^ n ∣ b ^ n
  | 0 => Nat.dvd_refl _
  | n + 1 => by
    rw [Nat.pow_succ, Nat.pow_succ]
    exact Nat.mul_dvd_mul (pow_dvd_l h n) h
theorem add1 {f : Nat → Rat} {n : Nat} (h : 0 < n) (hn : n ≤ 7) : bopS .add (.lst [.tup [.int 0, .int 1]]) (.lst (cutD (seqL f n) (some 1) none)) = .l (seqL (xz f) n) := by
  have e := cut1 (f := f) h
  have z0 : D.tup [.int 0, .int 1] = frD 0 := rfl
  rw [z0, bopS_addl, e]
  have l : ([frD 0] ++ cutD (seqL f n) (some 1) none).length = n := by rw [e]; simp
  rw [List.length_append] at l
  rw [l]
  unfold LIM; omega
theorem logs_ok {s r : Nat → Rat} {n M V : Nat} (hn0 : 0 < n) (hn : n ≤ 7) (s0 : s 0 = 1) (r0 : r 0 = 1) (hs : ∀ j < n, Qz M 71 (s j)) (hr : ∀ j < n, Qz V 71 (r j)) (w : Ok ((M * V) ^ n * fct n * (M * V) * fct n)) :
    f_law_logs [.fz (.lst (seqL s n)), .fz (.lst (seqL r n))] = .ok (.bl true) [] := by
  have w1 : Ok ((M * V) ^ n * fct n * (M * V)) := w.of_le (Nat.dvd_mul_right _ _)
  have wU : Ok ((M * V) ^ n * fct n) := w1.of_le (Nat.dvd_mul_right _ _)
  have wMV : Ok (M * V) := w1.of_le (Nat.dvd_mul_left _ _)
  have hM : M ∣ M * V := Nat.dvd_mul_right _ _
  have hV : V ∣ M * V := Nat.dvd_mul_left _ _
  have powM : M ^ n ∣ (M * V) ^ n := pow_dvd_l hM n
  have powV : V ^ n ∣ (M * V) ^ n := pow_dvd_l hV n
  have wM : Ok (M ^ n * fct n) := wU.of_le (Nat.mul_dvd_mul powM (Nat.dvd_refl _))
  have wV : Ok (V ^ n * fct n) := wU.of_le (Nat.mul_dvd_mul powV (Nat.dvd_refl _))
  have hxs : ∀ j < n, Qz M 71 (xz s j) := fun j hj => by
    unfold xz; split
    · exact Qz.zero _ _
    · exact hs j hj
  have hxr : ∀ j < n, Qz V 71 (xz r j) := fun j hj => by
    unfold xz; split
    · exact Qz.zero _ _
    · exact hr j hj
  have nn : n * (71 + 4401 * n) ≤ 7 * (71 + 4401 * 7) := Nat.mul_le_mul hn (by omega)
  have B : 1 + n * (71 + 4401 * n) + (n + 1) + 4401 * n ≤ 300000 := by omega
  -- the logarithms
  have lS : ∀ j < n, Qz (M ^ n * fct n) 300000 (lgS s n j) := fun j hj => (Qz.psum wM hxs (fun m hm => cc_qz (by omega) (by omega)) j hj (n - 1) (by omega)).up B
  have lR : ∀ j < n, Qz (V ^ n * fct n) 300000 (lgS r n j) := fun j hj => (Qz.psum wV hxr (fun m hm => cc_qz (by omega) (by omega)) j hj (n - 1) (by omega)).up B
  have lB : ∀ j < n, Qz ((M * V) ^ n * fct n) 304401 (lgS s n j + lgS r n j) := fun j hj => Qz.add (N := 300000) wU ((lS j hj).mono (Nat.mul_dvd_mul powM (Nat.dvd_refl _)) (Nat.le_refl _)) ((lR j hj).mono (Nat.mul_dvd_mul powV (Nat.dvd_refl _)) (Nat.le_refl _))
  have pr : ∀ j < n, Qz (M * V) (71 + 71 + 4401 * n) (cv s r j) := fun j hj => Qz.cv wMV hs hr j hj
  have wMM : Ok (M ^ n * fct n * M * fct n) := w.of_le (Nat.mul_dvd_mul (Nat.mul_dvd_mul (Nat.mul_dvd_mul powM (Nat.dvd_refl _)) hM) (Nat.dvd_refl _))
  have logS : IsLog s (lgS s n) n := lgS_log s0 hn0
  have logR : IsLog r (lgS r n) n := lgS_log r0 hn0
  have szLS := logSz_of wMM lS hs (by omega) (by show _ ≤ 1000000; omega)
  have szLB := logSz_of w lB pr (by omega) (by show _ ≤ 1000000; omega)
  have szES := expSz_of (wMM.of_le (Nat.dvd_mul_right _ _)) lS hs (by omega) (by show _ ≤ 1000000; omega)
  have MVn : Ok (M * V * V) := w1.of_le (by
    obtain ⟨k, rfl⟩ : ∃ k, n = k + 1 := ⟨n - 1, by omega⟩
    rw [Nat.mul_comm ((M * V) ^ (k + 1) * fct (k + 1)) (M * V)]
    refine Nat.mul_dvd_mul (Nat.dvd_refl _) (Nat.dvd_trans hV (Nat.dvd_trans ?_ (Nat.dvd_mul_right _ _)))
    rw [Nat.pow_succ]
    exact Nat.dvd_mul_left _ _)
  have hz0 : xz r 0 = 0 := rfl
  have exR : IsExp (xz r) (exS (xz r) n) n := exS_exp rfl hn0
  have eR : ∀ j < n, Qz (V ^ n * fct n) 304401 (exS (xz r) n j) := fun j hj => by
    have h1 : Qz (V ^ n * fct n) 300000 (psum (cc false) (xz r) (n - 1) j) := (Qz.psum wV hxr (fun m hm => cc_qz (by omega) (by omega)) j hj (n - 1) (by omega)).up B
    have h2 : Qz (V ^ n * fct n) 300000 (FR.one j) := by
      unfold FR.one; split
      · exact Qz.one _ (by omega)
      · exact Qz.zero _ _
    exact h2.add wV h1
  have wVV : Ok (V * (V ^ n * fct n)) := w1.of_le (by
    rw [Nat.mul_comm V]
    exact Nat.mul_dvd_mul (Nat.mul_dvd_mul powV (Nat.dvd_refl _)) hV)
  have szER := expSz_of wVV hxr eR (by omega) (by show _ ≤ 1000000; omega)
  have szT := timesSz_of wMV hs hr (by show _ ≤ 1000000; omega)
  have ss1 := sumSz_of (b := true) wM hxs (by show _ ≤ 1000000; omega)
  have ss2 := sumSz_of (b := true) wV hxr (by show _ ≤ 1000000; omega)
  have ss3 := sumSz_of (b := false) wV hxr (by show _ ≤ 1000000; omega)
  obtain ⟨dS, hdS⟩ : ∃ dS : Nat → Rat, dS = fun k => ini true k + psum (cc true) (xz s) (n - 1) k := ⟨_, rfl⟩
  obtain ⟨dR, hdR⟩ : ∃ dR : Nat → Rat, dR = fun k => ini true k + psum (cc true) (xz r) (n - 1) k := ⟨_, rfl⟩
  obtain ⟨xR, hxR⟩ : ∃ xR : Nat → Rat, xR = fun k => ini false k + psum (cc false) (xz r) (n - 1) k := ⟨_, rfl⟩
  have dSe : ∀ j, lgS s n j = dS j := fun j => by rw [hdS]; exact (Rat.zero_add _).symm
  have dRe : ∀ j, lgS r n j = dR j := fun j => by rw [hdR]; exact (Rat.zero_add _).symm
  have xRe : ∀ j, exS (xz r) n j = xR j := fun j => by rw [hxR]; rfl
  have szS : ∀ j < n, Sz NB (dS j) := fun j hj => by rw [← dSe]; exact (lS j hj).sz wM (by decide)
  have szR : ∀ j < n, Sz NB (dR j) := fun j hj => by rw [← dRe]; exact (lR j hj).sz wV (by decide)
  have t1 := times_ok (s := .tup (seqL s n)) (r := .lst (seqL r n)) (.inl rfl) (.inr rfl) (by omega) (Nat.le_refl n) szT
  have b1 := by_ok (s := .lst (seqL s n)) (r := .lst (seqL r n)) (.inr rfl) (.inr rfl) (by omega) (Nat.le_refl n) szT
  have i1 := istold_seq (f := cv s r) (g := cv s r) (n := n) (.inl rfl) (fun j hj => (pr j hj).sz wMV (by show _ ≤ 1000000; omega)) fun _ _ => rfl
  have d1 := summed_ok hn0 (by omega) ss1
  rw [← hdS] at d1
  have a1 := asked_l (b := .non) (c := .int 0) (log_ok (S := .tup (seqL s n)) (.inl rfl) hn0 (by omega) s0 logS szLS)
  have i2 := istold_seq (f := lgS s n) (g := dS) (n := n) (.inl rfl) (fun j hj => (lS j hj).sz wM (by decide)) fun j _ => dSe j
  have a2 := asked_e (b := .non) (c := .int 0) (exp_ok (S := .tup (seqL (lgS s n) n)) (.inl rfl) hn0 (by omega) logS.1 (exp_of_log s0 logS) szES)
  have i3 := istold_seq (f := s) (g := s) (n := n) (.inl rfl) (fun j hj => (hs j hj).sz (wMV.of_le hM) (by decide)) fun _ _ => rfl
  have t2 := times_ok (s := .lst (seqL s n)) (r := .tup (seqL r n)) (.inr rfl) (.inl rfl) (by omega) (Nat.le_refl n) szT
  have c0 : cv s r 0 = 1 := by rw [cv_0, s0, r0]; exact Rat.mul_one 1
  have l2 := log_ok (S := .tup (seqL (cv s r) n)) (.inl rfl) hn0 (by omega) c0 (log_mul logS logR) szLB
  have d2 := summed_ok hn0 (by omega) ss2
  rw [← hdR] at d2
  have i4 := istold_seq (f := fun k => lgS s n k + lgS r n k) (g := fun k => dS k + dR k) (n := n) (.inl rfl) (fun j hj => (lB j hj).sz wU (by decide)) fun j _ => by rw [dSe, dRe]
  have a3 := asked_e (b := .non) (c := .int 0) (exp_ok (S := .lst (seqL (xz r) n)) (.inr rfl) hn0 (by omega) rfl exR szER)
  have d3 := summed_ok hn0 (by omega) ss3
  rw [← hxR] at d3
  have i5 := istold_seq (f := exS (xz r) n) (g := xR) (n := n) (.inl rfl) (fun j hj => (eR j hj).sz wV (by decide)) fun j _ => xRe j
  have ad1 := add1 (f := s) hn0 hn
  have ad2 := add1 (f := r) hn0 hn
  clear szLS szLB szES szER szT ss1 ss2 ss3 exR logS logR lS lR lB pr eR
  rw [show f_law_logs = runDef (md.gam g_law_logs) ⟨8, b_law_logs⟩ from rfl, runDef_eq]
  simp only [b_law_logs, contsOf, slotsOf]
  obtain ⟨G, hG⟩ : ∃ G : Gam, G = { md.gam g_law_logs with io := ([] : List Cont).length } := ⟨_, rfl⟩
  have fns : G.fns = g_law_logs := by rw [hG]; rfl
  have io : G.io = 0 := by rw [hG]; rfl
  rw [← hG]
  have lc := fun (ρ : Slots) (st : Store) (o3 o4 o6 o7 : Option Val) (hρ : ρ = [some (.fz (.lst (seqL s n))), some (.fz (.lst (seqL r n))), some (.fz (.lst (seqL dS n))), o3, o4, some (.fz (.lst (seqL dR n))), o6, o7]) => lc_rng (G := G) (ρ := ρ) (st := st) (own := [6]) (i := 6) (n := n) (elt := .call 6 (.cons (.idx (.var 2) (.var 6)) (.cons (.idx (.var 5) (.var 6)) .nil))) (f := fun k => dS k + dR k) (by unfold LIM; omega) fun k hk => by
    have j1 := idx_seq dS (n := n) (i := k) (j := k) rfl hk
    have j2 := idx_seq dR (n := n) (i := k) (j := k) rfl hk
    have p := ladd_ok (szS k hk) (szR k hk)
    subst hρ
    generalize dS k + dR k = u at p
    simp [wipeS, fns, io, g_law_logs, j1, j2, p]
  have r1 : rngOk 0 = true := by decide
  have r2 : rngOk (n : Int) = true := rngOk_nat (by omega)
  simp [fns, io, g_law_logs, fr_at, t1, b1, i1, d1, a1, i2, a2, i3, t2, l2, d2, i4, a3, d3, i5, ad1, ad2, kRng_eq r1 r2]
  rw [lc _ _ _ _ _ _ rfl]
  simp [fns, io, g_law_logs, fr_at, i4, a3, d3, i5, ad2]
end K03

/-! F26 -/
set_option linter.all false
set_option maxRecDepth 100000
namespace K03
open PySem PD L2 FR
theorem seqL_cons (f : Nat → Rat) {n : Nat} (h : 0 < n) : ∃ ds, seqL f n = frD (f 0) :: ds := by
  obtain ⟨k, rfl⟩ : ∃ k, n = k + 1 := ⟨n - 1, by omega⟩
  exact ⟨(List.range k).map fun i => frD (f (i + 1)), by simp [seqL, List.range_succ_eq_map, Function.comp_def]⟩
theorem cut_len (f : Nat → Rat) {n : Nat} (hn : n ≤ 7) : (cutD (seqL f n) (some 1) none).length ≤ 7 := by
  unfold cutD
  simp
  omega
theorem starts_ok {s : Nat → Rat} {n : Nat} {x : Rat} (hn0 : 0 < n) (hn : n ≤ 7) (s0 : s 0 = 1) : f_law_starts [.fz (.lst (seqL s n)), .fz (frD x)] = .ok (.bl true) [] := by
  obtain ⟨C, hC⟩ : ∃ C, C = cutD (seqL s n) (some 1) none := ⟨_, rfl⟩
  have hCl : C.length ≤ 7 := by rw [hC]; exact cut_len s hn
  have ad1 : bopS .add (.lst [frD x]) (.lst C) = .l (frD x :: C) := bopS_addl (by simp; unfold LIM; omega)
  have ad2 : bopS .add (.tup [frD x]) (.tup C) = .d (.tup (frD x :: C)) := bopS_addt (by simp; unfold LIM; omega)
  obtain ⟨ds, hds⟩ := seqL_cons s hn0
  rw [s0] at hds
  have rf : f_law_refused [.fz (.tup [.str "bad number", .bl true]), .fz (.str "bad number")] = .ok (.bl true) [] := refused_ok
  have a1 : x ≠ 1 → f_law_asked [.fz (.str "log"), .fz (.lst (frD x :: C)), .fz .non, .fz (.int 0)] = .ok (.tup [.str "bad number", .bl true]) [] := fun h => asked_lN (log_bad (.inr rfl) h)
  have a2 : x ≠ 0 → f_law_asked [.fz (.str "exp"), .fz (.tup (frD x :: C)), .fz .non, .fz (.int 0)] = .ok (.tup [.str "bad number", .bl true]) [] := fun h => asked_eN (exp_bad (.inl rfl) h)
  have a3 : f_law_asked [.fz (.str "log"), .fz (.tup [.tup [.int 0, .int 1]]), .fz .non, .fz (.int 0)] = .ok (.tup [.str "bad number", .bl true]) [] := asked_lN (log_bad (x := 0) (ds := []) (.inl rfl) (by decide))
  have a4 : f_law_asked [.fz (.str "exp"), .fz (.lst (seqL s n)), .fz .non, .fz (.int 0)] = .ok (.tup [.str "bad number", .bl true]) [] := by
    rw [hds]
    exact asked_eN (exp_bad (x := 1) (.inr rfl) (by decide))
  have e1 : eqS (frD x) (.tup [.int 1, .int 1]) = some (decide (x = 1)) := eqS_fr x 1
  have i0 : idxS (frD x) (.int 0) = some (.int x.num) := by unfold frD; simp
  rw [show f_law_starts = runDef (md.gam g_law_starts) ⟨2, b_law_starts⟩ from rfl, runDef_eq]
  simp only [b_law_starts, contsOf, slotsOf]
  obtain ⟨G, hG⟩ : ∃ G : Gam, G = { md.gam g_law_starts with io := ([] : List Cont).length } := ⟨_, rfl⟩
  have fns : G.fns = g_law_starts := by rw [hG]; rfl
  have io : G.io = 0 := by rw [hG]; rfl
  rw [← hG]
  have key : ∀ b : Bool, eqS (frD x) (.tup [.int 1, .int 1]) = some b → (b = false → f_law_asked [.fz (.str "log"), .fz (.lst (frD x :: C)), .fz .non, .fz (.int 0)] = .ok (.tup [.str "bad number", .bl true]) []) → fin 0 (exs G b_law_starts [some (.fz (.lst (seqL s n))), some (.fz (frD x))] []) = .ok (.bl true) [] := fun b hb ha => by
    simp only [b_law_starts]
    by_cases c2 : x.num = 0
    · cases b with
      | true => simp [hb, fns, io, g_law_starts, ← hC, a3, a4, rf, i0, c2, fr_at]
      | false => simp [hb, fns, io, g_law_starts, ← hC, ad1, ha rfl, a3, a4, rf, i0, c2, fr_at]
    · have a2' := a2 fun z => c2 (Rat.num_eq_zero.mpr z)
      cases b with
      | true => simp [hb, fns, io, g_law_starts, ← hC, ad2, a2', a3, a4, rf, i0, c2, fr_at]
      | false => simp [hb, fns, io, g_law_starts, ← hC, ad1, ad2, ha rfl, a2', a3, a4, rf, i0, c2, fr_at]
  exact key _ e1 fun h => a1 fun z => by simp [z] at h
end K03

/-! F27 -/
set_option linter.all false
set_option maxRecDepth 100000
namespace K03
open PySem PD L2 FR
abbrev entryEx : Ex := .call 3 (.cons (.var 1) (.cons (.var 2) .nil))
theorem draw_loop (long : Bool) : ∀ (k i : Nat) (ds : List D), IsWell ds → ∃ (xs : List Rat) (ds' : List D), xs.length = k ∧ (∀ x ∈ xs, Nm x ∧ (long = false → x.den ∣ 12)) ∧ IsWell ds' ∧
    ∀ (G : Gam) (ρ : Slots) (rest : Store) (acc : List D) (N : Nat), i + k = N → G.fns[3]? = some ⟨[true, false], [], f_law_entry⟩ → G.io = 0 → (∀ d, ((wipeS ρ [5]).set 5 (some (.fz d)))[1]? = some (some (.loc 0))) → (∀ d, ((wipeS ρ [5]).set 5 (some (.fz d)))[2]? = some (some (.fz (.bl long)))) →
      lcLoop (.rng 0 N) (lBody G [5] (.nm 5) (.lit (.bl true)) entryEx ρ) k i acc (.lst ds :: rest) = .ok (acc ++ xs.map frD) (.lst ds' :: rest)
  | 0, i, ds, h => ⟨[], ds, rfl, by simp, h, fun G ρ rest acc N e _ _ _ _ => by
      show (if Iter.size _ (.rng 0 N) = some i then Res.ok acc _ else .stuck) = _
      rw [if_pos (by show some N = some i; rw [← e]; rfl)]
      simp⟩
  | k + 1, i, ds, h => by
    obtain ⟨x, ds1, hx, hd, hw, e⟩ := entry_ok h long
    obtain ⟨xs, ds2, hl, ha, hw2, run⟩ := draw_loop long k (i + 1) ds1 hw
    refine ⟨x :: xs, ds2, by simp [hl], ?_, hw2, fun G ρ rest acc N eN fns io r1 r2 => ?_⟩
    · intro y hy
      rcases List.mem_cons.mp hy with rfl | hy
      · exact ⟨hx, hd⟩
      · exact ha y hy
    · have body : lBody G [5] (.nm 5) (.lit (.bl true)) entryEx ρ (.int (0 + i)) (.lst ds :: rest) = .ok [frD x] (.lst ds1 :: rest) := lBody_1 (by
        simp [ev_var (r1 _), ev_var (r2 _), fns, io, kCal2_m1, e])
      show (if Iter.size _ (.rng 0 N) = some (i + (k + 1)) then pick (some (.int (0 + i))) fun d => (lBody G [5] (.nm 5) (.lit (.bl true)) entryEx ρ d (.lst ds :: rest)).bind fun ds st' => lcLoop (.rng 0 N) (lBody G [5] (.nm 5) (.lit (.bl true)) entryEx ρ) k (i + 1) (acc ++ ds) st' else .stuck) = _
      rw [if_pos (by show some N = _; rw [← eN])]
      simp only [pick_some', body, Res.bind_ok']
      rw [run G ρ rest (acc ++ [frD x]) N (by omega) fns io r1 r2]
      simp
theorem map_seqL (xs : List Rat) : xs.map frD = seqL (fun i => xs.getD i 0) xs.length := by
  apply List.ext_getElem
  · simp
  · intro i h1 h2
    simp only [seqL, List.getElem_map, List.getElem_range]
    simp at h1
    simp [List.getD, h1]
/-- the drawn entries -/
theorem draw_ok (long : Bool) (n : Nat) {ds : List D} (hn : n < 1000) (h : IsWell ds) : ∃ (f : Nat → Rat) (ds' : List D), (∀ k < n, Nm (f k) ∧ (long = false → (f k).den ∣ 12)) ∧ IsWell ds' ∧
    ∀ (G : Gam) (ρ : Slots) (rest : Store), G.fns[3]? = some ⟨[true, false], [], f_law_entry⟩ → G.io = 0 → (∀ d, ((wipeS ρ [5]).set 5 (some (.fz d)))[1]? = some (some (.loc 0))) → (∀ d, ((wipeS ρ [5]).set 5 (some (.fz d)))[2]? = some (some (.fz (.bl long)))) →
      kLc G ρ [5] (.nm 5) (.lit (.bl true)) entryEx (.rng 0 n) (.lst ds :: rest) = .ok (.loc (rest.length + 1)) (.lst ds' :: rest ++ [.lst (seqL f n)]) := by
  obtain ⟨xs, ds', hl, ha, hw, run⟩ := draw_loop long n 0 ds h
  refine ⟨fun i => xs.getD i 0, ds', fun k hk => ?_, hw, fun G ρ rest fns io r1 r2 => ?_⟩
  · have hk' : k < xs.length := by omega
    have e : xs.getD k 0 = xs[k] := by simp [List.getD, hk']
    simp only [e]
    exact ha _ (List.getElem_mem hk')
  · rw [kLc_eq (n := n) rfl (by unfold LIM; omega), run G ρ rest [] n (by omega) fns io r1 r2]
    rw [List.nil_append, map_seqL, hl]
    simp
/-! ### common denominators -/
def dprod (f : Nat → Rat) : Nat → Nat
  | 0 => 1
  | n + 1 => dprod f n * (f n).den
theorem dprod_ne (f : Nat → Rat) : ∀ n, dprod f n ≠ 0
  | 0 => Nat.one_ne_zero
  | n + 1 => Nat.mul_ne_zero (dprod_ne f n) (f n).den_nz
theorem dprod_dvd (f : Nat → Rat) : ∀ {n k : Nat}, k < n → (f k).den ∣ dprod f n
  | n + 1, k, h => by
    by_cases e : k = n
    · subst e; exact Nat.dvd_mul_left _ _
    · exact Nat.dvd_trans (dprod_dvd f (n := n) (by omega)) (Nat.dvd_mul_right _ _)
theorem dprod_le {f : Nat → Rat} : ∀ {n : Nat}, (∀ k < n, (f k).den < 2 ^ 64) → dprod f n ≤ 2 ^ (64 * n)
  | 0, _ => Nat.le_refl 1
  | n + 1, h => by
    have h1 := dprod_le (f := f) (n := n) fun k hk => h k (by omega)
    have h2 := h n (by omega)
    rw [show 64 * (n + 1) = 64 * n + 64 by omega, Nat.pow_add]
    exact Nat.mul_le_mul h1 (Nat.le_of_lt h2)
/-- a common denominator of a drawn row -/
theorem common {f : Nat → Rat} {n m : Nat} {long : Bool} (hnm : n ≤ m) (h : ∀ k < n, Nm (f k) ∧ (long = false → (f k).den ∣ 12)) : ∃ M, M ≠ 0 ∧ M ≤ (if long then 2 ^ (64 * m) else 12) ∧ ∀ k < n, Qz M 71 (f k) := by
  cases long with
  | true =>
    refine ⟨dprod f n, dprod_ne f n, ?_, fun k hk => ⟨dprod_dvd f hk, (h k hk).1.n⟩⟩
    exact Nat.le_trans (dprod_le fun k hk => (h k hk).1.d) (Nat.pow_le_pow_right (by decide) (Nat.mul_le_mul_left 64 hnm))
  | false => exact ⟨12, by decide, Nat.le_refl 12, fun k hk => ⟨(h k hk).2 rfl, (h k hk).1.n⟩⟩
theorem quoSz_of {a b : Nat → Rat} {n d D N K L : Nat} (w : Ok ((D * (b 0).num.natAbs) ^ (L + 1) * D)) (hK : D < 2 ^ K) (h0 : b 0 ≠ 0) (hd : 0 < d) (ha : ∀ j < n, Qz D N (a j)) (hb : ∀ j < d, Qz D N (b j))
    (hN : (L + 1) * (N + K + 4401 * (L + 2)) + N + 4401 * (L + 2) ≤ NB) : QuoSz a b (quo (upTo a n) b d) n d L ∧ QuoLz b (quo (upTo a n) b d) d L := by
  have hD : D ≠ 0 := fun z => w.p (by rw [z, Nat.mul_zero])
  have wD : Ok D := w.of_le (Nat.dvd_mul_left _ _)
  have wE : Ok ((D * (b 0).num.natAbs) ^ (L + 1)) := w.of_le (Nat.dvd_mul_right _ _)
  have hu : ∀ j, Qz D N (upTo a n j) := fun j => by
    unfold upTo; split
    · rename_i h; exact ha j h
    · exact Qz.zero _ _
  have q0 := Qz.quo (a := upTo a n) (b := b) (d := d) (L := L) w hK h0 (fun j _ => hu j) (fun j hj => hb j (by omega))
  have bn : ∀ k, k ≤ L → (k + 1) * (N + K + 4401 * (L + 2)) ≤ (L + 1) * (N + K + 4401 * (L + 2)) := fun k hk => Nat.mul_le_mul_right _ (by omega)
  have q : ∀ k ≤ L, Qz ((D * (b 0).num.natAbs) ^ (L + 1)) ((L + 1) * (N + K + 4401 * (L + 2))) (quo (upTo a n) b d k) := fun k hk => (q0 k hk).mono (pow_dvd (by omega)) (bn k hk)
  have p : ∀ i < d, ∀ k ≤ L, Qz ((D * (b 0).num.natAbs) ^ (L + 1) * D) ((L + 1) * (N + K + 4401 * (L + 2)) + N) (b i * quo (upTo a n) b d k) := fun i hi k hk => by
    have := Qz.mul wE.p hD (q k hk) (hb i hi)
    rw [Rat.mul_comm] at this
    exact this
  have u : ∀ k, Qz ((D * (b 0).num.natAbs) ^ (L + 1) * D) ((L + 1) * (N + K + 4401 * (L + 2)) + N + 4401 * L) (upTo a n k) := fun k => (hu k).mono (Nat.dvd_mul_left _ _) (by omega)
  obtain ⟨C, hC⟩ : ∃ C, C = (L + 1) * (N + K + 4401 * (L + 2)) := ⟨_, rfl⟩
  rw [← hC] at q p u hN
  have p1 : ∀ k ≤ L, ∀ i < min k (d - 1), Sz NB (b (i + 1) * quo (upTo a n) b d (k - (i + 1))) := fun k hk i hi => Qz.sz (p (i + 1) (by omega) (k - (i + 1)) (by omega)) w (by omega)
  have p2 : ∀ k ≤ L, ∀ i < min (k + 1) d, Sz NB (b i * quo (upTo a n) b d (k - i)) := fun k hk i hi => Qz.sz (p i (by omega) (k - i) (by omega)) w (by omega)
  have x1 : ∀ k ≤ L, ∀ i ≤ min k (d - 1), Sz NB (upTo a n k - ps (fun i => b (i + 1) * quo (upTo a n) b d (k - (i + 1))) i) := fun k hk i hi => by
    have s := Qz.ps w (n := i) fun j hj => p (j + 1) (by omega) (k - (j + 1)) (by omega)
    have s' := s.up (M := C + N + 4401 * L) (by omega)
    exact Qz.sz ((u k).sub w s') w (by omega)
  have x2 : ∀ k ≤ L, ∀ i < min (k + 1) d, Sz NB (ps (fun i => b i * quo (upTo a n) b d (k - i)) i) := fun k hk i hi => by
    have s := Qz.ps w (n := i) fun j hj => p j (by omega) (k - j) (by omega)
    exact Qz.sz s w (by omega)
  exact ⟨⟨fun j hj => Qz.sz (hb j hj) wD (by omega), fun k hk => Qz.sz (q k hk) wE (by omega), p1, x1⟩, ⟨p2, x2⟩⟩
end K03

/-! F28 -/
set_option linter.all false
set_option maxRecDepth 100000
set_option maxHeartbeats 4000000
namespace K03
open PySem PD L2 FR
theorem ok_le {W V : Nat} (hW : W ≠ 0) (h : W ≤ V) (hV : V < 2 ^ 4400) : Ok W := ⟨hW, Nat.lt_of_le_of_lt h hV⟩
theorem pow_le2 {a b m n : Nat} (h : a ≤ b) (hb : 1 ≤ b) (hm : m ≤ n) : a ^ m ≤ b ^ n := Nat.le_trans (Nat.pow_le_pow_left h m) (Nat.pow_le_pow_right hb hm)
theorem fct_le {m n : Nat} (h : m ≤ n) : fct m ≤ fct n := Nat.le_of_dvd (Nat.pos_of_ne_zero (fct_ne n)) (fct_dvd h)
/-- the denominators of two drawn series -/
theorem ok_logs {M V n : Nat} {long : Bool} (hM : M ≠ 0) (hV : V ≠ 0) (lM : M ≤ (if long then 2 ^ (64 * 3) else 12)) (lV : V ≤ (if long then 2 ^ (64 * 3) else 12)) (hn : n ≤ (if long then 4 else 7)) : Ok ((M * V) ^ n * fct n * (M * V) * fct n) := by
  refine ok_le (Nat.mul_ne_zero (Nat.mul_ne_zero (Nat.mul_ne_zero (pow_nz _ (Nat.mul_ne_zero hM hV)) (fct_ne _)) (Nat.mul_ne_zero hM hV)) (fct_ne _)) (V := if long then (2 ^ 384) ^ 4 * fct 4 * 2 ^ 384 * fct 4 else 144 ^ 7 * fct 7 * 144 * fct 7) ?_ ?_
  · cases long with
    | true =>
      simp only [if_true] at *
      have h1 : M * V ≤ 2 ^ 384 := Nat.le_trans (Nat.mul_le_mul lM lV) (by decide +kernel)
      exact Nat.mul_le_mul (Nat.mul_le_mul (Nat.mul_le_mul (pow_le2 h1 (by decide +kernel) hn) (fct_le hn)) h1) (fct_le hn)
    | false =>
      simp at *
      have h1 : M * V ≤ 144 := Nat.mul_le_mul lM lV
      exact Nat.mul_le_mul (Nat.mul_le_mul (Nat.mul_le_mul (pow_le2 h1 (by decide) hn) (fct_le hn)) h1) (fct_le hn)
  · cases long <;> decide +kernel
/-- the denominators of a quotient -/
theorem ok_quo {D p L : Nat} {long : Bool} (hD : D ≠ 0) (hp : p ≠ 0) (lD : D ≤ (if long then 2 ^ 384 else 2 ^ 76)) (lp : p < 2 ^ 71) (hL : L ≤ (if long then 5 else 10)) : Ok ((D * p) ^ (L + 1) * D) := by
  refine ok_le (Nat.mul_ne_zero (pow_nz _ (Nat.mul_ne_zero hD hp)) hD) (V := if long then (2 ^ 384 * 2 ^ 71) ^ 6 * 2 ^ 384 else (2 ^ 76 * 2 ^ 71) ^ 11 * 2 ^ 76) ?_ ?_
  · cases long with
    | true =>
      simp only [if_true] at *
      exact Nat.mul_le_mul (pow_le2 (Nat.mul_le_mul lD (Nat.le_of_lt lp)) (by decide +kernel) (by omega)) lD
    | false =>
      simp only [Bool.false_eq_true, if_false] at *
      exact Nat.mul_le_mul (pow_le2 (Nat.mul_le_mul lD (Nat.le_of_lt lp)) (by decide +kernel) (by omega)) lD
  · cases long <;> decide +kernel
theorem nm_qz {x : Rat} (h : Nm x) : Qz x.den 71 x := ⟨Nat.dvd_refl _, h.n⟩
theorem nm_sz {x : Rat} (h : Nm x) : Sz NB x := ⟨Nat.lt_of_lt_of_le h.n (Nat.pow_le_pow_right (by decide) (by decide)), Nat.lt_of_lt_of_le h.d (Nat.pow_le_pow_right (by decide) (by decide))⟩
theorem ok_exp {W k : Nat} (hW : W ≠ 0) (h : W ≤ 2 ^ 128) (hk : k ≤ 8) : Ok (W ^ k * fct k * W) := by
  refine ok_le (Nat.mul_ne_zero (Nat.mul_ne_zero (pow_nz _ hW) (fct_ne _)) hW) (V := (2 ^ 128) ^ 8 * fct 8 * 2 ^ 128) ?_ (by decide +kernel)
  exact Nat.mul_le_mul (Nat.mul_le_mul (pow_le2 h (by decide +kernel) hk) (fct_le hk)) h
/-- what the exponentials of two drawn numbers want -/
theorem exps {t u : Rat} (ht : Nm t) (hu : Nm u) {k : Nat} (hk : k ≤ 8) : (∀ j ≤ k, Sz NB (expS t j)) ∧ (∀ j ≤ k, Sz NB (expS t j * t)) ∧ (∀ j ≤ k, Sz NB (expS u j)) ∧ (∀ j ≤ k, Sz NB (expS u j * u)) ∧ Sz NB (t + u) ∧ (∀ j ≤ k, Sz NB (expS (t + u) j)) ∧ (∀ j ≤ k, Sz NB (expS (t + u) j * (t + u))) ∧ TimesSz (expS t) (expS u) (k + 1) := by
  have l1 : t.den ≤ 2 ^ 128 := Nat.le_trans (Nat.le_of_lt ht.d) (Nat.pow_le_pow_right (by decide) (by decide))
  have l2 : u.den ≤ 2 ^ 128 := Nat.le_trans (Nat.le_of_lt hu.d) (Nat.pow_le_pow_right (by decide) (by decide))
  have l3 : t.den * u.den ≤ 2 ^ 128 := Nat.le_trans (Nat.mul_le_mul (Nat.le_of_lt ht.d) (Nat.le_of_lt hu.d)) (by decide +kernel)
  have n3 : t.den * u.den ≠ 0 := Nat.mul_ne_zero t.den_nz u.den_nz
  have w3 : Ok (t.den * u.den) := (ok_exp n3 l3 (k := 0) (by omega)).of_le (Nat.dvd_mul_left _ _)
  have q3 : Qz (t.den * u.den) 4472 (t + u) := ((nm_qz ht).mono (Nat.dvd_mul_right _ _) (Nat.le_refl 71)).add w3 ((nm_qz hu).mono (Nat.dvd_mul_left _ _) (Nat.le_refl 71))
  have kk : k * (4472 + 1) ≤ 8 * (4472 + 1) := Nat.mul_le_mul_right _ hk
  have e1 := expS_sz t.den_nz (nm_qz ht) (ok_exp t.den_nz l1 hk) (by show _ ≤ 1000000; omega)
  have e2 := expS_sz u.den_nz (nm_qz hu) (ok_exp u.den_nz l2 hk) (by show _ ≤ 1000000; omega)
  have e3 := expS_sz n3 q3 (ok_exp n3 l3 hk) (by show _ ≤ 1000000; omega)
  have x1 : ∀ j < k + 1, Qz (t.den ^ k * fct k) 600 (expS t j) := fun j hj => (Qz.expS t.den_nz (nm_qz ht) j).mono (Nat.mul_dvd_mul (pow_dvd (by omega)) (fct_dvd (by omega))) (by omega)
  have x2 : ∀ j < k + 1, Qz (u.den ^ k * fct k) 600 (expS u j) := fun j hj => (Qz.expS u.den_nz (nm_qz hu) j).mono (Nat.mul_dvd_mul (pow_dvd (by omega)) (fct_dvd (by omega))) (by omega)
  have w4 : Ok (t.den ^ k * fct k * (u.den ^ k * fct k)) := by
    refine ok_le (Nat.mul_ne_zero (Nat.mul_ne_zero (pow_nz _ t.den_nz) (fct_ne _)) (Nat.mul_ne_zero (pow_nz _ u.den_nz) (fct_ne _))) (V := ((2 ^ 128) ^ 8 * fct 8) * ((2 ^ 128) ^ 8 * fct 8)) ?_ (by decide +kernel)
    exact Nat.mul_le_mul (Nat.mul_le_mul (pow_le2 l1 (by decide +kernel) hk) (fct_le hk)) (Nat.mul_le_mul (pow_le2 l2 (by decide +kernel) hk) (fct_le hk))
  exact ⟨e1.1, e1.2, e2.1, e2.2, q3.sz w3 (by decide), e3.1, e3.2, timesSz_of w4 x1 x2 (by show _ ≤ 1000000; omega)⟩
/-- what is drawn behind a first number -/
def bh (x : Rat) (f : Nat → Rat) (k : Nat) : Rat := if k = 0 then x else f (k - 1)
theorem bh_seq (x : Rat) (f : Nat → Rat) (n : Nat) : frD x :: seqL f n = seqL (bh x f) (n + 1) := by
  simp [seqL, List.range_succ_eq_map, Function.comp_def, bh]
theorem bh_add (x : Rat) (f : Nat → Rat) {n : Nat} (h : n < 1000) : bopS .add (.lst [frD x]) (.lst (seqL f n)) = .l (seqL (bh x f) (n + 1)) := by
  rw [bopS_addl (by simp; unfold LIM; omega), ← bh_seq]
  rfl
theorem common_bh {x : Rat} {f : Nat → Rat} {n m : Nat} {long : Bool} (hx : x = 1) (hnm : n ≤ m) (h : ∀ k < n, Nm (f k) ∧ (long = false → (f k).den ∣ 12)) : ∃ M, M ≠ 0 ∧ M ≤ (if long then 2 ^ (64 * m) else 12) ∧ ∀ k < n + 1, Qz M 71 (bh x f k) := by
  obtain ⟨M, h1, h2, h3⟩ := common hnm h
  refine ⟨M, h1, h2, fun k hk => ?_⟩
  unfold bh
  split
  · rw [hx]; exact Qz.one _ (by decide)
  · exact h3 (k - 1) (by omega)
/-- the law's quotient -/
theorem quo_all {f g : Nat → Rat} {x : Rat} {n1 n2 m1 m2 L : Nat} {long : Bool} (hf : ∀ k < n1, Nm (f k) ∧ (long = false → (f k).den ∣ 12)) (hg : ∀ k < n2, Nm (g k) ∧ (long = false → (g k).den ∣ 12)) (hx : Nm x) (x0 : x ≠ 0)
    (l1 : n1 ≤ (if long then 3 else 6)) (l2 : n2 ≤ (if long then 2 else 5)) (lL : L ≤ (if long then 5 else 10)) (h1 : m1 ≤ n1) (h2 : m2 ≤ n2 + 1) (hz : ∀ k, m2 ≤ k → k < n2 + 1 → bh x g k = 0) :
    f_law_quotient [.fz (.tup (seqL f m1)), .fz (.tup (seqL (bh x g) m2)), .fz (.int L)] = .ok (.bl true) [] := by
  have b0 : bh x g 0 = x := rfl
  have m20 : 0 < m2 := by
    rcases Nat.eq_zero_or_pos m2 with h | h
    · exact absurd (hz 0 (by omega) (by omega)) (by rw [b0]; exact x0)
    · exact h
  obtain ⟨M, hM0, hM, hMq⟩ := common (m := 3) (n := if long then n1 else 0) (f := f) (long := long) (by cases long <;> simp_all) (fun k hk => by
    cases long with
    | true => exact hf k hk
    | false => exact absurd hk (by simp))
  obtain ⟨V, hV0, hV, hVq⟩ := common (m := 2) (n := if long then n2 else 0) (f := g) (long := long) (by cases long <;> simp_all) (fun k hk => by
    cases long with
    | true => exact hg k hk
    | false => exact absurd hk (by simp))
  obtain ⟨D, hD⟩ : ∃ D, D = (if long then M * V * x.den else 12 * x.den) := ⟨_, rfl⟩
  have D0 : D ≠ 0 := by
    rw [hD]
    split
    · exact Nat.mul_ne_zero (Nat.mul_ne_zero hM0 hV0) x.den_nz
    · exact Nat.mul_ne_zero (by decide) x.den_nz
  have lD : D ≤ (if long then 2 ^ 384 else 2 ^ 76) := by
    rw [hD]
    cases long with
    | true =>
      simp only [if_true] at *
      exact Nat.le_trans (Nat.mul_le_mul (Nat.mul_le_mul hM hV) (Nat.le_of_lt hx.d)) (by decide +kernel)
    | false =>
      simp only [Bool.false_eq_true, if_false] at *
      exact Nat.le_trans (Nat.mul_le_mul_left 12 (Nat.le_of_lt hx.d)) (by decide +kernel)
  have qf : ∀ j < n1, Qz D 71 (f j) := fun j hj => by
    rw [hD]
    cases long with
    | true => exact (hMq j hj).mono (Nat.dvd_trans (Nat.dvd_mul_right _ _) (Nat.dvd_mul_right _ _)) (Nat.le_refl _)
    | false => exact ⟨Nat.dvd_trans ((hf j hj).2 rfl) (Nat.dvd_mul_right _ _), (hf j hj).1.n⟩
  have qg : ∀ j < n2, Qz D 71 (g j) := fun j hj => by
    rw [hD]
    cases long with
    | true => exact (hVq j hj).mono (Nat.dvd_trans (Nat.dvd_mul_left _ _) (Nat.dvd_mul_right _ _)) (Nat.le_refl _)
    | false => exact ⟨Nat.dvd_trans ((hg j hj).2 rfl) (Nat.dvd_mul_right _ _), (hg j hj).1.n⟩
  have qx : Qz D 71 x := (nm_qz hx).mono (by rw [hD]; split <;> exact Nat.dvd_mul_left _ _) (Nat.le_refl _)
  have qb : ∀ j < m2, Qz D 71 (bh x g j) := fun j hj => by
    unfold bh; split
    · exact qx
    · exact qg (j - 1) (by omega)
  have p0 : (bh x g 0).num.natAbs ≠ 0 := fun z => x0 (Rat.num_eq_zero.mp (Int.natAbs_eq_zero.mp z))
  have w := ok_quo (long := long) (L := L) D0 p0 lD hx.n lL
  have lL' : L ≤ 10 := by cases long <;> simp at lL <;> omega
  have n2' : n2 ≤ 5 := by cases long <;> simp at l2 <;> omega
  have hb2 : (bh x g 0).num.natAbs < 2 ^ 4500 := Nat.lt_of_lt_of_le hx.n (Nat.pow_le_pow_right (by decide) (by decide))
  cases long with
  | true =>
    simp only [if_true] at *
    have LL : (L + 1) * (71 + 385 + 4401 * (L + 2)) ≤ 6 * (71 + 385 + 4401 * 7) := Nat.mul_le_mul (by omega) (by omega)
    have hN : (L + 1) * (71 + 385 + 4401 * (L + 2)) + 71 + 4401 * (L + 2) ≤ 1000000 := by omega
    have hK : D < 2 ^ 385 := Nat.lt_of_le_of_lt lD (by decide +kernel)
    have hb0 : bh x g 0 ≠ 0 := x0
    have qf' : ∀ j < m1, Qz D 71 (f j) := fun j hj => qf j (Nat.lt_of_lt_of_le hj h1)
    have z := quoSz_of (a := f) (b := bh x g) (n := m1) (d := m2) (K := 385) (N := 71) (L := L) w hK hb0 m20 qf' qb hN
    have d1 : m2 < 1000 := by omega
    have d2 : L ≤ 40 := by omega
    exact lquotient_ok m20 d1 d2 hb0 hb2 z.1 z.2
  | false =>
    simp only [Bool.false_eq_true, if_false] at *
    have LL : (L + 1) * (71 + 77 + 4401 * (L + 2)) ≤ 11 * (71 + 77 + 4401 * 12) := Nat.mul_le_mul (by omega) (by omega)
    have hN : (L + 1) * (71 + 77 + 4401 * (L + 2)) + 71 + 4401 * (L + 2) ≤ 1000000 := by omega
    have hK : D < 2 ^ 77 := Nat.lt_of_le_of_lt lD (by decide +kernel)
    have hb0 : bh x g 0 ≠ 0 := x0
    have qf' : ∀ j < m1, Qz D 71 (f j) := fun j hj => qf j (Nat.lt_of_lt_of_le hj h1)
    have z := quoSz_of (a := f) (b := bh x g) (n := m1) (d := m2) (K := 77) (N := 71) (L := L) w hK hb0 m20 qf' qb hN
    have d1 : m2 < 1000 := by omega
    have d2 : L ≤ 40 := by omega
    exact lquotient_ok m20 d1 d2 hb0 hb2 z.1 z.2
end K03

/-! K03Plain -/
set_option linter.all false
set_option maxRecDepth 100000
set_option maxHeartbeats 4000000
namespace K03
open PySem PD L2 FR
theorem plain : ∀ ns : List Int, ns.length ≤ 63 → (∀ z ∈ ns, Builtin.Int.intBits z ≤ 1048576) → f_law [.fz (.lst (ns.map D.int))] = .ok (.bl true) [] := by
  intro ns hl hb
  obtain ⟨ds0, w0, e0⟩ := well_ok hl hb
  obtain ⟨b3, ds1, b0, b1, w1, e1⟩ := pull_ok w0 (t := 3) (by decide)
  obtain ⟨long, hlong⟩ : ∃ l : Bool, l = (b3 == 2) := ⟨_, rfl⟩
  obtain ⟨most, hmost⟩ : ∃ m : Int, m = (if long then 4 else 7) := ⟨_, rfl⟩
  have mo : 3 < most ∧ most < 8 := by rw [hmost]; split <;> omega
  obtain ⟨n1, ds2, n10, n11, w2, e2⟩ := pull_ok w1 (t := most) (by omega)
  obtain ⟨k1, rfl⟩ := Int.eq_ofNat_of_zero_le n10
  obtain ⟨f, ds3, hf, w3, run3⟩ := draw_ok long k1 (by omega) w2
  obtain ⟨x, ds4, hx, x0, w4, e4⟩ := some_ok w3
  obtain ⟨n2, ds5, n20, n21, w5, e5⟩ := pull_ok w4 (t := most - 1) (by omega)
  obtain ⟨k2, rfl⟩ := Int.eq_ofNat_of_zero_le n20
  obtain ⟨g, ds6, hg, w6, run6⟩ := draw_ok long k2 (by omega) w5
  obtain ⟨low, ds7, hlow, low0, w7, e7⟩ := some_ok w6
  obtain ⟨t, ds8, ht, w8, e8⟩ := number_ok w7
  obtain ⟨m1, hm1, z1, tr1⟩ := trim_ok (f := f) (n := k1) (by omega)
  obtain ⟨m2, hm2, z2, tr2⟩ := trim_ok (f := bh x g) (n := k2 + 1) (by omega)
  obtain ⟨top, htop⟩ : ∃ m : Int, m = (if long then 6 else 11) := ⟨_, rfl⟩
  have to : 5 < top ∧ top < 12 := by rw [htop]; split <;> omega
  obtain ⟨n3, ds9, n30, n31, w9, e9⟩ := pull_ok w8 (t := top) (by omega)
  obtain ⟨L, rfl⟩ := Int.eq_ofNat_of_zero_le n30
  have q := quo_all (f := f) (g := g) (x := x) (n1 := k1) (n2 := k2) (m1 := m1) (m2 := m2) (L := L) (long := long) hf hg hx x0 (by rw [hmost] at n11; cases long <;> simp at n11 ⊢ <;> omega) (by rw [hmost] at n21; cases long <;> simp at n21 ⊢ <;> omega) (by rw [htop] at n31; cases long <;> simp at n31 ⊢ <;> omega) hm1 hm2 z2
  have bo := bounds_ok (num := .tup (seqL f m1)) (low := low) (t := t)
  obtain ⟨n4, ds10, n40, n41, w10, e10⟩ := pull_ok w9 (t := 9) (by decide)
  obtain ⟨N, rfl⟩ := Int.eq_ofNat_of_zero_le n40
  obtain ⟨u, ds11, hu, w11, e11⟩ := number_ok w10
  obtain ⟨s1, s2, s3, s4, s5, s6, s7, s8⟩ := exps ht hu (k := N) (by omega)
  have a1 := asked_p (b := .non) (exp_series_ok (n := N) (by omega) (nm_sz ht) s1 s2)
  have a2 := asked_p (b := .non) (exp_series_ok (n := N) (by omega) (nm_sz hu) s3 s4)
  have g1 := grown_ok (n := N) (by omega) (nm_sz ht) s1 s2
  have g2 := grown_ok (n := N) (by omega) (nm_sz hu) s3 s4
  have g3 := grown_ok (n := N) (by omega) s5 s6 s7
  have ad := ladd_ok (nm_sz ht) (nm_sz hu)
  have tm := times_ok (s := .tup (seqL (expS t) (N + 1))) (r := .tup (seqL (expS u) (N + 1))) (.inl rfl) (.inl rfl) (by omega) (Nat.le_refl _) s8
  have i1 := istold_seq (f := expS t) (g := expS t) (n := N + 1) (.inl rfl) (fun j hj => s1 j (by omega)) fun _ _ => rfl
  have i2 := istold_seq (f := expS u) (g := expS u) (n := N + 1) (.inl rfl) (fun j hj => s3 j (by omega)) fun _ _ => rfl
  have i3 := istold_seq (f := cv (expS t) (expS u)) (g := expS (t + u)) (n := N + 1) (.inl rfl) (fun j hj => by rw [expS_add]; exact s6 j (by omega)) fun j _ => expS_add t u j
  obtain ⟨n5, ds12, n50, n51, w12, e12⟩ := pull_ok w11 (t := most) (by omega)
  obtain ⟨k5, rfl⟩ := Int.eq_ofNat_of_zero_le n50
  obtain ⟨f5, ds13, hf5, w13, run13⟩ := draw_ok long k5 (by omega) w12
  obtain ⟨f6, ds14, hf6, w14, run14⟩ := draw_ok long k5 (by omega) w13
  obtain ⟨hd, ds15, hhd, w15, e15⟩ := number_ok w14
  have lk5 : long = true → k5 ≤ 3 := fun h => by rw [hmost, h] at n51; simp at n51; omega
  obtain ⟨M, hM0, hM, hMq⟩ := common_bh (x := 1) (f := f5) (n := k5) (m := if long then 3 else 6) (long := long) rfl (by cases long <;> simp_all <;> omega) hf5
  obtain ⟨V, hV0, hV, hVq⟩ := common_bh (x := 1) (f := f6) (n := k5) (m := if long then 3 else 6) (long := long) rfl (by cases long <;> simp_all <;> omega) hf6
  have wl : Ok ((M * V) ^ (k5 + 1) * fct (k5 + 1) * (M * V) * fct (k5 + 1)) := ok_logs (long := long) hM0 hV0 (by cases long <;> simp_all) (by cases long <;> simp_all) (by cases long <;> simp_all <;> omega)
  have lg := logs_ok (s := bh 1 f5) (r := bh 1 f6) (n := k5 + 1) (by omega) (by omega) rfl rfl hMq hVq wl
  have stt := starts_ok (s := bh 1 f5) (n := k5 + 1) (x := hd) (by omega) (by omega) rfl
  have ba1 := bh_add x g (n := k2) (by omega)
  have ba5 : bopS .add (.lst [.tup [.int 1, .int 1]]) (.lst (seqL f5 k5)) = .l (seqL (bh 1 f5) (k5 + 1)) := bh_add 1 f5 (n := k5) (by omega)
  have ba6 : bopS .add (.lst [.tup [.int 1, .int 1]]) (.lst (seqL f6 k5)) = .l (seqL (bh 1 f6) (k5 + 1)) := bh_add 1 f6 (n := k5) (by omega)
  have one_ : D.tup [.int 1, .int 1] = frD 1 := rfl
  clear s1 s2 s3 s4 s5 s6 s7 s8 hf hg hf5 hf6 hMq hVq wl z1 z2 hM hV
  rw [show f_law = runDef (md.gam g_law) ⟨16, b_law⟩ from rfl, runDef_eq]
  simp only [b_law, contsOf, slotsOf]
  obtain ⟨G, hG⟩ : ∃ G : Gam, G = { md.gam g_law with io := ([] : List Cont).length } := ⟨_, rfl⟩
  have fns : G.fns = g_law := by rw [hG]; rfl
  have io : G.io = 0 := by rw [hG]; rfl
  have fn3 : G.fns[3]? = some ⟨[true, false], [], f_law_entry⟩ := by rw [fns]; rfl
  rw [← hG]
  have r1 : rngOk 0 = true := by decide
  have rk : ∀ k : Nat, k < 100 → rngOk (k : Int) = true := fun k hk => rngOk_nat (by omega)
  obtain ⟨S, hS⟩ : ∃ S, S = D.lst (ns.map .int) := ⟨_, rfl⟩
  rw [← hS] at e0 ⊢
  simp [fns, io, g_law, e0, kCal2_m1, e1]
  have hb3 : (b3 = 2) = (long = true) := by rw [hlong]; simp
  simp only [hb3, ← hlong]
  rw [show (if long = true then SR.nx [some (.fz S), some (.loc 0), some (.fz (.bl long)), some (.fz (.int 4)), none, none, none, none, none, none, none, none, none, none, none, none] [.lst ds1] else SR.nx [some (.fz S), some (.loc 0), some (.fz (.bl long)), some (.fz (.int 7)), none, none, none, none, none, none, none, none, none, none, none, none] [.lst ds1]) = SR.nx [some (.fz S), some (.loc 0), some (.fz (.bl long)), some (.fz (.int most)), none, none, none, none, none, none, none, none, none, none, none, none] [.lst ds1] by rw [hmost]; cases long <;> rfl]
  have rk1 := kRng_eq (st := [.lst ds2]) r1 (rk k1 (by omega))
  simp [fns, io, g_law, kCal2_m1, e2, kRng_eq r1 (rk k1 (by omega))]
  rw [run3 G _ [] fn3 io (fun d => by rfl) (fun d => by rfl)]
  simp [fns, io, g_law, fr_at, tr1, kCal2_m, e4, kCal2_m1, e5, kRng_eq r1 (rk k2 (by omega))]
  rw [run6 G _ [.fz (.lst (seqL f k1)), .lst [frD x]] fn3 io (fun d => by rfl) (fun d => by rfl)]
  have ixt : idxS (.lst [.int 11, .int 6]) (.int (if long = true then 1 else 0)) = some (.int top) := by rw [htop]; cases long <;> rfl
  simp [fns, io, g_law, fr_at, ba1, kCal2_m, e7, e8, tr2, ixt, kCal2_m1, e9, q, bo, e10, e11, a1, a2, g1, g2, i1, i2, tm, ad, g3, i3, e12, kRng_eq r1 (rk k5 (by omega))]
  rw [run13 G _ [.fz (.lst (seqL f k1)), .lst [frD x], .lst (seqL g k2), .fz (.lst (seqL (bh x g) (k2 + 1))), .lst [.int 11, .int 6], .lst [.tup [.int 1, .int 1]]] fn3 io (fun d => by rfl) (fun d => by rfl)]
  simp [fns, io, g_law, fr_at, ba5, kRng_eq r1 (rk k5 (by omega))]
  rw [run14 G _ [.fz (.lst (seqL f k1)), .lst [frD x], .lst (seqL g k2), .fz (.lst (seqL (bh x g) (k2 + 1))), .lst [.int 11, .int 6], .lst [.tup [.int 1, .int 1]], .lst (seqL f5 k5), .lst (seqL (bh 1 f5) (k5 + 1)), .lst [.tup [.int 1, .int 1]]] fn3 io (fun d => by rfl) (fun d => by rfl)]
  simp [fns, io, g_law, fr_at, ba6, lg, kCal2_m, e15, stt]
end K03

/-! K03Chain -/
set_option Elab.async false
set_option linter.all false
set_option maxRecDepth 100000
set_option maxHeartbeats 0
/-! law_k03_series: each def keeps its promise (printed by gen.py). -/
namespace K03
open PySem PD L2

theorem supOk_TooLarge : sup_TooLarge.Ok := ⟨_, _, _, _, _, _, _, _, _, _, _, _, _, _, _, _, _, rfl, rfl, ⟨rfl, rfl, rfl, rfl, rfl, rfl, rfl, by decide +kernel⟩, by decide +kernel, by decide +kernel, by decide +kernel⟩
theorem sc_lowest : FnScope N_lowest ["p", "q"] (defScope (top 9)) := ⟨rfl, rfl, rfl, by decide +kernel, rfl, by decide +kernel, by decide +kernel⟩
theorem ck_lowest : chkSs (md.tab N_lowest t_lowest 0) md.exc (defScope (top 9)) true b_lowest (defBody (top 9)) = true := by decide +kernel
theorem h_lowest {K : PySem.W.Frag} {mg : Str → Option Value} {w : World} {base : Heap} (E : EnvK PySem.Challenge.pw_trueruns_k03_series md K mg) : FnH ⟨K, mg⟩ PySem.Challenge.pw_trueruns_k03_series w base 1 "lowest" 2 ⟨[false, false], [], f_lowest⟩ :=
  fn_make E (x := "lowest") 0 (by rfl) [false, false] sc_lowest (by rfl) ck_lowest (fun _ _ _ _ _ _ us hl => match us, hl with | [_, _], _ => rfl) .nil
theorem sc_number_at : FnScope N_number_at ["p", "k"] (defScope (top 15)) := ⟨rfl, rfl, rfl, by decide +kernel, rfl, by decide +kernel, by decide +kernel⟩
theorem ck_number_at : chkSs (md.tab N_number_at t_number_at 0) md.exc (defScope (top 15)) true b_number_at (defBody (top 15)) = true := by decide +kernel
theorem h_number_at {K : PySem.W.Frag} {mg : Str → Option Value} {w : World} {base : Heap} (E : EnvK PySem.Challenge.pw_trueruns_k03_series md K mg) : FnH ⟨K, mg⟩ PySem.Challenge.pw_trueruns_k03_series w base 1 "number_at" 2 ⟨[false, false], [], f_number_at⟩ :=
  fn_make E (x := "number_at") 5 (by rfl) [false, false] sc_number_at (by rfl) ck_number_at (fun _ _ _ _ _ _ us hl => match us, hl with | [_, _], _ => rfl) .nil
theorem sc_law_well : FnScope N_law_well ["script"] (defScope (top 26)) := ⟨rfl, rfl, rfl, by decide +kernel, rfl, by decide +kernel, by decide +kernel⟩
theorem ck_law_well : chkSs (md.tab N_law_well t_law_well 0) md.exc (defScope (top 26)) true b_law_well (defBody (top 26)) = true := by decide +kernel
theorem h_law_well {K : PySem.W.Frag} {mg : Str → Option Value} {w : World} {base : Heap} (E : EnvK PySem.Challenge.pw_trueruns_k03_series md K mg) : FnH ⟨K, mg⟩ PySem.Challenge.pw_trueruns_k03_series w base 1 "_law_well" 1 ⟨[false], [], f_law_well⟩ :=
  fn_make E (x := "_law_well") 13 (by rfl) [false] sc_law_well (by rfl) ck_law_well (fun _ _ _ _ _ _ us hl => match us, hl with | [_], _ => rfl) .nil
theorem sc_law_pull : FnScope N_law_pull ["well", "top"] (defScope (top 27)) := ⟨rfl, rfl, rfl, by decide +kernel, rfl, by decide +kernel, by decide +kernel⟩
theorem ck_law_pull : chkSs (md.tab N_law_pull t_law_pull 0) md.exc (defScope (top 27)) true b_law_pull (defBody (top 27)) = true := by decide +kernel
theorem h_law_pull {K : PySem.W.Frag} {mg : Str → Option Value} {w : World} {base : Heap} (E : EnvK PySem.Challenge.pw_trueruns_k03_series md K mg) : FnH ⟨K, mg⟩ PySem.Challenge.pw_trueruns_k03_series w base 1 "_law_pull" 2 ⟨[true, false], [], f_law_pull⟩ :=
  fn_make E (x := "_law_pull") 14 (by rfl) [true, false] sc_law_pull (by rfl) ck_law_pull (fun _ _ _ _ _ _ us hl => match us, hl with | [_, _], _ => rfl) .nil
theorem sc_law_gcd : FnScope N_law_gcd ["one", "two"] (defScope (top 28)) := ⟨rfl, rfl, rfl, by decide +kernel, rfl, by decide +kernel, by decide +kernel⟩
theorem ck_law_gcd : chkSs (md.tab N_law_gcd t_law_gcd 0) md.exc (defScope (top 28)) true b_law_gcd (defBody (top 28)) = true := by decide +kernel
theorem h_law_gcd {K : PySem.W.Frag} {mg : Str → Option Value} {w : World} {base : Heap} (E : EnvK PySem.Challenge.pw_trueruns_k03_series md K mg) : FnH ⟨K, mg⟩ PySem.Challenge.pw_trueruns_k03_series w base 1 "_law_gcd" 2 ⟨[false, false], [], f_law_gcd⟩ :=
  fn_make E (x := "_law_gcd") 15 (by rfl) [false, false] sc_law_gcd (by rfl) ck_law_gcd (fun _ _ _ _ _ _ us hl => match us, hl with | [_, _], _ => rfl) .nil
theorem sc_law_whole : FnScope N_law_whole ["told"] (defScope (top 33)) := ⟨rfl, rfl, rfl, by decide +kernel, rfl, by decide +kernel, by decide +kernel⟩
theorem ck_law_whole : chkSs (md.tab N_law_whole t_law_whole 0) md.exc (defScope (top 33)) true b_law_whole (defBody (top 33)) = true := by decide +kernel
theorem h_law_whole {K : PySem.W.Frag} {mg : Str → Option Value} {w : World} {base : Heap} (E : EnvK PySem.Challenge.pw_trueruns_k03_series md K mg) : FnH ⟨K, mg⟩ PySem.Challenge.pw_trueruns_k03_series w base 1 "_law_whole" 1 ⟨[false], [], f_law_whole⟩ :=
  fn_make E (x := "_law_whole") 20 (by rfl) [false] sc_law_whole (by rfl) ck_law_whole (fun _ _ _ _ _ _ us hl => match us, hl with | [_], _ => rfl) .nil
theorem sc_law_trim : FnScope N_law_trim ["row"] (defScope (top 38)) := ⟨rfl, rfl, rfl, by decide +kernel, rfl, by decide +kernel, by decide +kernel⟩
theorem ck_law_trim : chkSs (md.tab N_law_trim t_law_trim 0) md.exc (defScope (top 38)) true b_law_trim (defBody (top 38)) = true := by decide +kernel
theorem h_law_trim {K : PySem.W.Frag} {mg : Str → Option Value} {w : World} {base : Heap} (E : EnvK PySem.Challenge.pw_trueruns_k03_series md K mg) : FnH ⟨K, mg⟩ PySem.Challenge.pw_trueruns_k03_series w base 1 "_law_trim" 1 ⟨[false], [], f_law_trim⟩ :=
  fn_make E (x := "_law_trim") 25 (by rfl) [false] sc_law_trim (by rfl) ck_law_trim (fun _ _ _ _ _ _ us hl => match us, hl with | [_], _ => rfl) .nil
theorem sc_law_refused : FnScope N_law_refused ["asked", "word"] (defScope (top 41)) := ⟨rfl, rfl, rfl, by decide +kernel, rfl, by decide +kernel, by decide +kernel⟩
theorem ck_law_refused : chkSs (md.tab N_law_refused t_law_refused 0) md.exc (defScope (top 41)) true b_law_refused (defBody (top 41)) = true := by decide +kernel
theorem h_law_refused {K : PySem.W.Frag} {mg : Str → Option Value} {w : World} {base : Heap} (E : EnvK PySem.Challenge.pw_trueruns_k03_series md K mg) : FnH ⟨K, mg⟩ PySem.Challenge.pw_trueruns_k03_series w base 1 "_law_refused" 2 ⟨[false, false], [], f_law_refused⟩ :=
  fn_make E (x := "_law_refused") 28 (by rfl) [false, false] sc_law_refused (by rfl) ck_law_refused (fun _ _ _ _ _ _ us hl => match us, hl with | [_, _], _ => rfl) .nil
theorem sc_plus : FnScope N_plus ["x", "y"] (defScope (top 10)) := ⟨rfl, rfl, rfl, by decide +kernel, rfl, by decide +kernel, by decide +kernel⟩
theorem ck_plus : chkSs (md.tab N_plus t_plus 1) md.exc (defScope (top 10)) true b_plus (defBody (top 10)) = true := by decide +kernel
theorem h_plus {K : PySem.W.Frag} {mg : Str → Option Value} {w : World} {base : Heap} (E : EnvK PySem.Challenge.pw_trueruns_k03_series md K mg) : FnH ⟨K, mg⟩ PySem.Challenge.pw_trueruns_k03_series w base 2 "plus" 2 ⟨[false, false], [], f_plus⟩ :=
  fn_make E (x := "plus") 1 (by rfl) [false, false] sc_plus (by rfl) ck_plus (fun _ _ _ _ _ _ us hl => match us, hl with | [_, _], _ => rfl) (.cons ((h_lowest E).mono (by decide)) .nil)
theorem sc_product_of : FnScope N_product_of ["x", "y"] (defScope (top 12)) := ⟨rfl, rfl, rfl, by decide +kernel, rfl, by decide +kernel, by decide +kernel⟩
theorem ck_product_of : chkSs (md.tab N_product_of t_product_of 1) md.exc (defScope (top 12)) true b_product_of (defBody (top 12)) = true := by decide +kernel
theorem h_product_of {K : PySem.W.Frag} {mg : Str → Option Value} {w : World} {base : Heap} (E : EnvK PySem.Challenge.pw_trueruns_k03_series md K mg) : FnH ⟨K, mg⟩ PySem.Challenge.pw_trueruns_k03_series w base 2 "product_of" 2 ⟨[false, false], [], f_product_of⟩ :=
  fn_make E (x := "product_of") 3 (by rfl) [false, false] sc_product_of (by rfl) ck_product_of (fun _ _ _ _ _ _ us hl => match us, hl with | [_, _], _ => rfl) (.cons ((h_lowest E).mono (by decide)) .nil)
theorem sc_over : FnScope N_over ["x", "y"] (defScope (top 13)) := ⟨rfl, rfl, rfl, by decide +kernel, rfl, by decide +kernel, by decide +kernel⟩
theorem ck_over : chkSs (md.tab N_over t_over 1) md.exc (defScope (top 13)) true b_over (defBody (top 13)) = true := by decide +kernel
theorem h_over {K : PySem.W.Frag} {mg : Str → Option Value} {w : World} {base : Heap} (E : EnvK PySem.Challenge.pw_trueruns_k03_series md K mg) : FnH ⟨K, mg⟩ PySem.Challenge.pw_trueruns_k03_series w base 2 "over" 2 ⟨[false, false], [], f_over⟩ :=
  fn_make E (x := "over") 4 (by rfl) [false, false] sc_over (by rfl) ck_over (fun _ _ _ _ _ _ us hl => match us, hl with | [_, _], _ => rfl) (.cons ((h_lowest E).mono (by decide)) .nil)
theorem sc_law_frac : FnScope N_law_frac ["top", "bottom"] (defScope (top 29)) := ⟨rfl, rfl, rfl, by decide +kernel, rfl, by decide +kernel, by decide +kernel⟩
theorem ck_law_frac : chkSs (md.tab N_law_frac t_law_frac 1) md.exc (defScope (top 29)) true b_law_frac (defBody (top 29)) = true := by decide +kernel
theorem h_law_frac {K : PySem.W.Frag} {mg : Str → Option Value} {w : World} {base : Heap} (E : EnvK PySem.Challenge.pw_trueruns_k03_series md K mg) : FnH ⟨K, mg⟩ PySem.Challenge.pw_trueruns_k03_series w base 2 "_law_frac" 2 ⟨[false, false], [], f_law_frac⟩ :=
  fn_make E (x := "_law_frac") 16 (by rfl) [false, false] sc_law_frac (by rfl) ck_law_frac (fun _ _ _ _ _ _ us hl => match us, hl with | [_, _], _ => rfl) (.cons ((h_law_gcd E).mono (by decide)) .nil)
theorem sc_law_is_frac : FnScope N_law_is_frac ["told"] (defScope (top 34)) := ⟨rfl, rfl, rfl, by decide +kernel, rfl, by decide +kernel, by decide +kernel⟩
theorem ck_law_is_frac : chkSs (md.tab N_law_is_frac t_law_is_frac 1) md.exc (defScope (top 34)) true b_law_is_frac (defBody (top 34)) = true := by decide +kernel
theorem h_law_is_frac {K : PySem.W.Frag} {mg : Str → Option Value} {w : World} {base : Heap} (E : EnvK PySem.Challenge.pw_trueruns_k03_series md K mg) : FnH ⟨K, mg⟩ PySem.Challenge.pw_trueruns_k03_series w base 2 "_law_is_frac" 1 ⟨[false], [], f_law_is_frac⟩ :=
  fn_make E (x := "_law_is_frac") 21 (by rfl) [false] sc_law_is_frac (by rfl) ck_law_is_frac (fun _ _ _ _ _ _ us hl => match us, hl with | [_], _ => rfl) (.cons ((h_law_whole E).mono (by decide)) (.cons ((h_law_gcd E).mono (by decide)) .nil))
theorem sc_minus : FnScope N_minus ["x", "y"] (defScope (top 11)) := ⟨rfl, rfl, rfl, by decide +kernel, rfl, by decide +kernel, by decide +kernel⟩
theorem ck_minus : chkSs (md.tab N_minus t_minus 2) md.exc (defScope (top 11)) true b_minus (defBody (top 11)) = true := by decide +kernel
theorem h_minus {K : PySem.W.Frag} {mg : Str → Option Value} {w : World} {base : Heap} (E : EnvK PySem.Challenge.pw_trueruns_k03_series md K mg) : FnH ⟨K, mg⟩ PySem.Challenge.pw_trueruns_k03_series w base 3 "minus" 2 ⟨[false, false], [], f_minus⟩ :=
  fn_make E (x := "minus") 2 (by rfl) [false, false] sc_minus (by rfl) ck_minus (fun _ _ _ _ _ _ us hl => match us, hl with | [_, _], _ => rfl) (.cons ((h_plus E).mono (by decide)) .nil)
theorem sc_powers_series : FnScope N_powers_series ["t", "length"] (defScope (top 20)) := ⟨rfl, rfl, rfl, by decide +kernel, rfl, by decide +kernel, by decide +kernel⟩
theorem ck_powers_series : chkSs (md.tab N_powers_series t_powers_series 2) md.exc (defScope (top 20)) true b_powers_series (defBody (top 20)) = true := by decide +kernel
theorem h_powers_series {K : PySem.W.Frag} {mg : Str → Option Value} {w : World} {base : Heap} (E : EnvK PySem.Challenge.pw_trueruns_k03_series md K mg) : FnH ⟨K, mg⟩ PySem.Challenge.pw_trueruns_k03_series w base 3 "powers_series" 2 ⟨[false, false], [], f_powers_series⟩ :=
  fn_make E (x := "powers_series") 8 (by rfl) [false, false] sc_powers_series (by rfl) ck_powers_series (fun _ _ _ _ _ _ us hl => match us, hl with | [_, _], _ => rfl) (.cons ((h_over E).mono (by decide)) (.cons ((h_product_of E).mono (by decide)) .nil))
theorem sc_series_times : FnScope N_series_times ["s", "r"] (defScope (top 22)) := ⟨rfl, rfl, rfl, by decide +kernel, rfl, by decide +kernel, by decide +kernel⟩
theorem ck_series_times : chkSs (md.tab N_series_times t_series_times 2) md.exc (defScope (top 22)) true b_series_times (defBody (top 22)) = true := by decide +kernel
theorem h_series_times {K : PySem.W.Frag} {mg : Str → Option Value} {w : World} {base : Heap} (E : EnvK PySem.Challenge.pw_trueruns_k03_series md K mg) : FnH ⟨K, mg⟩ PySem.Challenge.pw_trueruns_k03_series w base 3 "series_times" 2 ⟨[false, false], [], f_series_times⟩ :=
  fn_make E (x := "series_times") 10 (by rfl) [false, false] sc_series_times (by rfl) ck_series_times (fun _ _ _ _ _ _ us hl => match us, hl with | [_, _], _ => rfl) (.cons ((h_plus E).mono (by decide)) (.cons ((h_product_of E).mono (by decide)) .nil))
theorem sc_series_exp : FnScope N_series_exp ["s"] (defScope (top 24)) := ⟨rfl, rfl, rfl, by decide +kernel, rfl, by decide +kernel, by decide +kernel⟩
theorem ck_series_exp : chkSs (md.tab N_series_exp t_series_exp 2) md.exc (defScope (top 24)) true b_series_exp (defBody (top 24)) = true := by decide +kernel
theorem h_series_exp {K : PySem.W.Frag} {mg : Str → Option Value} {w : World} {base : Heap} (E : EnvK PySem.Challenge.pw_trueruns_k03_series md K mg) : FnH ⟨K, mg⟩ PySem.Challenge.pw_trueruns_k03_series w base 3 "series_exp" 1 ⟨[false], [], f_series_exp⟩ :=
  fn_make E (x := "series_exp") 12 (by rfl) [false] sc_series_exp (by rfl) ck_series_exp (fun _ _ _ _ _ _ us hl => match us, hl with | [_], _ => rfl) (.cons ((h_plus E).mono (by decide)) (.cons ((h_product_of E).mono (by decide)) (.cons ((h_over E).mono (by decide)) .nil)))
theorem sc_law_add : FnScope N_law_add ["one", "two"] (defScope (top 30)) := ⟨rfl, rfl, rfl, by decide +kernel, rfl, by decide +kernel, by decide +kernel⟩
theorem ck_law_add : chkSs (md.tab N_law_add t_law_add 2) md.exc (defScope (top 30)) true b_law_add (defBody (top 30)) = true := by decide +kernel
theorem h_law_add {K : PySem.W.Frag} {mg : Str → Option Value} {w : World} {base : Heap} (E : EnvK PySem.Challenge.pw_trueruns_k03_series md K mg) : FnH ⟨K, mg⟩ PySem.Challenge.pw_trueruns_k03_series w base 3 "_law_add" 2 ⟨[false, false], [], f_law_add⟩ :=
  fn_make E (x := "_law_add") 17 (by rfl) [false, false] sc_law_add (by rfl) ck_law_add (fun _ _ _ _ _ _ us hl => match us, hl with | [_, _], _ => rfl) (.cons ((h_law_frac E).mono (by decide)) .nil)
theorem sc_law_mul : FnScope N_law_mul ["one", "two"] (defScope (top 31)) := ⟨rfl, rfl, rfl, by decide +kernel, rfl, by decide +kernel, by decide +kernel⟩
theorem ck_law_mul : chkSs (md.tab N_law_mul t_law_mul 2) md.exc (defScope (top 31)) true b_law_mul (defBody (top 31)) = true := by decide +kernel
theorem h_law_mul {K : PySem.W.Frag} {mg : Str → Option Value} {w : World} {base : Heap} (E : EnvK PySem.Challenge.pw_trueruns_k03_series md K mg) : FnH ⟨K, mg⟩ PySem.Challenge.pw_trueruns_k03_series w base 3 "_law_mul" 2 ⟨[false, false], [], f_law_mul⟩ :=
  fn_make E (x := "_law_mul") 18 (by rfl) [false, false] sc_law_mul (by rfl) ck_law_mul (fun _ _ _ _ _ _ us hl => match us, hl with | [_, _], _ => rfl) (.cons ((h_law_frac E).mono (by decide)) .nil)
theorem sc_law_div : FnScope N_law_div ["one", "two"] (defScope (top 32)) := ⟨rfl, rfl, rfl, by decide +kernel, rfl, by decide +kernel, by decide +kernel⟩
theorem ck_law_div : chkSs (md.tab N_law_div t_law_div 2) md.exc (defScope (top 32)) true b_law_div (defBody (top 32)) = true := by decide +kernel
theorem h_law_div {K : PySem.W.Frag} {mg : Str → Option Value} {w : World} {base : Heap} (E : EnvK PySem.Challenge.pw_trueruns_k03_series md K mg) : FnH ⟨K, mg⟩ PySem.Challenge.pw_trueruns_k03_series w base 3 "_law_div" 2 ⟨[false, false], [], f_law_div⟩ :=
  fn_make E (x := "_law_div") 19 (by rfl) [false, false] sc_law_div (by rfl) ck_law_div (fun _ _ _ _ _ _ us hl => match us, hl with | [_, _], _ => rfl) (.cons ((h_law_frac E).mono (by decide)) .nil)
theorem sc_law_is_row : FnScope N_law_is_row ["told"] (defScope (top 35)) := ⟨rfl, rfl, rfl, by decide +kernel, rfl, by decide +kernel, by decide +kernel⟩
theorem ck_law_is_row : chkSs (md.tab N_law_is_row t_law_is_row 2) md.exc (defScope (top 35)) true b_law_is_row (defBody (top 35)) = true := by decide +kernel
theorem h_law_is_row {K : PySem.W.Frag} {mg : Str → Option Value} {w : World} {base : Heap} (E : EnvK PySem.Challenge.pw_trueruns_k03_series md K mg) : FnH ⟨K, mg⟩ PySem.Challenge.pw_trueruns_k03_series w base 3 "_law_is_row" 1 ⟨[false], [], f_law_is_row⟩ :=
  fn_make E (x := "_law_is_row") 22 (by rfl) [false] sc_law_is_row (by rfl) ck_law_is_row (fun _ _ _ _ _ _ us hl => match us, hl with | [_], _ => rfl) (.cons ((h_law_is_frac E).mono (by decide)) .nil)
theorem sc_law_number : FnScope N_law_number ["well"] (defScope (top 36)) := ⟨rfl, rfl, rfl, by decide +kernel, rfl, by decide +kernel, by decide +kernel⟩
theorem ck_law_number : chkSs (md.tab N_law_number t_law_number 2) md.exc (defScope (top 36)) true b_law_number (defBody (top 36)) = true := by decide +kernel
theorem h_law_number {K : PySem.W.Frag} {mg : Str → Option Value} {w : World} {base : Heap} (E : EnvK PySem.Challenge.pw_trueruns_k03_series md K mg) : FnH ⟨K, mg⟩ PySem.Challenge.pw_trueruns_k03_series w base 3 "_law_number" 1 ⟨[true], [], f_law_number⟩ :=
  fn_make E (x := "_law_number") 23 (by rfl) [true] sc_law_number (by rfl) ck_law_number (fun _ _ _ _ _ _ us hl => match us, hl with | [_], _ => rfl) (.cons ((h_law_pull E).mono (by decide)) (.cons ((h_law_frac E).mono (by decide)) .nil))
theorem sc_quotient_series : FnScope N_quotient_series ["num", "den", "length"] (defScope (top 18)) := ⟨rfl, rfl, rfl, by decide +kernel, rfl, by decide +kernel, by decide +kernel⟩
theorem ck_quotient_series : chkSs (md.tab N_quotient_series t_quotient_series 3) md.exc (defScope (top 18)) true b_quotient_series (defBody (top 18)) = true := by decide +kernel
theorem h_quotient_series {K : PySem.W.Frag} {mg : Str → Option Value} {w : World} {base : Heap} (E : EnvK PySem.Challenge.pw_trueruns_k03_series md K mg) : FnH ⟨K, mg⟩ PySem.Challenge.pw_trueruns_k03_series w base 4 "quotient_series" 3 ⟨[false, false, false], [], f_quotient_series⟩ :=
  fn_make E (x := "quotient_series") 6 (by rfl) [false, false, false] sc_quotient_series (by rfl) ck_quotient_series (fun _ _ _ _ _ _ us hl => match us, hl with | [_, _, _], _ => rfl) (.cons ((h_number_at E).mono (by decide)) (.cons ((h_minus E).mono (by decide)) (.cons ((h_product_of E).mono (by decide)) (.cons ((h_over E).mono (by decide)) .nil))))
theorem sc_exp_series : FnScope N_exp_series ["t", "length"] (defScope (top 21)) := ⟨rfl, rfl, rfl, by decide +kernel, rfl, by decide +kernel, by decide +kernel⟩
theorem ck_exp_series : chkSs (md.tab N_exp_series t_exp_series 3) md.exc (defScope (top 21)) true b_exp_series (defBody (top 21)) = true := by decide +kernel
theorem h_exp_series {K : PySem.W.Frag} {mg : Str → Option Value} {w : World} {base : Heap} (E : EnvK PySem.Challenge.pw_trueruns_k03_series md K mg) : FnH ⟨K, mg⟩ PySem.Challenge.pw_trueruns_k03_series w base 4 "exp_series" 2 ⟨[false, false], [], f_exp_series⟩ :=
  fn_make E (x := "exp_series") 9 (by rfl) [false, false] sc_exp_series (by rfl) ck_exp_series (fun _ _ _ _ _ _ us hl => match us, hl with | [_, _], _ => rfl) (.cons ((h_powers_series E).mono (by decide)) .nil)
theorem sc_series_log : FnScope N_series_log ["s"] (defScope (top 23)) := ⟨rfl, rfl, rfl, by decide +kernel, rfl, by decide +kernel, by decide +kernel⟩
theorem ck_series_log : chkSs (md.tab N_series_log t_series_log 3) md.exc (defScope (top 23)) true b_series_log (defBody (top 23)) = true := by decide +kernel
theorem h_series_log {K : PySem.W.Frag} {mg : Str → Option Value} {w : World} {base : Heap} (E : EnvK PySem.Challenge.pw_trueruns_k03_series md K mg) : FnH ⟨K, mg⟩ PySem.Challenge.pw_trueruns_k03_series w base 4 "series_log" 1 ⟨[false], [], f_series_log⟩ :=
  fn_make E (x := "series_log") 11 (by rfl) [false] sc_series_log (by rfl) ck_series_log (fun _ _ _ _ _ _ us hl => match us, hl with | [_], _ => rfl) (.cons ((h_plus E).mono (by decide)) (.cons ((h_product_of E).mono (by decide)) (.cons ((h_minus E).mono (by decide)) (.cons ((h_over E).mono (by decide)) .nil))))
theorem sc_law_some : FnScope N_law_some ["well"] (defScope (top 37)) := ⟨rfl, rfl, rfl, by decide +kernel, rfl, by decide +kernel, by decide +kernel⟩
theorem ck_law_some : chkSs (md.tab N_law_some t_law_some 3) md.exc (defScope (top 37)) true b_law_some (defBody (top 37)) = true := by decide +kernel
theorem h_law_some {K : PySem.W.Frag} {mg : Str → Option Value} {w : World} {base : Heap} (E : EnvK PySem.Challenge.pw_trueruns_k03_series md K mg) : FnH ⟨K, mg⟩ PySem.Challenge.pw_trueruns_k03_series w base 4 "_law_some" 1 ⟨[true], [], f_law_some⟩ :=
  fn_make E (x := "_law_some") 24 (by rfl) [true] sc_law_some (by rfl) ck_law_some (fun _ _ _ _ _ _ us hl => match us, hl with | [_], _ => rfl) (.cons ((h_law_number E).mono (by decide)) .nil)
theorem sc_law_entry : FnScope N_law_entry ["well", "long"] (defScope (top 39)) := ⟨rfl, rfl, rfl, by decide +kernel, rfl, by decide +kernel, by decide +kernel⟩
theorem ck_law_entry : chkSs (md.tab N_law_entry t_law_entry 3) md.exc (defScope (top 39)) true b_law_entry (defBody (top 39)) = true := by decide +kernel
theorem h_law_entry {K : PySem.W.Frag} {mg : Str → Option Value} {w : World} {base : Heap} (E : EnvK PySem.Challenge.pw_trueruns_k03_series md K mg) : FnH ⟨K, mg⟩ PySem.Challenge.pw_trueruns_k03_series w base 4 "_law_entry" 2 ⟨[true, false], [], f_law_entry⟩ :=
  fn_make E (x := "_law_entry") 26 (by rfl) [true, false] sc_law_entry (by rfl) ck_law_entry (fun _ _ _ _ _ _ us hl => match us, hl with | [_, _], _ => rfl) (.cons ((h_law_number E).mono (by decide)) (.cons ((h_law_frac E).mono (by decide)) (.cons ((h_law_pull E).mono (by decide)) .nil)))
theorem sc_law_is_told : FnScope N_law_is_told ["asked", "due"] (defScope (top 42)) := ⟨rfl, rfl, rfl, by decide +kernel, rfl, by decide +kernel, by decide +kernel⟩
theorem ck_law_is_told : chkSs (md.tab N_law_is_told t_law_is_told 3) md.exc (defScope (top 42)) true b_law_is_told (defBody (top 42)) = true := by decide +kernel
theorem h_law_is_told {K : PySem.W.Frag} {mg : Str → Option Value} {w : World} {base : Heap} (E : EnvK PySem.Challenge.pw_trueruns_k03_series md K mg) : FnH ⟨K, mg⟩ PySem.Challenge.pw_trueruns_k03_series w base 4 "_law_is_told" 2 ⟨[false, false], [], f_law_is_told⟩ :=
  fn_make E (x := "_law_is_told") 29 (by rfl) [false, false] sc_law_is_told (by rfl) ck_law_is_told (fun _ _ _ _ _ _ us hl => match us, hl with | [_, _], _ => rfl) (.cons ((h_law_is_row E).mono (by decide)) .nil)
theorem sc_law_by : FnScope N_law_by ["one", "two"] (defScope (top 43)) := ⟨rfl, rfl, rfl, by decide +kernel, rfl, by decide +kernel, by decide +kernel⟩
theorem ck_law_by : chkSs (md.tab N_law_by t_law_by 3) md.exc (defScope (top 43)) true b_law_by (defBody (top 43)) = true := by decide +kernel
theorem h_law_by {K : PySem.W.Frag} {mg : Str → Option Value} {w : World} {base : Heap} (E : EnvK PySem.Challenge.pw_trueruns_k03_series md K mg) : FnH ⟨K, mg⟩ PySem.Challenge.pw_trueruns_k03_series w base 4 "_law_by" 2 ⟨[false, false], [], f_law_by⟩ :=
  fn_make E (x := "_law_by") 30 (by rfl) [false, false] sc_law_by (by rfl) ck_law_by (fun _ _ _ _ _ _ us hl => match us, hl with | [_, _], _ => rfl) (.cons ((h_law_add E).mono (by decide)) (.cons ((h_law_mul E).mono (by decide)) .nil))
theorem sc_law_grown : FnScope N_law_grown ["t", "length"] (defScope (top 44)) := ⟨rfl, rfl, rfl, by decide +kernel, rfl, by decide +kernel, by decide +kernel⟩
theorem ck_law_grown : chkSs (md.tab N_law_grown t_law_grown 3) md.exc (defScope (top 44)) true b_law_grown (defBody (top 44)) = true := by decide +kernel
theorem h_law_grown {K : PySem.W.Frag} {mg : Str → Option Value} {w : World} {base : Heap} (E : EnvK PySem.Challenge.pw_trueruns_k03_series md K mg) : FnH ⟨K, mg⟩ PySem.Challenge.pw_trueruns_k03_series w base 4 "_law_grown" 2 ⟨[false, false], [], f_law_grown⟩ :=
  fn_make E (x := "_law_grown") 31 (by rfl) [false, false] sc_law_grown (by rfl) ck_law_grown (fun _ _ _ _ _ _ us hl => match us, hl with | [_, _], _ => rfl) (.cons ((h_law_div E).mono (by decide)) (.cons ((h_law_mul E).mono (by decide)) .nil))
theorem sc_series_of : FnScope N_series_of ["num", "den", "length"] (defScope (top 19)) := ⟨rfl, rfl, rfl, by decide +kernel, rfl, by decide +kernel, by decide +kernel⟩
theorem ck_series_of : chkSs (md.tab N_series_of t_series_of 4) md.exc (defScope (top 19)) true b_series_of (defBody (top 19)) = true := by decide +kernel
theorem h_series_of {K : PySem.W.Frag} {mg : Str → Option Value} {w : World} {base : Heap} (E : EnvK PySem.Challenge.pw_trueruns_k03_series md K mg) : FnH ⟨K, mg⟩ PySem.Challenge.pw_trueruns_k03_series w base 5 "series_of" 3 ⟨[false, false, false], [], f_series_of⟩ :=
  fn_make E (x := "series_of") 7 (by rfl) [false, false, false] sc_series_of (by rfl) ck_series_of (fun _ _ _ _ _ _ us hl => match us, hl with | [_, _, _], _ => rfl) (.cons ((h_quotient_series E).mono (by decide)) .nil)
theorem sc_law_summed : FnScope N_law_summed ["one", "logs"] (defScope (top 45)) := ⟨rfl, rfl, rfl, by decide +kernel, rfl, by decide +kernel, by decide +kernel⟩
theorem ck_law_summed : chkSs (md.tab N_law_summed t_law_summed 4) md.exc (defScope (top 45)) true b_law_summed (defBody (top 45)) = true := by decide +kernel
theorem h_law_summed {K : PySem.W.Frag} {mg : Str → Option Value} {w : World} {base : Heap} (E : EnvK PySem.Challenge.pw_trueruns_k03_series md K mg) : FnH ⟨K, mg⟩ PySem.Challenge.pw_trueruns_k03_series w base 5 "_law_summed" 2 ⟨[false, false], [], f_law_summed⟩ :=
  fn_make E (x := "_law_summed") 32 (by rfl) [false, false] sc_law_summed (by rfl) ck_law_summed (fun _ _ _ _ _ _ us hl => match us, hl with | [_, _], _ => rfl) (.cons ((h_law_by E).mono (by decide)) (.cons ((h_law_frac E).mono (by decide)) (.cons ((h_law_div E).mono (by decide)) (.cons ((h_law_add E).mono (by decide)) (.cons ((h_law_mul E).mono (by decide)) .nil)))))
theorem sc_law_asked : FnScope N_law_asked ["door", "one", "two", "length"] (defScope (top 40)) := ⟨rfl, rfl, rfl, by decide +kernel, rfl, by decide +kernel, by decide +kernel⟩
theorem ck_law_asked : chkSs (md.tab N_law_asked t_law_asked 5) md.exc (defScope (top 40)) true b_law_asked (defBody (top 40)) = true := by decide +kernel
theorem h_law_asked {K : PySem.W.Frag} {mg : Str → Option Value} {w : World} {base : Heap} (E : EnvK PySem.Challenge.pw_trueruns_k03_series md K mg) : FnH ⟨K, mg⟩ PySem.Challenge.pw_trueruns_k03_series w base 6 "_law_asked" 4 ⟨[false, false, false, false], [], f_law_asked⟩ :=
  fn_make E (x := "_law_asked") 27 (by rfl) [false, false, false, false] sc_law_asked (by rfl) ck_law_asked (fun _ _ _ _ _ _ us hl => match us, hl with | [_, _, _, _], _ => rfl) (.cons ((h_series_of E).mono (by decide)) (.cons ((h_exp_series E).mono (by decide)) (.cons ((h_series_log E).mono (by decide)) (.cons ((h_series_exp E).mono (by decide)) .nil))))
theorem sc_law_quotient : FnScope N_law_quotient ["num", "den", "length"] (defScope (top 46)) := ⟨rfl, rfl, rfl, by decide +kernel, rfl, by decide +kernel, by decide +kernel⟩
theorem ck_law_quotient : chkSs (md.tab N_law_quotient t_law_quotient 6) md.exc (defScope (top 46)) true b_law_quotient (defBody (top 46)) = true := by decide +kernel
theorem h_law_quotient {K : PySem.W.Frag} {mg : Str → Option Value} {w : World} {base : Heap} (E : EnvK PySem.Challenge.pw_trueruns_k03_series md K mg) : FnH ⟨K, mg⟩ PySem.Challenge.pw_trueruns_k03_series w base 7 "_law_quotient" 3 ⟨[false, false, false], [], f_law_quotient⟩ :=
  fn_make E (x := "_law_quotient") 33 (by rfl) [false, false, false] sc_law_quotient (by rfl) ck_law_quotient (fun _ _ _ _ _ _ us hl => match us, hl with | [_, _, _], _ => rfl) (.cons ((h_law_asked E).mono (by decide)) (.cons ((h_law_is_row E).mono (by decide)) (.cons ((h_law_add E).mono (by decide)) (.cons ((h_law_mul E).mono (by decide)) .nil))))
theorem sc_law_bounds : FnScope N_law_bounds ["num", "low", "t"] (defScope (top 47)) := ⟨rfl, rfl, rfl, by decide +kernel, rfl, by decide +kernel, by decide +kernel⟩
theorem ck_law_bounds : chkSs (md.tab N_law_bounds t_law_bounds 6) md.exc (defScope (top 47)) true b_law_bounds (defBody (top 47)) = true := by decide +kernel
theorem h_law_bounds {K : PySem.W.Frag} {mg : Str → Option Value} {w : World} {base : Heap} (E : EnvK PySem.Challenge.pw_trueruns_k03_series md K mg) : FnH ⟨K, mg⟩ PySem.Challenge.pw_trueruns_k03_series w base 7 "_law_bounds" 3 ⟨[false, false, false], [], f_law_bounds⟩ :=
  fn_make E (x := "_law_bounds") 34 (by rfl) [false, false, false] sc_law_bounds (by rfl) ck_law_bounds (fun _ _ _ _ _ _ us hl => match us, hl with | [_, _, _], _ => rfl) (.cons ((h_law_is_told E).mono (by decide)) (.cons ((h_law_asked E).mono (by decide)) (.cons ((h_law_refused E).mono (by decide)) (.cons ((h_law_grown E).mono (by decide)) .nil))))
theorem sc_law_logs : FnScope N_law_logs ["s", "r"] (defScope (top 48)) := ⟨rfl, rfl, rfl, by decide +kernel, rfl, by decide +kernel, by decide +kernel⟩
theorem ck_law_logs : chkSs (md.tab N_law_logs t_law_logs 6) md.exc (defScope (top 48)) true b_law_logs (defBody (top 48)) = true := by decide +kernel
theorem h_law_logs {K : PySem.W.Frag} {mg : Str → Option Value} {w : World} {base : Heap} (E : EnvK PySem.Challenge.pw_trueruns_k03_series md K mg) : FnH ⟨K, mg⟩ PySem.Challenge.pw_trueruns_k03_series w base 7 "_law_logs" 2 ⟨[false, false], [], f_law_logs⟩ :=
  fn_make E (x := "_law_logs") 35 (by rfl) [false, false] sc_law_logs (by rfl) ck_law_logs (fun _ _ _ _ _ _ us hl => match us, hl with | [_, _], _ => rfl) (.cons ((h_law_is_told E).mono (by decide)) (.cons ((h_series_times E).mono (by decide)) (.cons ((h_law_by E).mono (by decide)) (.cons ((h_law_summed E).mono (by decide)) (.cons ((h_law_asked E).mono (by decide)) (.cons ((h_series_log E).mono (by decide)) (.cons ((h_law_add E).mono (by decide)) .nil)))))))
theorem sc_law_starts : FnScope N_law_starts ["s", "head"] (defScope (top 49)) := ⟨rfl, rfl, rfl, by decide +kernel, rfl, by decide +kernel, by decide +kernel⟩
theorem ck_law_starts : chkSs (md.tab N_law_starts t_law_starts 6) md.exc (defScope (top 49)) true b_law_starts (defBody (top 49)) = true := by decide +kernel
theorem h_law_starts {K : PySem.W.Frag} {mg : Str → Option Value} {w : World} {base : Heap} (E : EnvK PySem.Challenge.pw_trueruns_k03_series md K mg) : FnH ⟨K, mg⟩ PySem.Challenge.pw_trueruns_k03_series w base 7 "_law_starts" 2 ⟨[false, false], [], f_law_starts⟩ :=
  fn_make E (x := "_law_starts") 36 (by rfl) [false, false] sc_law_starts (by rfl) ck_law_starts (fun _ _ _ _ _ _ us hl => match us, hl with | [_, _], _ => rfl) (.cons ((h_law_refused E).mono (by decide)) (.cons ((h_law_asked E).mono (by decide)) .nil))
theorem sc_law : FnScope N_law ["script"] (defScope (top 50)) := ⟨rfl, rfl, rfl, by decide +kernel, rfl, by decide +kernel, by decide +kernel⟩
theorem ck_law : chkSs (md.tab N_law t_law 7) md.exc (defScope (top 50)) true b_law (defBody (top 50)) = true := by decide +kernel
theorem h_law {K : PySem.W.Frag} {mg : Str → Option Value} {w : World} (E : EnvK PySem.Challenge.pw_trueruns_k03_series md K mg) : ∃ fd : FuncData, mg "law" = some (.ref (He.ga K "law")) ∧ (∀ (s : Shared) (v : Value), BindsTo s fd ⟨[v], []⟩ [("script", v)]) ∧
    ∀ base : Heap, FnOk PySem.Challenge.pw_trueruns_k03_series w K mg base L2.CX0 8 (He.ga K "law") fd ["script"] (fun vs H Q _ => spOf ⟨K, mg⟩ 1 f_law vs H Q (fun _ _ _ => False)) :=
  law_make E 37 (x := "law") (y := "script") (by rfl) sc_law (by rfl) ck_law (fun _ _ _ _ _ _ us hl => match us, hl with | [_], _ => rfl) fun base => (.cons ((h_law_well E).mono (by decide)) (.cons ((h_law_pull E).mono (by decide)) (.cons ((h_law_trim E).mono (by decide)) (.cons ((h_law_entry E).mono (by decide)) (.cons ((h_law_some E).mono (by decide)) (.cons ((h_law_number E).mono (by decide)) (.cons ((h_law_quotient E).mono (by decide)) (.cons ((h_law_bounds E).mono (by decide)) (.cons ((h_law_asked E).mono (by decide)) (.cons ((h_law_is_told E).mono (by decide)) (.cons ((h_law_grown E).mono (by decide)) (.cons ((h_series_times E).mono (by decide)) (.cons ((h_law_add E).mono (by decide)) (.cons ((h_law_logs E).mono (by decide)) (.cons ((h_law_starts E).mono (by decide)) .nil)))))))))))))))
end K03

/-! K03Run -/
set_option Elab.async false
set_option linter.all false
set_option maxRecDepth 100000
set_option maxHeartbeats 0
/-! law_k03_series: the head run. -/
namespace K03
open PySem PySem.Spec PyProof.Rows PD L2

abbrev R : PySem.W.OpenRow := PySem.W.OpenLaw.row PySem.Challenge.rw_trueruns_k03_series
abbrev hk : PySem.W.Hook := hookP 4 (PySem.Challenge.rw_trueruns_k03_series).prog md
def ob (s : PySem.W.SharedT) : AlP := obsP 4 (PySem.Challenge.rw_trueruns_k03_series).prog md (HandSHeadRun.getT s)
theorem ob_eq (s : PySem.W.SharedT) : ob s = hk.obs s.abs := obsP_eq (HandSHeadRun.getT_eq s)
def names : List PySem.Str := (["lowest", "plus", "minus", "product_of", "over", "number_at", "quotient_series", "series_of", "powers_series", "exp_series", "series_times", "series_log", "series_exp", "_law_well", "_law_pull", "_law_gcd", "_law_frac", "_law_add", "_law_mul", "_law_div", "_law_whole", "_law_is_frac", "_law_is_row", "_law_number", "_law_some", "_law_trim", "_law_entry", "_law_asked", "_law_refused", "_law_is_told"] : List PySem.Str) ++ (["_law_by", "_law_grown", "_law_summed", "_law_quotient", "_law_bounds", "_law_logs", "_law_starts", "RunsError", "BadNumber", "BadPoly", "TooLarge", "ZERO", "ONE", "MOST_LENGTH", "gcd"] : List PySem.Str)
theorem run (w : World) : HandSHeadRun.RunEqI R (PySem.W.view R.prog [50]) hk ob 6000 names w := by
  unfold HandSHeadRun.RunEqI
  kernel_rfl
end K03

/-! K03End -/
set_option Elab.async false
set_option linter.all false
set_option maxRecDepth 100000
set_option maxHeartbeats 0
open PySem PySem.W PySem.Calls PyProof.Rows
theorem PySem.Challenge.cw_trueruns_k03_series_holds : PySem.Challenge.rw_trueruns_k03_series.Holds := by
  w_on; o_law
  refine HandSHeadRun.head_imp (r := OpenLaw.row PySem.Challenge.rw_trueruns_k03_series) (q := view (OpenLaw.row PySem.Challenge.rw_trueruns_k03_series).prog [50]) (H := K03.hk) (ob := K03.ob) (M := 6000) (loose := K03.names) (d := HandSHeadRun.topDef (OpenLaw.row PySem.Challenge.rw_trueruns_k03_series).prog 50) (kwd := []) K03.ob_eq
    K03.run (by kernel_rfl) (by kernel_rfl) (by kernel_rfl) (by rfl) (by first | assumption | decide +kernel) (by decide +kernel) ⟨rfl, rfl, rfl, rfl, rfl, by decide +kernel⟩ ?hw ?hc
  case hw => w_witness2
  case hc =>
    refine PD.walk_ofP (l := PySem.Challenge.rw_trueruns_k03_series) (k := 8) (y := "script") (f := K03.f_law) rfl (by kernel_rfl) ⟨rfl, by decide, by decide⟩ ?hs ?F K03.plain
    case hs =>
      intro d hd
      simp only [K03.md, List.mem_cons, List.not_mem_nil, or_false] at hd
      rcases hd with rfl
      · exact K03.supOk_TooLarge
    case F =>
      intro w mg K E
      exact K03.h_law E
