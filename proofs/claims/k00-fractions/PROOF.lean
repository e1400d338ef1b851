import PyProof.Rows.All
import Wide.All
import OpenK.AllK
import Wide.FinOn
import KE.KStateDown
import HandS.ForMost
import HandS.ForExc
import HandS.Defaults
import HandS.Wide
import HandS.Gcd
import HandS.ExcField
import KE.KExcSuper
import KE.KxStill
import HandS.IsInst
import HandS.Text
import HandS.TupAny
import HandS.Style
import HandS.WideBits
import HandS.Iter
import HandS.Comp
import HandS.CallSlots
import KE.KExcIs
import HandS.ExcIs
import HandS.TryMany
import HandS.HeadHook2
import HandS.HeadEnd
import HandS.Words
import HandS.EndBits
import Lean
import HandS.Head0
import HandS.Head1
import HandS.Head2
import HandS.Head3
import PySem.Challenge.RW_trueruns_k00_fractions_in_one_form

/-! PD1 -/
set_option Elab.async false
set_option linter.all false
set_option maxRecDepth 100000
set_option maxHeartbeats 4000000
/-! PD: plain data, and how they stand in the heap. -/
namespace PD
open PySem PySem.Spec PyProof.Rows L2

/-- plain data -/
inductive D where
  | non | bl (b : Bool) | int (i : Int) | str (s : Str)
  | tup (ds : List D) | lst (ds : List D)
  | dct (ks : List Key) (vs : List D)
  | obj (c : Str) (fs : List Str) (vs : List D)

/-- an exception: its class, its fields -/
structure XD where
  cls : Str
  fs : List (Str × D)
/-- an argument, or what a slot holds: plain data that stands still, or the list (dict) number n of the store -/
inductive Val where
  | fz (d : D) | loc (n : Nat) | exn (x : XD)
/-- what a def changes in place -/
inductive Cont where
  | lst (ds : List D) | dct (ks : List Key) (vs : List D) | fz (d : D)
abbrev Store := List Cont
abbrev Slots := List (Option Val)

def Cont.d : Cont → D
  | .lst ds => .lst ds
  | .dct ks vs => .dct ks vs
  | .fz d => d
def Cont.live : Cont → Bool
  | .fz _ => false
  | _ => true

/-! ### the heap of what stands still -/
def isD : HO → Bool
  | .dK _ => true
  | _ => false
/-- F stands in H (dicts may be locked there) -/
def Le (F H : Hp) : Prop := ∀ a o, F a = some o → H a = some o ∨ (isD o = true ∧ ∃ ob, H a = some (.frz ob o))
theorem Le.refl (F : Hp) : Le F F := fun _ _ h => .inl h
theorem Le.same {F G H : Hp} (h : Same F G) (l : Le G H) : Le F H := fun a o e => l a o (h a o e)
theorem Le.trans {F G H : Hp} (h : Le F G) (l : Le G H) : Le F H := fun a o e => by
  rcases h a o e with q | ⟨d, ob, q⟩
  · exact l a o q
  · rcases l a _ q with r | ⟨d2, _⟩
    · exact .inr ⟨d, ob, r⟩
    · cases d2
theorem Le.up {F H H' : Hp} (l : Le F H) (h : Same H H') : Le F H' := fun a o e => by
  rcases l a o e with q | ⟨d, ob, q⟩
  · exact .inl (h a o q)
  · exact .inr ⟨d, ob, h a _ q⟩
theorem Le.rdL {F H : Hp} (l : Le F H) {a : Addr} {xs : List V} (r : Rd F a (.lst xs)) : Rd H a (.lst xs) := by
  rcases r with r | ⟨o, r⟩
  · rcases l a _ r with q | ⟨d, _⟩
    · exact .inl q
    · cases d
  · rcases l a _ r with q | ⟨d, _⟩
    · exact .inr ⟨o, q⟩
    · cases d
theorem Le.rdT {F H : Hp} (l : Le F H) {a : Addr} {xs : List V} (r : Rd F a (.tup xs)) : Rd H a (.tup xs) := by
  rcases r with r | ⟨o, r⟩
  · rcases l a _ r with q | ⟨d, _⟩
    · exact .inl q
    · cases d
  · rcases l a _ r with q | ⟨d, _⟩
    · exact .inr ⟨o, q⟩
    · cases d
theorem Le.sqL {K : PySem.W.Frag} {F H : Hp} (l : Le F H) {a : Addr} {xs : List V} (r : SqL K F a xs) : SqL K H a xs := by
  rcases r with r | r
  · exact .inl (l.rdL r)
  · exact .inr r
theorem Le.sqT {K : PySem.W.Frag} {F H : Hp} (l : Le F H) {a : Addr} {xs : List V} (r : SqT K F a xs) : SqT K H a xs := by
  rcases r with r | r
  · exact .inl (l.rdT r)
  · exact .inr r
theorem Same.le {F H : Hp} (h : Same F H) : Le F H := fun a o e => .inl (h a o e)
theorem Le.free {F H : Hp} (l : Le F H) {p : Addr} (h : H p = none) : F p = none := by
  cases q : F p with
  | none => rfl
  | some o =>
    rcases l p o q with r | ⟨_, ob, r⟩
    · rw [h] at r; cases r
    · rw [h] at r; cases r
theorem Same.upd {H : Hp} {p : Addr} {o : HO} (h : H p = none) : Same H (upd H p o) := fun b u e => by
  rw [upd_ne (ne_of_none e h)]; exact e

/-! ### what stands for a datum -/
structure RC where
  K : PySem.W.Frag
  mg : Str → Option Value

mutual
inductive Rep (R : RC) (F : Hp) : V → D → Prop
  | non : Rep R F .non .non
  | bl (b : Bool) : Rep R F (.bl b) (.bl b)
  | int (i : Int) : Rep R F (.int i) (.int i)
  | str (x : Str) : Rep R F (.str x) (.str x)
  | tup {a : Addr} {xs : List V} {ds : List D} : SqT R.K F a xs → RepL R F xs ds → Rep R F (.ref a) (.tup ds)
  | lst {a : Addr} {xs : List V} {ds : List D} : SqL R.K F a xs → RepL R F xs ds → Rep R F (.ref a) (.lst ds)
  | dct {a : Addr} {kvs : List (Key × V)} {ks : List Key} {xs : List V} {ds : List D} : F a = some (.dK kvs) → kvs.map (·.1) = ks → kvs.map (·.2) = xs → RepL R F xs ds → Rep R F (.ref a) (.dct ks ds)
  | obj {a C dx : Addr} {c : Str} {fvs : List (Str × V)} {fs : List Str} {xs : List V} {ds : List D} : R.mg c = some (.ref C) → F a = some (.ins C dx fvs) → fvs.map (·.1) = fs → fvs.map (·.2) = xs → RepL R F xs ds → Rep R F (.ref a) (.obj c fs ds)
inductive RepL (R : RC) (F : Hp) : List V → List D → Prop
  | nil : RepL R F [] []
  | cons {v : V} {vs : List V} {d : D} {ds : List D} : Rep R F v d → RepL R F vs ds → RepL R F (v :: vs) (d :: ds)
end

section
variable {R : RC} {F F' H : Hp}
theorem SqL.mono {K : PySem.W.Frag} {a : Addr} {xs : List V} (h : Same F F') (r : SqL K F a xs) : SqL K F' a xs := h.seq r
theorem SqT.mono {K : PySem.W.Frag} {a : Addr} {xs : List V} (h : Same F F') (r : SqT K F a xs) : SqT K F' a xs := by
  rcases r with (r | ⟨o, r⟩) | r
  · exact .inl (.inl (h _ _ r))
  · exact .inl (.inr ⟨o, h _ _ r⟩)
  · exact .inr r
mutual
theorem Rep.mono (h : Same F F') : ∀ {d : D} {v : V}, Rep R F v d → Rep R F' v d
  | .non, _, .non => .non
  | .bl _, _, .bl b => .bl b
  | .int _, _, .int i => .int i
  | .str _, _, .str x => .str x
  | .tup _, _, .tup s l => .tup (SqT.mono h s) (RepL.mono h l)
  | .lst _, _, .lst s l => .lst (SqL.mono h s) (RepL.mono h l)
  | .dct _ _, _, .dct e k x l => .dct (h _ _ e) k x (RepL.mono h l)
  | .obj _ _ _, _, .obj m e k x l => .obj m (h _ _ e) k x (RepL.mono h l)
theorem RepL.mono (h : Same F F') : ∀ {ds : List D} {vs : List V}, RepL R F vs ds → RepL R F' vs ds
  | [], _, .nil => .nil
  | _ :: _, _, .cons r l => .cons (Rep.mono h r) (RepL.mono h l)
end
theorem RepL.length : ∀ {vs : List V} {ds : List D}, RepL R F vs ds → vs.length = ds.length
  | _, _, .nil => rfl
  | _, _, .cons _ l => congrArg Nat.succ (RepL.length l)
theorem RepL.append : ∀ {vs ws : List V} {ds es : List D}, RepL R F vs ds → RepL R F ws es → RepL R F (vs ++ ws) (ds ++ es)
  | _, _, _, _, .nil, s => s
  | _, _, _, _, .cons r l, s => .cons r (RepL.append l s)
theorem RepL.get : ∀ {vs : List V} {ds : List D} {i : Nat} {d : D}, RepL R F vs ds → ds[i]? = some d → ∃ v, vs[i]? = some v ∧ Rep R F v d
  | _, _, i, _, .nil, e => by simp at e
  | _, _, 0, _, .cons r _, e => by simp at e; subst e; exact ⟨_, rfl, r⟩
  | _, _, i + 1, d, .cons _ l, e => by
    obtain ⟨v, h1, h2⟩ := RepL.get (i := i) (d := d) l (by simpa using e)
    exact ⟨v, by simpa using h1, h2⟩
theorem RepL.get' : ∀ {vs : List V} {ds : List D} {i : Nat} {v : V}, RepL R F vs ds → vs[i]? = some v → ∃ d, ds[i]? = some d ∧ Rep R F v d
  | _, _, i, _, .nil, e => by simp at e
  | _, _, 0, _, .cons r _, e => by simp at e; subst e; exact ⟨_, rfl, r⟩
  | _, _, i + 1, d, .cons _ l, e => by
    obtain ⟨v, h1, h2⟩ := RepL.get' (i := i) (v := d) l (by simpa using e)
    exact ⟨v, by simpa using h1, h2⟩
theorem RepL.set : ∀ {vs : List V} {ds : List D} {v : V} {d : D} (i : Nat), RepL R F vs ds → Rep R F v d → RepL R F (vs.set i v) (ds.set i d)
  | _, _, _, _, _, .nil, _ => .nil
  | _, _, _, _, 0, .cons _ l, r => .cons r l
  | _, _, _, _, i + 1, .cons q l, r => .cons q (RepL.set i l r)
theorem RepL.take : ∀ {vs : List V} {ds : List D} (n : Nat), RepL R F vs ds → RepL R F (vs.take n) (ds.take n)
  | _, _, 0, _ => .nil
  | _, _, _ + 1, .nil => .nil
  | _, _, n + 1, .cons r t => .cons r (RepL.take n t)
theorem RepL.drop : ∀ {vs : List V} {ds : List D} (n : Nat), RepL R F vs ds → RepL R F (vs.drop n) (ds.drop n)
  | _, _, 0, r => r
  | _, _, _ + 1, .nil => .nil
  | _, _, n + 1, .cons _ t => RepL.drop n t
theorem RepL.reverse : ∀ {vs : List V} {ds : List D}, RepL R F vs ds → RepL R F vs.reverse ds.reverse
  | _, _, .nil => .nil
  | _, _, .cons r l => by
    rw [List.reverse_cons, List.reverse_cons]
    exact (RepL.reverse l).append (.cons r .nil)
theorem RepL.replicate {vs : List V} {ds : List D} (r : RepL R F vs ds) : ∀ n : Nat, RepL R F (List.replicate n vs).flatten (List.replicate n ds).flatten
  | 0 => .nil
  | n + 1 => by
    rw [List.replicate_succ, List.replicate_succ, List.flatten_cons, List.flatten_cons]
    exact r.append (RepL.replicate r n)
end

/-! ### the store -/
/-- what stands at a for a content -/
def ContR (R : RC) (F H : Hp) (a : Addr) : Cont → Prop
  | .lst ds => F a = none ∧ ∃ xs, H a = some (.lst xs) ∧ RepL R F xs ds
  | .dct ks ds => F a = none ∧ ∃ kvs : List (Key × V), H a = some (.dK kvs) ∧ kvs.map (·.1) = ks ∧ RepL R F (kvs.map (·.2)) ds
  | .fz d => Rep R F (.ref a) d
/-- an exception: its class, its own dict -/
def XR (R : RC) (F : Hp) (x : XD) (cls : Value) (dd : Option Addr) : Prop :=
  (∃ C, R.mg x.cls = some (.ref C) ∧ cls = .ref C) ∧ ((x.fs = [] ∧ dd = none) ∨
    ∃ d fvs, dd = some d ∧ F d = some (.xd fvs) ∧ fvs.map (·.1) = x.fs.map (·.1) ∧ RepL R F (fvs.map (·.2)) (x.fs.map (·.2)))
theorem XR.mono {R : RC} {F F' : Hp} {x : XD} {cls : Value} {dd : Option Addr} (h : Same F F') (r : XR R F x cls dd) : XR R F' x cls dd := by
  obtain ⟨r1, r2 | ⟨d, fvs, e, f, k, l⟩⟩ := r
  · exact ⟨r1, .inl r2⟩
  · exact ⟨r1, .inr ⟨d, fvs, e, h _ _ f, k, l.mono h⟩⟩
/-- the exception that a suite holds: its address, class, dict -/
abbrev ExH := Option (Addr × Value × Option Addr)
def ValR (R : RC) (X : ExH) (F : Hp) (A : List Addr) (x : V) : Val → Prop
  | .fz d => Rep R F x d
  | .loc n => ∃ a, A[n]? = some a ∧ x = .ref a
  | .exn e => ∃ a cls dd, X = some (a, cls, dd) ∧ x = .ref a ∧ XR R F e cls dd
theorem ValR.mono {R : RC} {X : ExH} {F F' : Hp} {A A' : List Addr} {x : V} {v : Val} (h : Same F F') (hA : A <+: A') (r : ValR R X F A x v) : ValR R X F' A' x v := by
  cases v with
  | fz d => exact Rep.mono h r
  | exn e =>
    obtain ⟨a, cls, dd, e1, e2, r⟩ := r
    exact ⟨a, cls, dd, e1, e2, r.mono h⟩
  | loc n =>
    obtain ⟨a, e, q⟩ := r
    obtain ⟨t, rfl⟩ := hA
    refine ⟨a, ?_, q⟩
    have hl : n < A.length := by
      rcases Nat.lt_or_ge n A.length with h | h
      · exact h
      · rw [List.getElem?_eq_none h] at e; cases e
    rw [List.getElem?_append_left hl]; exact e

/-- the fixed part of a def's run: the heap and what stood still at the entry, the addresses of the lists that it may change for its caller, the locked dicts -/
structure Bs where
  R : RC
  F0 : Hp
  H0 : Hp
  io : List Addr
  lk : List Addr
  ex : ExH
/-- the changing part -/
structure Gh where
  F : Hp
  A : List Addr

def SlotR (R : RC) (X : ExH) (g : Gh) : Option V → Option Val → Prop
  | o, some v => ∃ x, o = some x ∧ ValR R X g.F g.A x v
  | _, none => True

structure ER (B : Bs) (g : Gh) (H : Hp) (σ : L2.St) (ρ : Slots) (st : Store) : Prop where
  same0 : Same B.F0 g.F
  le : Le g.F H
  fresh : ∀ b, g.F b ≠ none → B.F0 b ≠ none ∨ B.H0 b = none
  keep : ∀ b o, B.H0 b = some o → b ∉ B.io → b ∉ B.lk → H b = some o
  lkd : ∀ b ∈ B.lk, g.F b ≠ none ∧ ∃ ob u, H b = some (.frz ob u) ∧ ∀ o, B.H0 b = some o → b ∉ B.io → o = u
  len : g.A.length = st.length
  nodup : g.A.Nodup
  io : B.io <+: g.A
  iolive : ∀ (i : Nat) (c : Cont), i < B.io.length → st[i]? = some c → c.live = true
  own : ∀ (i : Nat) (a : Addr), B.io.length ≤ i → g.A[i]? = some a → B.H0 a = none
  there : ∀ (i : Nat) (a : Addr), g.A[i]? = some a → H a ≠ none
  conts : ∀ (i : Nat) (a : Addr) (c : Cont), g.A[i]? = some a → st[i]? = some c → ContR B.R g.F H a c
  slen : σ.length = ρ.length
  slots : ∀ (i : Nat) (o : Option V) (v : Option Val), σ[i]? = some o → ρ[i]? = some v → SlotR B.R B.ex g o v

/-- the ghost grows -/
structure Gh.le (g g' : Gh) : Prop where
  F : Same g.F g'.F
  A : g.A <+: g'.A
theorem Gh.le.refl (g : Gh) : g.le g := ⟨Same.refl _, List.prefix_refl _⟩
theorem Gh.le.trans {a b c : Gh} (h : a.le b) (k : b.le c) : a.le c := ⟨h.F.trans k.F, h.A.trans k.A⟩
theorem ValR.up {R : RC} {X : ExH} {g g' : Gh} {x : V} {v : Val} (l : g.le g') (r : ValR R X g.F g.A x v) : ValR R X g'.F g'.A x v := r.mono l.F l.A
theorem SlotR.up {R : RC} {X : ExH} {g g' : Gh} {o : Option V} {v : Option Val} (l : g.le g') (r : SlotR R X g o v) : SlotR R X g' o v := by
  cases v with
  | none => trivial
  | some v =>
    obtain ⟨x, e, q⟩ := r
    exact ⟨x, e, q.up l⟩
theorem ContR.F {R : RC} {F F' H H' : Hp} {a : Addr} {c : Cont} (h : Same F F') (r : ContR R F H a c) (ha : c.live = true → F' a = none) (hH : c.live = true → H' a = H a) : ContR R F' H' a c := by
  cases c with
  | lst ds =>
    obtain ⟨_, xs, e, l⟩ := r
    exact ⟨ha rfl, xs, (hH rfl).trans e, l.mono h⟩
  | dct ks ds =>
    obtain ⟨_, kvs, e, k, l⟩ := r
    exact ⟨ha rfl, kvs, (hH rfl).trans e, k, l.mono h⟩
  | fz d => exact Rep.mono h r
theorem ContR.there {R : RC} {F H : Hp} {a : Addr} {c : Cont} (r : ContR R F H a c) (hc : c.live = true) : H a ≠ none := by
  cases c with
  | lst ds => obtain ⟨_, xs, e, _⟩ := r; rw [e]; intro z; cases z
  | dct ks ds => obtain ⟨_, xs, e, _⟩ := r; rw [e]; intro z; cases z
  | fz d => cases hc
theorem ContR.out {R : RC} {F H : Hp} {a : Addr} {c : Cont} (r : ContR R F H a c) (hc : c.live = true) : F a = none := by
  cases c with
  | lst ds => exact r.1
  | dct ks ds => exact r.1
  | fz d => cases hc
end PD

/-! PDS -/
set_option Elab.async false
set_option linter.all false
set_option maxRecDepth 100000
set_option maxHeartbeats 4000000
/-! PD: an own exception whose __init__ says super().__init__('..') and self.f = f. -/
namespace PySem
namespace SupX
open PySem.W PySem.Calls PyProof.Rows PySem.HandSPX
def iPar (pn : Str) (a1 a2 : Option Expr) (q1 q2 : Pos) : Arguments := { posonlyargs := [], args := [{ arg := "self", annotation := a1, pos := q1 }, { arg := pn, annotation := a2, pos := q2 }], vararg := none, kwonlyargs := [], kw_defaults := [], kwarg := none, defaults := [] }
def iBody (f pn m : Str) (kk : Nat) (p0 p1 p2 p3 p4 p5 p6 p7 p8 p9 : Pos) : List Stmt :=
  [.Expr (.Call (.Attribute (.Call (.Name "super" p0) [] [] p1) "__init__" p2) [.Constant (.str m) kk p3] [] p4) p5, .Assign [.Attribute (.Name "self" p6) f p7] (.Name pn p8) p9]
structure ScopeOk (sc : Scope) (pn : Str) : Prop where
  kind : sc.kind = .function
  gen : sc.isGenerator = false
  co : sc.isCoroutine = false
  slf : sc.names.lookup ("self" : Str) = some .local
  par : sc.names.lookup pn = some .local
  sup : sc.names.lookup ("super" : Str) = some .globalImplicit
  cls : sc.names.lookup ("__class__" : Str) = some .free
  nocell : ∀ x ∈ sc.names, x.2 ≠ .cell
structure SupTxt (prog : Program) (K : Frag) (mg : Str → Option Value) (C fI : Addr) (c f : Str) : Prop where
  gC : mg c = some (.ref C)
  cls : ∃ nm q N bs bm sn sub ab col dd k0 k1 k2 k3 k5, K.lookup C = some (excClassObj nm q C N bs bm true sn sub ab col dd k0 k1 k2 k3 k5 "ValueError.__new__") ∧ refsVE bm = true
  exi : excInitIn K C [.type "ValueError", .type "Exception", .type "BaseException", .type "object"] "ValueError.__new__" = true
  sa : findIn K (.ref C) "__setattr__" = some (some (.builtin "object.__setattr__"))
  noN : findIn K (.ref C) f = some none
  iC : findIn K (.ref C) "__init__" = some (some (.ref fI))
  tC : typeIn K (.ref fI) = some (.type "function")
  kC : keepIn K (.ref C) = true
  exC : subIn K (.ref C) (.type "BaseException") = some true
  veC : subIn K (.ref C) (.type "ValueError") = some true
  tyC : typeIn K (.ref C) = some (.type "type")
  mroC : mroIn K C (.ref C) = some true
  st : nsIn K cStatics "thirdparty.any" = some none
  sup : ks_superIn K C C "__init__" = some (some (.builtin "ValueError.__init__"))
  top : (prog.main.scope.names.lookup ("super" : Str)).isSome = false
  fn : ∃ (oc : Value) (od : Option Addr) (qual : Str) (doc pm : Value) (an : Option Addr) (cda cc : Addr) (ct : Value) (osl : Array (Option Value)) (pn m : Str) (kk : Nat) (a1 a2 : Option Expr) (q1 q2 p0 p1 p2 p3 p4 p5 p6 p7 p8 p9 : Pos) (sc : Scope)
      (ccl : Value) (cdd : Option Addr) (vs : Array Value) (ccs : Array (Option Value)) (file : Str) (tf : Tok) (cl : Value) (cld : Option Addr) (csl : Array (Option Value)),
    K.lookup fI = some ⟨oc, od, .func (ksFn "__init__" qual (iPar pn a1 a2 q1 q2) (iBody f pn m kk p0 p1 p2 p3 p4 p5 p6 p7 p8 p9) sc .none .none doc pm an (.ref cda) ct cc), osl⟩ ∧ codeIn K (.ref cda) qual = true ∧ ScopeOk sc pn ∧
    K.lookup cda = some ⟨ccl, cdd, .fields vs, ccs⟩ ∧ vs[2]? = some (.str file tf) ∧ ((prog.main.file : Str) == file) = true ∧ K.lookup cc = some ⟨cl, cld, .cell (some (.ref C)), csl⟩ ∧ (pn == ("self" : Str)) = false ∧ (pn == ("__debug__" : Str)) = false ∧ (p2.endLine == p4.line) = true
theorem one_size (v : Value) : [v].length ≤ sizeLine := by
  rw [sizeLine_eq]
  exact (by decide : 1 ≤ 16777216)
/-- what __init__ leaves of a fresh exception at x -/
structure InitEnd (h₀ h' : Heap) (x C dx t1 : Addr) (f : Str) (v : Value) : Prop where
  keep : ∀ b o, h₀.get? b = some o → h'.get? b = some o
  obj : h'.get? x = some { cls := .ref C, dict := some dx, data := .fields #[.ref t1, .none, .none, .none, .bool false, .none] }
  dbig : h₀.objs.size ≤ dx
  dne : dx ≠ x
  ns : h'.Ns1 dx (fun y => if y = f then some v else none)
/-- a made one -/
structure OwnMade (h h' : Heap) (e C d : Addr) (f : Str) (v : Value) : Prop where
  keep : ∀ b o, h.get? b = some o → h'.get? b = some o
  new : h.objs.size ≤ e
  obj : ∃ oe vs, h'.get? e = some oe ∧ oe.cls = .ref C ∧ oe.dict = some d ∧ oe.data = .fields vs ∧ vs[1]? = some .none
  dbig : h.objs.size ≤ d
  dne : d ≠ e
  ns : h'.Ns1 d (fun y => if y = f then some v else none)
section
variable {prog : Program} {w : World} {A : Around} {E : Value → Shared → Prop} {R : Result → Shared → Prop} {s : Shared} {K : Frag} {mg mb : Str → Option Value} {C fI : Addr} {c f : Str}
theorem bind_par {s : Shared} {pn name qual : Str} {a1 a2 : Option Expr} {q1 q2 : Pos} {body : List Stmt} {sc : Scope} {doc pm cdv ct : Value} {an : Option Addr} {cc : Addr} {x v : Value} (h : (pn == ("self" : Str)) = false) :
    BindsTo s (ksFn name qual (iPar pn a1 a2 q1 q2) body sc .none .none doc pm an cdv ct cc) ⟨[x, v], []⟩ [("self", x), (pn, v)] := by
  refine BindsTo.of_eq ?_
  have e1 : List.lookup pn [(("self" : Str), x), (pn, v)] = some v := by simp [List.lookup, h]
  have e2 : List.lookup ("self" : Str) [(("self" : Str), x), (pn, v)] = some x := by simp [List.lookup]
  unfold bindArgs
  simp [iPar, seqItems?, e1, e2]
  rfl

theorem sup_node {body : List Stmt} {q : Str} {scope : Scope} {p0 p1 : Pos} {attr : Str} {whole : Sem Value} {fd : FuncData} {ar : Arg} {vs : Array Value} {file : Str} {tf : Tok} {oc ccl cl : Value} {od cdd cld : Option Addr} {osl ccs csl : Array (Option Value)} {cdD : ClassData} {Q : Value → Shared → Prop}
    {h₀ : Heap} {L x D g0 cda cc : Addr} {m : Str → Option Value} {news : List (Addr × Obj)} {ox : Obj} {odx : Option Obj}
    (F : Fr h₀ L s.heap m) (X₀ : K.In h₀) (N : News h₀ L s.heap news) (G : h₀.Ns mainGlobals mg) (G2 : h₀.Ns builtinsNs mb) (hmb : mb ("super" : Str) = bootBuiltins "super")
    (hf : K.lookup g0 = some ⟨oc, od, .func fd, osl⟩) (hp : (fd.params.posonlyargs ++ fd.params.args).head? = some ar) (hv : m ar.arg = some (.ref x)) (I : InstAt s.heap x ox C odx)
    (hcode : K.lookup cda = some ⟨ccl, cdd, .fields vs, ccs⟩) (hvs : vs[2]? = some (.str file tf)) (hfile : ((prog.main.file : Str) == file) = true)
    (hcell : K.lookup cc = some ⟨cl, cld, .cell (some (.ref D)), csl⟩) (hD : clsIn K D = some cdD) (hsub : mroIn K C (.ref D) = some true) (hsuper : mg ("super" : Str) = none)
    (hat : (attr == ("__class__" : Str)) = false) (hks : scope.names.lookup ("super" : Str) = some .globalImplicit) (hkc : scope.names.lookup ("__class__" : Str) = some .free) (hka : scope.names.lookup ar.arg = some .local) (hk : scope.kind = .function)
    (htop : (prog.main.scope.names.lookup ("super" : Str)).isSome = false) (hboot : bootBuiltins "super" = some (.type "super"))
    (h : ∀ so h', Fr h₀ L h' m → News h₀ L h' ((so, ks_superObj D x C) :: news) → Q (.ref so) { s with heap := h' }) :
    _root_.PySem.wpAt (model prog w) A (.func body (ksEnv q scope L g0 (.ref cda) cc)) (attributeBase (.Call (.Name "super" p0) [] [] p1) attr (ksEnv q scope L g0 (.ref cda) cc) whole) Q E s := by
  have X : K.In s.heap := X₀.keeps F.keep
  obtain ⟨hh, gg, dd, tt, os⟩ := s
  obtain ⟨oD, hD1, hD2⟩ : ∃ oD, hh.get? D = some oD ∧ oD.data = .cls cdD := by
    unfold clsIn at hD
    split at hD
    · cases hD
      exact ⟨_, X _ _ (by assumption), rfl⟩
    · cases hD
  refine ks_wpAt_super_base (env := ksEnv q scope L g0 (.ref cda) cc) hks hkc hat rfl (X _ _ hf) rfl hp rfl (X _ _ hcode) rfl hvs hfile htop ?_
  refine ks_loadName_global hk hks (loadGlobal_builtin (env := ksEnv q scope L g0 (.ref cda) cc) (G.keeps F.keep) hsuper (G2.keeps F.keep) (hmb.trans hboot) ⟨rfl, ?_⟩)
  refine wpAny_loadName_free hk hkc rfl ⟨_, X _ _ hcell, rfl⟩ (wpAny_loadName_local hk hka F.ns hv (ks_wpAny_isType_cls hD1 hD2 ⟨rfl, ?_⟩))
  refine ks_wpAny_call_super hD1 hD2 I.at_ I.cls (fun c e => ?_) (looks_mroIn X hsub) (fun h' e k => ?_)
  · have z := I.no
    unfold notCls at z
    rw [e] at z
    cases z
  · obtain ⟨F', N', _⟩ := ks_newsPush (s := ⟨hh, gg, dd, tt, os⟩) F N rfl e k
    exact h _ _ F' N'
theorem call_line {o : Expr} {name : Str} {ap pos : Pos} {args : List Expr} {env : Env} (h : (ap.endLine == pos.line) = true) (hfew : methodCallForm (args.length + ([] : List Keyword).length) (backTo pos (starEach args env)) (backToKw pos (keywordEach [] env)) = true) :
    eval (.Call (.Attribute o name ap) args [] pos) env = (do
      let ov ← attributeBase o name env (eval o env)
      standAt ap.atName
      let (g, first) ← holding [ov] (getMethod ov name (do return (← importBound o env).getD true))
      callWith pos g first (backTo pos (starEach args env)) []) := by
  have hpos : methodCallPos true o env ap pos = pure pos := by unfold methodCallPos; simp [h]
  rw [arm_eval_Call]
  unfold methodCall
  rw [hfew, hpos]
  rfl
theorem sup_init (T : SupTxt prog K mg C fI c f) {h₀ : Heap} {x t0 : Addr} {v : Value} (X₀ : K.In h₀) (G : h₀.Ns mainGlobals mg) (G2 : h₀.Ns builtinsNs mb) (hmb : mb ("super" : Str) = bootBuiltins "super") (hsuper : mg ("super" : Str) = none)
    (k0 : ∀ b o, h₀.get? b = some o → s.heap.get? b = some o) (hL : h₀.objs.size ≤ s.heap.objs.size) (hx0 : h₀.get? x = none) (hlim : s.heap.NoLimit) (hx : s.heap.get? x = some (excO C t0)) (hroom : A.depth < recursionLimit)
    (hq : ∀ h' tk dx t1, InitEnd h₀ h' x C dx t1 f v → R (.ok (.ret .none)) { s with heap := h', toks := tk }) :
    codeAny (model prog w) A (.call (.ref fI) ⟨[.ref x, v], []⟩) R s := by
  obtain ⟨oc, od, qual, doc, pm, an, cda, cc, ct, osl, pn, mm, kk, a1, a2, q1, q2, p0, p1, p2, p3, p4, p5, p6, p7, p8, p9, sc, ccl, cdd, vs, ccs, file, tf, cl, cld, csl, ho, hcd, SC, hcode, hvs, hfile, hcell, hpn, hpd, hline⟩ := T.fn
  obtain ⟨nm, q, N0, bs, bm, sn, sub, ab, col, dd, k0', k1, k2, k3, k5, hC, hbm⟩ := T.cls
  have hcl : clsIn K C = some { name := nm, bases := bs, mro := .ref C :: bm, ns := N0, qualname := q, hasDict := true, slotNames := sn, subclasses := sub, abstract := ab, collection := col, hasDel := false } := by unfold clsIn; rw [hC] <;> rfl
  have X : K.In s.heap := X₀.keeps k0
  refine ks_codeAny_call_defAt (fd := ksFn "__init__" qual (iPar pn a1 a2 q1 q2) (iBody f pn mm kk p0 p1 p2 p3 p4 p5 p6 p7 p8 p9) sc .none .none doc pm an (.ref cda) ct cc) (body := iBody f pn mm kk p0 p1 p2 p3 p4 p5 p6 p7 p8 p9) (binds := [("self", .ref x), (pn, v)]) hroom (X _ _ ho) rfl hlim (codeRec_of X hcd) rfl (bind_par hpn) SC.nocell (fun y hy => ?_) (fun h₁ hns hk₁ => ?_) SC.co SC.gen SC.kind
  · rcases List.mem_cons.mp hy with rfl | hy
    · exact SC.slf
    · rcases List.mem_cons.mp hy with rfl | hy
      · exact SC.par
      · cases hy
  have hxL : x ≠ s.heap.objs.size := Nat.ne_of_lt (Heap.lt_size hx)
  have F : Fr h₀ s.heap.objs.size h₁ (fun y => ([(("self" : Str), Value.ref x), (pn, v)]).reverse.lookup y) := ⟨hns, fun b o e => hk₁ b o (k0 b o e), hL⟩
  have N : News h₀ s.heap.objs.size h₁ [(x, excO C t0)] := fun p hp => by
    have e : p = (x, excO C t0) := by simpa using hp
    subst e
    exact ⟨hk₁ _ _ hx, hxL, hx0⟩
  have mself : (fun y => ([(("self" : Str), Value.ref x), (pn, v)]).reverse.lookup y) ("self" : Str) = some (.ref x) := by
    have h2 : (("self" : Str) == pn) = false := by
      rw [Bool.eq_false_iff] at hpn ⊢
      intro z
      exact hpn (by rw [beq_iff_eq] at z ⊢; exact z.symm)
    simp [List.lookup, h2]
  have mpn : (fun y => ([(("self" : Str), Value.ref x), (pn, v)]).reverse.lookup y) pn = some v := by simp [List.lookup]
  refine ks_wpAt_execs_cons (ks_wpAt_Expr_any (ks_wpAt_MethodCall ?_ (call_line hline rfl)) (show (sc.kind == .module && _) = false by rw [SC.kind]; rfl) rfl)
  have J1 : InstAt h₁ x (excO C t0) C none := ⟨hk₁ _ _ hx, rfl, rfl, trivial⟩
  refine sup_node (s := ⟨h₁, s.gens, s.drawn, s.toks + 2, s.os⟩) (scope := sc) (q := qual) (g0 := fI) F X₀ N G G2 hmb ho rfl mself J1 hcode hvs hfile hcell hcl T.mroC hsuper (by decide +kernel) SC.sup SC.cls SC.slf SC.kind T.top (by decide +kernel) fun so h2 F2 N2 => ?_
  have J2 : InstAt h2 x (excO C t0) C none := ⟨(N2 (x, excO C t0) (by simp)).1, rfl, rfl, trivial⟩
  refine kxs_method (s := ⟨h2, s.gens, s.drawn, s.toks + 2, s.os⟩) kxs_ValueError F2 X₀ N2 (List.mem_cons_self) J2 T.st T.sup T.veC (by decide +kernel) fun u h3 F3 N3 _ => ?_
  refine kxs_callWith1 N3 (List.mem_cons_self) ?_ rfl rfl
  refine spliced_more (wpAny_Constant_str (spliced_none ⟨(N3 _ List.mem_cons_self).1, ?_⟩)) rfl
  have atx := (N3 (x, excO C t0) (by simp)).1
  have nu : u ≠ x := fun z => by
    have z2 := (N3 (u, kxs_mw "ValueError.__init__" x) (by simp)).1
    rw [z, atx] at z2
    cases z2
  have nso : so ≠ x := fun z => by
    have z2 := (N3 (so, ks_superObj C x C) (by simp)).1
    rw [z, atx] at z2
    cases z2
  · refine kxs_call (t := t0) (dv := none) (c2 := .none) F3 X₀ N3 PySem.F.excBase_ValueError T.exi (List.mem_cons_self) (.tail nu (.tail nso (.head fun p hp => by cases hp))) (one_size _) fun t' h4 F4 N4 _ => ?_
    have hx4 : h4.get? x = some (excObj C t' none .none) := (N4 (x, excObj C t' none .none) (by simp)).1
    have X4 : K.In h4 := X₀.keeps F4.keep
    refine wpAt_of_wpAny (wpAny_execs_cons (plainObj_wpAny_Assign_Attribute ?_ rfl))
    refine wpAny_Name (wpAny_loadName_local SC.kind SC.par F4.ns mpn (wpAny_Name (wpAny_loadName_local SC.kind SC.slf F4.ns mself ?_) (by decide +kernel))) hpd
    refine set_plain X4 (ox := excObj C t' none .none) (od := none) ⟨hx4, rfl, rfl, trivial⟩ T.sa ?_
    refine exc_osa X4 hx4 hcl (show refsVE (.ref C :: bm) = true from hbm) rfl T.noN fun h5 tk5 dx k5' dn dne hx5 hn5 => ?_
    refine wpAny_execs_nil ?_
    refine hq h5 tk5 dx t' ⟨fun b o e => k5' b o (fun z => by rw [z, hx0] at e; cases e) (F4.keep b o e), hx5, Nat.le_trans ?_ dn, dne, hn5⟩
    exact Nat.le_trans F4.above (Nat.le_of_lt F4.ns.lt)

theorem sup_made (T : SupTxt prog K mg C fI c f) {v : Value} (X : K.In s.heap) (G : s.heap.Ns mainGlobals mg) (G2 : s.heap.Ns builtinsNs mb) (hmb : mb ("super" : Str) = bootBuiltins "super") (hsuper : mg ("super" : Str) = none) (hlim : s.heap.NoLimit) (hroom : A.depth + 1 < recursionLimit)
    (hq : ∀ h' tk e d, OwnMade s.heap h' e C d f v → R (.ok (.ret (.ref e))) { s with heap := h', toks := tk }) :
    codeAny (model prog w) A (.call (.ref C) ⟨[v], []⟩) R s := by
  obtain ⟨nm, q, N, bs, bm, sn, sub, ab, col, dd, k0, k1, k2, k3, k5, hC, hbm⟩ := T.cls
  obtain ⟨hp, gs, dr, tk, os⟩ := s
  have up : ∀ b o, hp.get? b = some o → ((hp.push (kdv_tup [v])).push (excO C hp.objs.size)).get? b = some o := fun b o e => Heap.get?_push_of_some _ (Heap.get?_push_of_some _ e)
  have got : ((hp.push (kdv_tup [v])).push (excO C hp.objs.size)).get? (hp.objs.size + 1) = some (excO C hp.objs.size) := by heap_get
  have fresh : hp.get? (hp.objs.size + 1) = none := by
    cases e : hp.get? (hp.objs.size + 1) with
    | none => rfl
    | some o => exact absurd (Nat.lt_of_succ_lt (Heap.lt_size e)) (Nat.lt_irrefl _)
  refine call_own PySem.F.excBase_ValueError (fun X => refsVE_contains X bm hbm) (X _ _ hC) (looks_findIn X T.iC) (fun self => bind_fn X self T.tC) (one_size v) ?_
  refine sup_init (s := ⟨(hp.push (kdv_tup [v])).push (excO C hp.objs.size), gs, dr, tk, os⟩) (h₀ := hp) T X G G2 hmb hsuper up (by simp only [Heap.size_push]; omega) fresh (hlim.keeps up) got (show A.depth + 1 < recursionLimit from hroom) fun h' tk' dx t1 ⟨k', hx, dn, dne, hns⟩ => ?_
  exact ⟨rfl, hq h' tk' (hp.objs.size + 1) dx ⟨k', Nat.le_succ _, ⟨_, _, hx, rfl, rfl, rfl, rfl⟩, dn, dne, hns⟩⟩
end
end SupX
end PySem
namespace PD
open PySem PySem.Spec PyProof.Rows L2
theorem relO_one {v : V} {v' : Value} (r : RelV v v') (f g : Str) : RelO (List.lookup g [(f, v)]) (if g = f then some v' else none) := by
  by_cases hw : g = f
  · subst hw
    rw [if_pos rfl]
    have q : List.lookup g [(g, v)] = some v := by simp [List.lookup]
    rw [q]
    exact r
  · rw [if_neg hw]
    have qw : (g == f) = false := by simpa using hw
    have q2 : List.lookup g [(f, v)] = none := by simp [List.lookup, qw]
    rw [q2]
    trivial
section
variable {X : Cx} {C fI : Addr} {c f : Str}
def tMkSup (C : Addr) (f : Str) (ta : TA) : L2.St → Hp → XK → Prop := fun σ H Q => ta σ H fun vs H1 => ∃ v, vs = [v] ∧ ∀ d, H1 d = none → Q (.ref C) (some d) (upd H1 d (.xd [(f, v)]))
theorem pmk_sup {a : Expr} {ta : TA} {p pos : Pos} {k : Nat} (T : PySem.SupX.SupTxt X.prog X.K X.mg C fI c f) (hsup : X.mg ("super" : Str) = none) (hr : Room k X.A) (ha : PA X [a] ta) (hg : Gl X c) (hdb : (c == ("__debug__" : Str)) = false)
    (he : starEach (a :: []) X.env = (false, eval a X.env) :: starEach [] X.env) :
    PMk X (.Call (.Name c p) [a] [] pos) (tMkSup C f ta) := by
  intro pins s σ H Q I h
  refine wpAny_Call_Name_kw (ld_glob I hg T.gC ?_ hdb)
  refine PySem.W.callWith_K (h₀ := X.base) I.ok.mod.kin T.kC (thn (ha.run pos pins s σ H _ I h) fun us s1 hh => ?_) he rfl
  obtain ⟨vs, H1, I1, r1, v, ev, q1⟩ := hh
  subst ev
  refine ⟨I1.kIn, ?_⟩
  cases r1 with
  | cons rv rn =>
    rename_i v' us'
    cases rn
    show wpAny _ _ (call (.ref C) [v']) _ _ _
    have hlim := I1.nolimit
    obtain ⟨mb, hmb, hbb⟩ := I1.ok.mod.blt
    have kb : ∀ b o, X.base.get? b = some o → s1.heap.get? b = some o := I1.bk
    have G := I1.ok.mod.glob.keeps kb
    have G2 := hmb.keeps kb
    obtain ⟨hp, gs, dr, tk, os⟩ := s1
    refine wpAny_call (PySem.SupX.sup_made T I1.kIn G G2 (hbb _ (by decide +kernel)) hsup hlim (by have := hr.dp; omega) fun h' tk' e d M => ?_)
    show MkP X pins σ Q (.ref e) ⟨h', gs, dr, tk', os⟩
    obtain ⟨oe, fv, hoe, hc, hd, hdat, h1⟩ := M.obj
    have hns := M.ns
    obtain ⟨G', g1, g2⟩ := restrict h' fun b => decide (b ≠ e)
    have gk : ∀ b, b ≠ e → G'.get? b = h'.get? b := fun b hb => g1 b (decide_eq_true hb)
    have ge : G'.get? e = none := g2 e (by simp)
    have old : ∀ b o, hp.get? b = some o → G'.get? b = some o := fun b o q => (gk b (Nat.ne_of_lt (Nat.lt_of_lt_of_le (Heap.lt_size q) M.new))).trans (M.keep b o q)
    have ob : ObjOk X.prog X.w (upd H1 d (.xd [(f, v)])) G' d (.xd [(f, v)]) :=
      ⟨_, hns.at (fun o q => (gk d M.dne).trans q), fun g => relO_one rv f g⟩
    have J : L2.Inv X pins σ (upd H1 d (.xd [(f, v)])) ⟨G', gs, dr, tk', os⟩ := I1.laid (t' := tk') old M.dbig ob
    refine ⟨e, oe, fv, ⟨G', gs, dr, tk', os⟩, _, .ref C, some d, rfl, J, fun b o q => ?_, ge, hoe, ⟨hc, hd⟩, hdat, h1, ?_, rfl, I1.bare, raises_own T.exC T.tyC, q1 d (I1.hok.fresh M.dbig)⟩
    · by_cases hb : b = e
      · have q' : G'.get? b = some o := q
        rw [hb, ge] at q'; cases q'
      · exact (gk b hb).symm.trans q
    · rw [upd_ne (Ne.symm M.dne)]
      exact I1.hok.fresh M.new
end
end PD

/-! PD2 -/
set_option Elab.async false
set_option linter.all false
set_option maxRecDepth 100000
set_option maxHeartbeats 4000000
/-! PD: the small language and what it means. -/
namespace PD
open PySem PySem.Spec PyProof.Rows L2

/-! ### syntax -/
inductive Bop where | add | sub | mul | fdv | mod | pow
inductive Cop where | eq | ne | lt | le | gt | ge | inn | nin | is_ | isn
inductive Bfn where | len | abs | min2 | max2 | int | tuple | list | gcd
inductive Mth where | bitlen
inductive TyN where | ty (n : String) | own (c : Str)
  deriving DecidableEq
inductive Tg where | nm (i : Nat) | tp (is : List Nat)

mutual
inductive Ex where
  | var (i : Nat) | lit (d : D) | glo (j : Nat) | none_
  | bin (o : Bop) (a b : Ex) | cmp (o : Cop) (a b : Ex) | chain (o o' : Cop) (a b c : Ex)
  | neg (a : Ex) | not_ (a : Ex) | and_ (a b : Ex) | or_ (a b : Ex) | ife (c a b : Ex) | tru (a : Ex)
  | tup (es : Exs) | lst (es : Exs) | idx (a i : Ex) | slc (a lo hi : Ex)
  | call (j : Nat) (es : Exs) | bfn (f : Bfn) (es : Exs) | mth (m : Mth) (a : Ex) (es : Exs)
  | isi (a : Ex) (ts : List TyN) (tp : Bool) | isx (i : Nat) (ts : List Str) (tp : Bool) | xfld (i : Nat) (f : Str) | isv (i : Nat) (n : String)
  | pop (i : Nat)
  | lc (own : List Nat) (tg : Tg) (it : It) (c elt : Ex)
inductive Exs where
  | nil | cons (e : Ex) (es : Exs)
inductive It where
  | rng1 (a : Ex) | rng2 (a b : Ex) | seq (a : Ex)
end
mutual
inductive St where
  | asg (t : Tg) (e : Ex) | six (i : Nat) (k e : Ex) | app (i : Nat) (e : Ex) | exp (e : Ex)
  | if_ (c : Ex) (a b : Sts) | whl (c : Ex) (b : Sts) | for_ (t : Tg) (it : It) (b : Sts)
  | ret (e : Ex) | retl (e : Ex) | dead | retn | pass | brk | cnt
  | rais (c : Str) | raisf (c f : Str) (e : Ex)
  | try_ (b : Sts) (hs : Hds)
inductive Sts where
  | nil | cons (s : St) (ss : Sts)
inductive Hds where
  | nil | cons (cs : List Str) (tp : Bool) (as_ : Option Nat) (b : Sts) (hs : Hds)
end

def Ex.isNone : Ex → Bool
  | .none_ => true
  | _ => false
def Exs.len : Exs → Nat
  | .nil => 0
  | .cons _ es => es.len + 1
/-! ### results -/
inductive Res (α : Type) where
  | ok (a : α) (st : Store) | exc (x : XD) (st : Store) | stuck
def Res.bind {α β : Type} (r : Res α) (k : α → Store → Res β) : Res β := match r with
  | .ok a st => k a st
  | .exc x st => .exc x st
  | .stuck => .stuck
def Res.nox {α : Type} (r : Res α) : Res α := match r with
  | .exc _ _ => .stuck
  | r => r
inductive SR where
  | nx (ρ : Slots) (st : Store) | rt (d : D) (st : Store) | rtl (ds : List D) (st : Store) | bk (ρ : Slots) (st : Store) | ct (ρ : Slots) (st : Store) | exc (x : XD) (ρ : Slots) (st : Store) | stuck
inductive Arg where
  | fz (d : D) | mu (c : Cont)
inductive FRes where
  | ok (d : D) (cs : List Cont) | okl (ds : List D) (cs : List Cont) | exc (x : XD) (cs : List Cont) | stuck
structure FnI where
  muts : List Bool
  dfl : List D
  f : List Arg → FRes
structure Gam where
  io : Nat
  con : List D
  fns : List FnI
  exm : Str → Str → Option Bool
  xfl : Str → Str → Bool
  exv : Str → String → Option Bool

/-! ### values -/
def LIM : Nat := 16777216
def dr (st : Store) : Val → Option D
  | .fz d => some d
  | .loc n => match st[n]? with
    | some c => some c.d
    | none => none
  | .exn _ => none
/-- the value is handed on: what it holds stands still from now on -/
def fr (io : Nat) (v : Val) (st : Store) : Res D := match v with
  | .fz d => .ok d st
  | .loc n => match st[n]? with
    | some (.fz d) => .ok d st
    | some c => if io ≤ n then .ok c.d (st.set n (.fz c.d)) else .stuck
    | none => .stuck
  | .exn _ => .stuck
def frs (io : Nat) : List Val → Store → Res (List D)
  | [], st => .ok [] st
  | v :: vs, st => (fr io v st).bind fun d st => (frs io vs st).bind fun ds st => .ok (d :: ds) st
def pick {α : Type} (o : Option α) (k : α → Res β) : Res β := match o with
  | some a => k a
  | none => .stuck

/-! ### operations -/
inductive OpD where | d (d : D) | l (ds : List D) | no
def opRes (r : OpD) (st : Store) : Res Val := match r with
  | .d d => .ok (.fz d) st
  | .l ds => .ok (.loc st.length) (st ++ [.lst ds])
  | .no => .stuck
def mok (i j : Int) : Bool := decide (i.natAbs.log2 + j.natAbs.log2 < 134217000)
def bopS : Bop → D → D → OpD
  | .add, .int i, .int j => .d (.int (i + j))
  | .add, .str x, .str y => if x.length + y.length ≤ LIM then .d (.str (x ++ y)) else .no
  | .add, .lst xs, .lst ys => if xs.length + ys.length ≤ LIM then .l (xs ++ ys) else .no
  | .add, .tup xs, .tup ys => if xs.length + ys.length ≤ LIM then .d (.tup (xs ++ ys)) else .no
  | .sub, .int i, .int j => .d (.int (i - j))
  | .mul, .int i, .int j => if mok i j then .d (.int (i * j)) else .no
  | .fdv, .int i, .int j => if j = 0 ∨ Builtin.divisionGoesByPylong i j = true then .no else .d (.int (i.fdiv j))
  | .mod, .int i, .int j => if j = 0 then .no else .d (.int (i.fmod j))
  | .pow, .int i, .int j => if 0 ≤ j ∧ (i.natAbs.log2 + 1) * j.toNat < 134217000 then .d (.int (i ^ j.toNat)) else .no
  | _, _, _ => .no
mutual
def pyOf : D → Option PyData
  | .non => some .none
  | .bl b => some (.bool b)
  | .int i => some (.int i)
  | .str s => some (.str s)
  | .tup ds => match pyOfs ds with
    | some ps => some (.tuple ps)
    | none => none
  | .lst ds => match pyOfs ds with
    | some ps => some (.list ps)
    | none => none
  | .dct _ _ => none
  | .obj _ _ _ => none
def pyOfs : List D → Option (List PyData)
  | [] => some []
  | d :: ds => match pyOf d with
    | some p => (match pyOfs ds with
      | some ps => some (p :: ps)
      | none => none)
    | none => none
end
def eqS : D → D → Option Bool
  | .int i, .int j => some (i == j)
  | .str x, .str y => some (x == y)
  | .bl x, .bl y => some (x == y)
  | .non, .non => some true
  | a, b => match pyOf a, pyOf b with
    | some p, some q => if SeqAt.shaped p && SeqAt.shaped q then some (PyData.eqv p q) else none
    | _, _ => none
def isS : D → D → Option Bool
  | .non, .non => some true
  | _, .non => some false
  | .bl x, .bl y => some (x == y)
  | _, _ => none
def cmpS : Cop → D → D → Option Bool
  | .eq, a, b => eqS a b
  | .ne, a, b => match eqS a b with
    | some r => some (!r)
    | none => none
  | .lt, .int i, .int j => some (decide (i < j))
  | .le, .int i, .int j => some (decide (i ≤ j))
  | .gt, .int i, .int j => some (decide (j < i))
  | .ge, .int i, .int j => some (decide (j ≤ i))
  | .lt, .str x, .str y => some (decide (x.cps.toList < y.cps.toList))
  | .le, .str x, .str y => some (!decide (y.cps.toList < x.cps.toList))
  | .is_, a, b => isS a b
  | .isn, a, b => match isS a b with
    | some r => some (!r)
    | none => none
  | _, _, _ => none
def truS : D → Option Bool
  | .non => some false
  | .bl b => some b
  | .int i => some (i != 0)
  | .str s => if s.length ≤ LIM then some ((s.length : Int) != 0) else none
  | .lst ds => some (!ds.isEmpty)
  | .tup ds => some (!ds.isEmpty)
  | _ => none
def sgn (c : Nat) : Str := ⟨#[c]⟩
def idxS : D → D → Option D
  | .lst ds, .int i => atI ds i
  | .tup ds, .int i => atI ds i
  | .str s, .int i => if s.length ≤ LIM then (atI s.cps.toList i).map fun c => .str (sgn c) else none
  | _, _ => none
def cutD (xs : List D) (lo hi : Option Int) : List D := (xs.drop (HT.sIx xs.length 0 lo)).take (HT.sIx xs.length xs.length hi - HT.sIx xs.length 0 lo)
def slcS (d : D) (lo hi : Option Int) : OpD := match d with
  | .lst ds => .l (cutD ds lo hi)
  | .tup ds => .d (.tup (cutD ds lo hi))
  | .str s => if s.length ≤ LIM then .d (.str (cutS s lo hi)) else .no
  | _ => .no
def bndV : Bool → Val → Option (Option Int)
  | true, _ => some none
  | false, .fz (.int i) => some (some i)
  | _, _ => none
def bfnS : Bfn → List D → OpD
  | .len, [.lst ds] => .d (.int ds.length)
  | .len, [.tup ds] => .d (.int ds.length)
  | .len, [.str s] => if s.length ≤ LIM then .d (.int s.length) else .no
  | .abs, [.int i] => .d (.int (if i < 0 then -i else i))
  | .min2, [.int i, .int j] => .d (.int (if j < i then j else i))
  | .max2, [.int i, .int j] => .d (.int (if j > i then j else i))
  | .int, [.int i] => .d (.int i)
  | .int, [.bl b] => .d (.int (if b then 1 else 0))
  | .tuple, [.lst ds] => .d (.tup ds)
  | .tuple, [.tup ds] => .d (.tup ds)
  | .list, [.lst ds] => .l ds
  | .list, [.tup ds] => .l ds
  | .gcd, [.int i, .int j] => .d (.int ((Nat.gcd i.natAbs j.natAbs : Nat) : Int))
  | _, _ => .no
def mthS : Mth → D → List D → OpD
  | .bitlen, .int i, [] => .d (.int (Builtin.Int.intBits i : Nat))
  | _, _, _ => .no
/-- the name of a datum's type -/
def tyS : D → Option String
  | .non => some "NoneType"
  | .bl _ => some "bool"
  | .int _ => some "int"
  | .str _ => some "str"
  | .tup _ => some "tuple"
  | .lst _ => some "list"
  | .dct _ _ => some "dict"
  | .obj _ _ _ => none
def isiOne (exm : Str → Str → Option Bool) (d : D) (t : TyN) : Option Bool := match t with
  | .ty n => (match tyS d with
    | some u => kitB u n
    | none => none)
  | .own _ => none
def isiS (exm : Str → Str → Option Bool) (d : D) : List TyN → Option Bool
  | [] => some false
  | t :: ts => match isiOne exm d t with
    | some true => some true
    | some false => isiS exm d ts
    | none => none
def isxS (exm : Str → Str → Option Bool) (c : Str) : List Str → Option Bool
  | [] => some false
  | t :: ts => match exm c t with
    | some true => some true
    | some false => isxS exm c ts
    | none => none

/-! ### what is walked -/
inductive Iter where | rng (lo : Int) (n : Nat) | lst (v : Val) | tup (ds : List D) | str (s : Str)
def Iter.size (st : Store) : Iter → Option Nat
  | .rng _ n => some n
  | .lst v => (match dr st v with
    | some (.lst ds) => some ds.length
    | _ => none)
  | .tup ds => some ds.length
  | .str s => some s.cps.size
def Iter.at (st : Store) (i : Nat) : Iter → Option D
  | .rng lo _ => some (.int (lo + i))
  | .lst v => (match dr st v with
    | some (.lst ds) => ds[i]?
    | _ => none)
  | .tup ds => ds[i]?
  | .str s => (s.cps[i]?).map fun c => .str (sgn c)
def seqI (v : Val) : D → Option Iter
  | .lst _ => some (.lst v)
  | .tup ds => some (.tup ds)
  | .str s => some (.str s)
  | _ => none
def rngOk (i : Int) : Bool := decide (-(2 ^ 62) ≤ i) && decide (i < 2 ^ 62)
def rngS (a b : D) : Option Iter := match a, b with
  | .int i, .int j => if rngOk i && rngOk j then some (.rng i (j - i).toNat) else none
  | _, _ => none

/-! ### targets -/
def setAll : List Nat → List D → Slots → Option Slots
  | [], [], ρ => some ρ
  | i :: is, d :: ds, ρ => setAll is ds (ρ.set i (some (.fz d)))
  | _, _, _ => none
def asgT (t : Tg) (v : Val) (ρ : Slots) (st : Store) : Option Slots := match t with
  | .nm i => some (ρ.set i (some v))
  | .tp is => match v with
    | .fz (.tup ds) => setAll is ds ρ
    | _ => none
def wipeS (ρ : Slots) : List Nat → Slots
  | [] => ρ
  | v :: vs => (wipeS ρ vs).set v none

/-! ### calls -/
/-- arguments: what a def changes for its caller must be a live list of the caller's -/
def frA (io : Nat) : List Bool → List Val → Store → Res (List (Sum D Nat))
  | _, [], st => .ok [] st
  | [], v :: vs, st => (fr io v st).bind fun d st => (frA io [] vs st).bind fun as st => .ok (.inl d :: as) st
  | false :: ms, v :: vs, st => (fr io v st).bind fun d st => (frA io ms vs st).bind fun as st => .ok (.inl d :: as) st
  | true :: ms, v :: vs, st => match v with
    | .loc n => (frA io ms vs st).bind fun as st => .ok (.inr n :: as) st
    | _ => .stuck
def mkA (st : Store) : List (Sum D Nat) → Option (List Arg)
  | [] => some []
  | .inl d :: as => (match mkA st as with
    | some r => some (.fz d :: r)
    | none => none)
  | .inr n :: as => (match st[n]? with
    | some c => if c.live then (match mkA st as with
      | some r => some (.mu c :: r)
      | none => none) else none
    | none => none)
def locsA : List (Sum D Nat) → List Nat
  | [] => []
  | .inl _ :: as => locsA as
  | .inr n :: as => n :: locsA as
def putBack : List Nat → List Cont → Store → Option Store
  | [], [], st => some st
  | n :: ns, c :: cs, st => if c.live then putBack ns cs (st.set n c) else none
  | _, _, _ => none
def noDup : List Nat → Bool
  | [] => true
  | n :: ns => !ns.contains n && noDup ns
def callS (io : Nat) (fi : FnI) (vs : List Val) (st : Store) : Res Val :=
  (frA io fi.muts vs st).bind fun as st => if noDup (locsA as) then
    pick (mkA st as) fun args => match fi.f (args ++ fi.dfl.map .fz) with
      | .ok d cs => pick (putBack (locsA as) cs st) fun st => .ok (.fz d) st
      | .okl ds cs => pick (putBack (locsA as) cs st) fun st => .ok (.loc st.length) (st ++ [.lst ds])
      | .exc x cs => pick (putBack (locsA as) cs st) fun st => .exc x st
      | .stuck => .stuck
  else .stuck

/-! ### expressions -/
def lcLoop (I : Iter) (body : D → Store → Res (List D)) : Nat → Nat → List D → Store → Res (List D)
  | 0, i, acc, st => if I.size st = some i then .ok acc st else .stuck
  | k + 1, i, acc, st => if I.size st = some (i + (k + 1)) then pick (I.at st i) fun d => (body d st).bind fun ds st' => lcLoop I body k (i + 1) (acc ++ ds) st' else .stuck

def lcEnd (ds : List D) (st : Store) : Res Val := .ok (.loc st.length) (st ++ [.lst ds])
def lcPut (io : Nat) (v : Val) (st : Store) : Res (List D) := (fr io v st).bind fun d st => .ok [d] st
def lcTurn (b : Val) (kt kf : Res (List D)) : Res (List D) := match b with
  | .fz (.bl true) => kt
  | .fz (.bl false) => kf
  | _ => .stuck
mutual
def ev (G : Gam) : Ex → Slots → Store → Res Val
  | .var i, ρ, st => match ρ[i]? with
    | some (some v) => .ok v st
    | _ => .stuck
  | .lit d, _, st => .ok (.fz d) st
  | .none_, _, st => .ok (.fz .non) st
  | .glo j, _, st => pick G.con[j]? fun d => .ok (.fz d) st
  | .bin o a b, ρ, st => (ev G a ρ st).bind fun x st => (ev G b ρ st).bind fun y st => pick (dr st x) fun dx => pick (dr st y) fun dy => opRes (bopS o dx dy) st
  | .cmp o a b, ρ, st => (ev G a ρ st).bind fun x st => (ev G b ρ st).bind fun y st => pick (dr st x) fun dx => pick (dr st y) fun dy => pick (cmpS o dx dy) fun r => .ok (.fz (.bl r)) st
  | .chain o o' a b c, ρ, st => (ev G a ρ st).bind fun x st => (ev G b ρ st).bind fun y st => pick (dr st x) fun dx => pick (dr st y) fun dy => pick (cmpS o dx dy) fun r =>
      if r then (ev G c ρ st).bind fun z st => pick (dr st y) fun dy => pick (dr st z) fun dz => pick (cmpS o' dy dz) fun r => .ok (.fz (.bl r)) st else .ok (.fz (.bl false)) st
  | .neg a, ρ, st => (ev G a ρ st).bind fun x st => match x with
    | .fz (.int i) => .ok (.fz (.int (-i))) st
    | _ => .stuck
  | .not_ a, ρ, st => (ev G a ρ st).bind fun x st => match x with
    | .fz (.bl b) => .ok (.fz (.bl (!b))) st
    | _ => .stuck
  | .and_ a b, ρ, st => (ev G a ρ st).bind fun x st => match x with
    | .fz (.bl true) => ev G b ρ st
    | .fz (.bl false) => .ok (.fz (.bl false)) st
    | _ => .stuck
  | .or_ a b, ρ, st => (ev G a ρ st).bind fun x st => match x with
    | .fz (.bl true) => .ok (.fz (.bl true)) st
    | .fz (.bl false) => ev G b ρ st
    | _ => .stuck
  | .ife c a b, ρ, st => (ev G c ρ st).bind fun x st => match x with
    | .fz (.bl true) => ev G a ρ st
    | .fz (.bl false) => ev G b ρ st
    | _ => .stuck
  | .tru a, ρ, st => (ev G a ρ st).bind fun x st => pick (dr st x) fun d => pick (truS d) fun r => .ok (.fz (.bl r)) st
  | .tup es, ρ, st => (evs G es ρ st).bind fun vs st => (frs G.io vs st).bind fun ds st => if ds.length ≤ LIM then .ok (.fz (.tup ds)) st else .stuck
  | .lst es, ρ, st => (evs G es ρ st).bind fun vs st => (frs G.io vs st).bind fun ds st => if ds.length ≤ LIM then .ok (.loc st.length) (st ++ [.lst ds]) else .stuck
  | .idx a i, ρ, st => (ev G a ρ st).bind fun x st => (ev G i ρ st).bind fun y st => pick (dr st x) fun dx => pick (dr st y) fun dy => pick (idxS dx dy) fun d => .ok (.fz d) st
  | .slc a lo hi, ρ, st => (ev G a ρ st).bind fun x st => ((ev G lo ρ st).bind fun l st => pick (bndV lo.isNone l) fun b => .ok b st).bind fun bl st =>
      ((ev G hi ρ st).bind fun h st => pick (bndV hi.isNone h) fun b => .ok b st).bind fun bh st => pick (dr st x) fun dx => opRes (slcS dx bl bh) st
  | .call j es, ρ, st => pick G.fns[j]? fun fi => (evs G es ρ st).bind fun vs st => callS G.io fi vs st
  | .bfn f es, ρ, st => (evs G es ρ st).bind fun vs st => pick (vs.mapM (dr st)) fun ds => opRes (bfnS f ds) st
  | .mth m a es, ρ, st => (ev G a ρ st).bind fun x st => (evs G es ρ st).bind fun vs st => pick (dr st x) fun d => pick (vs.mapM (dr st)) fun ds => opRes (mthS m d ds) st
  | .isi a ts _, ρ, st => (ev G a ρ st).bind fun x st => pick (dr st x) fun d => pick (isiS G.exm d ts) fun r => .ok (.fz (.bl r)) st
  | .isx i ts _, ρ, st => match ρ[i]? with
    | some (some (.exn x)) => pick (isxS G.exm x.cls ts) fun r => .ok (.fz (.bl r)) st
    | _ => .stuck
  | .isv i n, ρ, st => match ρ[i]? with
    | some (some (.exn x)) => pick (G.exv x.cls n) fun r => .ok (.fz (.bl r)) st
    | _ => .stuck
  | .xfld i f, ρ, st => match ρ[i]? with
    | some (some (.exn x)) => if G.xfl x.cls f = true then pick (x.fs.lookup f) fun d => .ok (.fz d) st else .stuck
    | _ => .stuck
  | .pop i, ρ, st => match ρ[i]? with
    | some (some (.loc n)) => (match st[n]? with
      | some (.lst ds) => pick ds.getLast? fun d => .ok (.fz d) (st.set n (.lst ds.dropLast))
      | _ => .stuck)
    | _ => .stuck
  | .lc own tg it c elt, ρ, st => (evI G it ρ st).bind fun I st => pick (I.size st) fun n => if n ≤ LIM then
      (lcLoop I (fun d st => pick (asgT tg (.fz d) (wipeS ρ own) st) fun ρ' => (ev G c ρ' st).nox.bind fun b st => lcTurn b ((ev G elt ρ' st).nox.bind fun v st => lcPut G.io v st) (.ok [] st)) n 0 [] st).bind lcEnd else .stuck
def evs (G : Gam) : Exs → Slots → Store → Res (List Val)
  | .nil, _, st => .ok [] st
  | .cons e es, ρ, st => (ev G e ρ st).bind fun v st => (evs G es ρ st).bind fun vs st => .ok (v :: vs) st
def evI (G : Gam) : It → Slots → Store → Res Iter
  | .rng1 a, ρ, st => (ev G a ρ st).bind fun x st => pick (dr st x) fun d => pick (rngS (.int 0) d) fun I => .ok I st
  | .rng2 a b, ρ, st => (ev G a ρ st).bind fun x st => (ev G b ρ st).bind fun y st => pick (dr st x) fun d => pick (dr st y) fun e => pick (rngS d e) fun I => .ok I st
  | .seq a, ρ, st => (ev G a ρ st).bind fun x st => pick (dr st x) fun d => pick (seqI x d) fun I => .ok I st
end

/-! ### statements -/
def Res.sr {α : Type} (r : Res α) (ρ : Slots) (k : α → Store → SR) : SR := match r with
  | .ok a st => k a st
  | .exc x st => .exc x ρ st
  | .stuck => .stuck
def SR.bind (r : SR) (k : Slots → Store → SR) : SR := match r with
  | .nx ρ st => k ρ st
  | r => r
def pickS {α : Type} (o : Option α) (k : α → SR) : SR := match o with
  | some a => k a
  | none => .stuck
def forLoop (I : Iter) (body : D → Slots → Store → SR) : Nat → Nat → Slots → Store → SR
  | 0, i, ρ, st => if I.size st = some i then .nx ρ st else .stuck
  | k + 1, i, ρ, st => if I.size st = some (i + (k + 1)) then pickS (I.at st i) fun d => match body d ρ st with
    | .nx ρ' st' => forLoop I body k (i + 1) ρ' st'
    | .ct ρ' st' => forLoop I body k (i + 1) ρ' st'
    | .bk ρ' st' => .nx ρ' st'
    | r => r else .stuck
/-- a while, n turns at most (none: not ended) -/
def whileN (c : Slots → Store → Res Val) (body : Slots → Store → SR) : Nat → Slots → Store → Option SR
  | 0, _, _ => none
  | n + 1, ρ, st => match c ρ st with
    | .ok (.fz (.bl true)) st => (match body ρ st with
      | .nx ρ' st' => whileN c body n ρ' st'
      | .ct ρ' st' => whileN c body n ρ' st'
      | .bk ρ' st' => some (.nx ρ' st')
      | r => some r)
    | .ok (.fz (.bl false)) st => some (.nx ρ st)
    | .exc x st => some (.exc x ρ st)
    | _ => some .stuck
open Classical in
noncomputable def whileS (c : Slots → Store → Res Val) (body : Slots → Store → SR) (ρ : Slots) (st : Store) : SR :=
  if h : ∃ n r, whileN c body n ρ st = some r then (Classical.choose_spec h).choose else .stuck
/-- the clause that takes it -/
def hitS (exm : Str → Str → Option Bool) (c : Str) : List Str → Option Bool
  | [] => some false
  | t :: ts => match exm c t, hitS exm c ts with
    | some b, some d => some (b || d)
    | _, _ => none

def begH (as_ : Option Nat) (x : XD) (ρ : Slots) : Slots := match as_ with
  | none => ρ
  | some i => ρ.set i (some (.exn x))
def goneH (as_ : Option Nat) (ρ : Slots) : Slots := match as_ with
  | none => ρ
  | some i => ρ.set i none
def noExn : Slots → Bool
  | [] => true
  | some (.exn _) :: _ => false
  | _ :: ρ => noExn ρ
/-- behind an except suite: its name is gone -/
def endH (as_ : Option Nat) : SR → SR
  | .nx ρ st => if noExn (goneH as_ ρ) = true then .nx (goneH as_ ρ) st else .stuck
  | .bk ρ st => if noExn (goneH as_ ρ) = true then .bk (goneH as_ ρ) st else .stuck
  | .ct ρ st => if noExn (goneH as_ ρ) = true then .ct (goneH as_ ρ) st else .stuck
  | .rt d st => .rt d st
  | .rtl ds st => .rtl ds st
  | _ => .stuck
mutual
noncomputable def ex (G : Gam) : St → Slots → Store → SR
  | .asg t e, ρ, st => (ev G e ρ st).sr ρ fun v st => pickS (asgT t v ρ st) fun ρ => .nx ρ st
  | .six i k e, ρ, st => (ev G e ρ st).sr ρ fun v st => match ρ[i]? with
    | some (some (.loc n)) => (ev G k ρ st).sr ρ fun y st => (fr G.io v st).sr ρ fun d st => (match dr st y, st[n]? with
      | some (.int j), some (.lst ds) => pickS (ixN ds.length j) fun m => .nx ρ (st.set n (.lst (ds.set m d)))
      | _, _ => .stuck)
    | _ => .stuck
  | .app i e, ρ, st => match ρ[i]? with
    | some (some (.loc n)) => (match st[n]? with
      | some (.lst _) => (ev G e ρ st).sr ρ fun v st => (fr G.io v st).sr ρ fun d st => (match st[n]? with
        | some (.lst ds) => if ds.length < LIM then .nx ρ (st.set n (.lst (ds ++ [d]))) else .stuck
        | _ => .stuck)
      | _ => .stuck)
    | _ => .stuck
  | .exp e, ρ, st => (ev G e ρ st).sr ρ fun _ st => .nx ρ st
  | .if_ c a b, ρ, st => (ev G c ρ st).sr ρ fun x st => match x with
    | .fz (.bl true) => exs G a ρ st
    | .fz (.bl false) => exs G b ρ st
    | _ => .stuck
  | .whl c b, ρ, st => whileS (ev G c) (exs G b) ρ st
  | .for_ t it b, ρ, st => (evI G it ρ st).sr ρ fun I st => pickS (I.size st) fun n => forLoop I (fun d ρ st => pickS (asgT t (.fz d) ρ st) fun ρ => exs G b ρ st) n 0 ρ st
  | .ret e, ρ, st => (ev G e ρ st).sr ρ fun v st => (fr G.io v st).sr ρ fun d st => .rt d st
  | .retl e, ρ, st => (ev G e ρ st).sr ρ fun v st => match v with
    | .loc n => if G.io ≤ n then (match st[n]? with
      | some (.lst ds) => .rtl ds st
      | _ => .stuck) else .stuck
    | _ => .stuck
  | .dead, _, _ => .stuck
  | .retn, _, st => .rt .non st
  | .pass, ρ, st => .nx ρ st
  | .brk, ρ, st => .bk ρ st
  | .cnt, ρ, st => .ct ρ st
  | .rais c, ρ, st => .exc ⟨c, []⟩ ρ st
  | .raisf c f e, ρ, st => (ev G e ρ st).sr ρ fun v st => (fr G.io v st).sr ρ fun d st => .exc ⟨c, [(f, d)]⟩ ρ st
  | .try_ b hs, ρ, st => match exs G b ρ st with
    | .exc x ρ st => exh G hs x ρ st
    | r => r
noncomputable def exs (G : Gam) : Sts → Slots → Store → SR
  | .nil, ρ, st => .nx ρ st
  | .cons s ss, ρ, st => (ex G s ρ st).bind fun ρ st => exs G ss ρ st
noncomputable def exh (G : Gam) : Hds → XD → Slots → Store → SR
  | .nil, x, ρ, st => .exc x ρ st
  | .cons cs _ as_ b hs, x, ρ, st => match hitS G.exm x.cls cs with
    | some true => endH as_ (exs G b (begH as_ x ρ) st)
    | some false => exh G hs x ρ st
    | none => .stuck
end

/-! ### a def -/
structure Def where
  n : Nat
  body : Sts
def contsOf : List Arg → List Cont
  | [] => []
  | .mu c :: as => c :: contsOf as
  | .fz _ :: as => contsOf as
def slotsOf : Nat → List Arg → Slots
  | _, [] => []
  | i, .mu _ :: as => some (.loc i) :: slotsOf (i + 1) as
  | i, .fz d :: as => some (.fz d) :: slotsOf i as
noncomputable def runDef (G : Gam) (d : Def) (args : List Arg) : FRes :=
  match exs { G with io := (contsOf args).length } d.body (slotsOf 0 args ++ List.replicate (d.n - args.length) none) (contsOf args) with
  | .nx _ st => .ok .non (st.take (contsOf args).length)
  | .rt d st => .ok d (st.take (contsOf args).length)
  | .rtl ds st => .okl ds (st.take (contsOf args).length)
  | .exc x _ st => .exc x (st.take (contsOf args).length)
  | _ => .stuck
end PD

/-! PD3 -/
set_option Elab.async false
set_option linter.all false
set_option maxRecDepth 100000
set_option maxHeartbeats 4000000
/-! PD: the state's relation kept by the store's deeds. -/
namespace PD
open PySem PySem.Spec PyProof.Rows L2

/-- a step of the ghost and the heap -/
structure Step (g : Gh) (H : Hp) (g' : Gh) (H' : Hp) : Prop where
  le : g.le g'
  frame : ∀ b o, H b = some o → b ∉ g.A → H' b = some o
  freshF : ∀ b, g'.F b ≠ none → g.F b ≠ none ∨ H b = none ∨ b ∈ g.A
  freshA : ∀ b, b ∈ g'.A → b ∈ g.A ∨ H b = none
theorem Step.refl (g : Gh) (H : Hp) : Step g H g H := ⟨Gh.le.refl g, fun _ _ e _ => e, fun _ h => .inl h, fun _ h => .inl h⟩
theorem Step.trans {g0 g1 g2 : Gh} {H0 H1 H2 : Hp} (a : Step g0 H0 g1 H1) (b : Step g1 H1 g2 H2) : Step g0 H0 g2 H2 where
  le := a.le.trans b.le
  frame := fun c o e h => by
    refine b.frame c o (a.frame c o e h) fun hc => ?_
    rcases a.freshA c hc with q | q
    · exact h q
    · rw [e] at q; cases q
  freshF := fun c h => by
    rcases b.freshF c h with q | q | q
    · exact a.freshF c q
    · cases e : H0 c with
      | none => exact .inr (.inl rfl)
      | some o =>
        by_cases hc : c ∈ g0.A
        · exact .inr (.inr hc)
        · rw [a.frame c o e hc] at q; cases q
    · rcases a.freshA c q with r | r
      · exact .inr (.inr r)
      · exact .inr (.inl r)
  freshA := fun c h => by
    rcases b.freshA c h with q | q
    · exact a.freshA c q
    · cases e : H0 c with
      | none => exact .inr rfl
      | some o =>
        by_cases hc : c ∈ g0.A
        · exact .inl hc
        · rw [a.frame c o e hc] at q; cases q

section
variable {B : Bs} {g : Gh} {H : Hp} {σ : L2.St} {ρ : Slots} {st : Store}

theorem getA {A : List Addr} (h : A.Nodup) {i j : Nat} {a : Addr} (e1 : A[i]? = some a) (e2 : A[j]? = some a) : i = j := by
  have h1 := (List.getElem?_eq_some_iff.mp e1)
  have h2 := (List.getElem?_eq_some_iff.mp e2)
  obtain ⟨l1, q1⟩ := h1
  obtain ⟨l2, q2⟩ := h2
  exact (List.getElem_inj h).mp (q1.trans q2.symm)

theorem ER.fresh0 (r : ER B g H σ ρ st) {p : Addr} (h : H p = none) : g.F p = none ∧ p ∉ g.A ∧ B.H0 p = none ∧ p ∉ B.lk := by
  have h1 : g.F p = none := r.le.free h
  have h2 : p ∉ g.A := fun hp => by
    obtain ⟨i, hi⟩ := List.getElem?_of_mem hp
    exact r.there i p hi h
  have h3 : p ∉ B.lk := fun hp => (r.lkd p hp).1 h1
  refine ⟨h1, h2, ?_, h3⟩
  cases e : B.H0 p with
  | none => rfl
  | some o =>
    have := r.keep p o e (fun hp => h2 (r.io.subset hp)) h3
    rw [h] at this; cases this

/-- b is a list that may be changed now -/
def Live (g : Gh) (st : Store) (b : Addr) : Prop := ∃ (i : Nat) (c : Cont), g.A[i]? = some b ∧ st[i]? = some c ∧ c.live = true
theorem ContR.mut {R : RC} {F H : Hp} {a : Addr} {c : Cont} (r : ContR R F H a c) (hc : c.live = true) : (∃ xs, H a = some (.lst xs)) ∨ ∃ kvs, H a = some (.dK kvs) := by
  cases c with
  | lst ds => obtain ⟨_, xs, e, _⟩ := r; exact .inl ⟨xs, e⟩
  | dct ks ds => obtain ⟨_, xs, e, _⟩ := r; exact .inr ⟨xs, e⟩
  | fz d => cases hc

/-- the state goes on: the ghost's F and A grow, the heap changes at live lists alone -/
theorem ER.next (r : ER B g H σ ρ st) {g' : Gh} {H' : Hp} {st' : Store} (hle : g.le g') (le : Le g'.F H')
    (fresh : ∀ b, g'.F b ≠ none → g.F b ≠ none ∨ B.H0 b = none) (keep : ∀ b o, H b = some o → Live g st b ∨ H' b = some o)
    (hlen : g'.A.length = st'.length) (hnd : g'.A.Nodup) (hlive : ∀ (i : Nat) (c : Cont), i < B.io.length → st'[i]? = some c → c.live = true)
    (hown : ∀ (i : Nat) (a : Addr), g.A.length ≤ i → g'.A[i]? = some a → B.H0 a = none)
    (hthere : ∀ (i : Nat) (a : Addr), g'.A[i]? = some a → H' a ≠ none)
    (hc : ∀ (i : Nat) (a : Addr) (c : Cont), g'.A[i]? = some a → st'[i]? = some c → ContR B.R g'.F H' a c) : ER B g' H' σ ρ st' where
  same0 := r.same0.trans hle.F
  le := le
  fresh := fun b h => by
    rcases fresh b h with q | q
    · exact r.fresh b q
    · exact .inr q
  keep := fun b o e hio hlk => by
    have h1 := r.keep b o e hio hlk
    rcases keep b o h1 with ⟨i, c, hA, hs, hl⟩ | q
    · by_cases hi : i < B.io.length
      · obtain ⟨t, ht⟩ := r.io
        have : B.io[i]? = some b := by
          rw [← ht, List.getElem?_append_left hi] at hA; exact hA
        exact absurd (List.mem_of_getElem? this) hio
      · have := r.own i b (by omega) hA
        rw [e] at this; cases this
    · exact q
  lkd := fun b hb => by
    obtain ⟨h1, ob, u, h2, h3⟩ := r.lkd b hb
    refine ⟨fun z => ?_, ob, u, ?_, h3⟩
    · cases e : g.F b with
      | none => exact h1 e
      | some o => rw [hle.F b o e] at z; cases z
    · rcases keep b _ h2 with ⟨i, c, hA, hs, hl⟩ | q
      · rcases (r.conts i b c hA hs).mut hl with ⟨xs, z⟩ | ⟨xs, z⟩
        · rw [h2] at z; cases z
        · rw [h2] at z; cases z
      · exact q
  len := hlen
  nodup := hnd
  io := r.io.trans hle.A
  iolive := hlive
  own := fun i a hi e => by
    by_cases h : i < g.A.length
    · obtain ⟨t, ht⟩ := hle.A
      rw [← ht, List.getElem?_append_left h] at e
      exact r.own i a hi e
    · exact hown i a (by omega) e
  there := hthere
  conts := hc
  slen := r.slen
  slots := fun i o v e1 e2 => (r.slots i o v e1 e2).up hle

/-- nothing but what stands still grows: a new object that stands still at p -/
theorem ER.lay (r : ER B g H σ ρ st) {p : Addr} {o : HO} (h : H p = none) : ER B ⟨upd g.F p o, g.A⟩ (upd H p o) σ ρ st ∧ Step g H ⟨upd g.F p o, g.A⟩ (upd H p o) := by
  obtain ⟨h1, h2, h3, h4⟩ := r.fresh0 h
  have hF : Same g.F (upd g.F p o) := Same.upd h1
  have hH : Same H (upd H p o) := Same.upd h
  have neA : ∀ (i : Nat) (a : Addr), g.A[i]? = some a → a ≠ p := fun i a e z => h2 (by rw [← z]; exact List.mem_of_getElem? e)
  refine ⟨r.next ⟨hF, List.prefix_refl _⟩ (fun a u e => ?_) (fun b hb => ?_) (fun b u e => .inr (hH b u e)) r.len r.nodup r.iolive (fun i a hi e => ?_) (fun i a e => ?_) fun i a c e1 e2 => ?_, ⟨⟨hF, List.prefix_refl _⟩, fun b u e _ => hH b u e, fun b hb => ?_, fun b hb => .inl hb⟩⟩
  · by_cases ha : a = p
    · subst ha
      have e' : upd g.F a o a = some u := e
      rw [upd_same] at e'
      exact .inl (by rw [upd_same]; exact e')
    · have e' : upd g.F p o a = some u := e
      rw [upd_ne ha] at e'
      rw [upd_ne ha]
      exact r.le a u e'
  · by_cases ha : b = p
    · exact .inr (by rw [ha]; exact h3)
    · have hb' : upd g.F p o b ≠ none := hb
      rw [upd_ne ha] at hb'
      exact .inl hb'
  · have := (List.getElem?_eq_some_iff.mp e).1
    exact absurd this (by simp only; omega)
  · have := r.there i a e
    rw [upd_ne (neA i a e)]; exact this
  · refine (r.conts i a c e1 e2).F hF (fun hl => ?_) (fun _ => upd_ne (neA i a e1))
    show upd g.F p o a = none
    rw [upd_ne (neA i a e1)]
    exact (r.conts i a c e1 e2).out hl
  · by_cases ha : b = p
    · exact .inr (.inl (by rw [ha]; exact h))
    · have hb' : upd g.F p o b ≠ none := hb
      rw [upd_ne ha] at hb'
      exact .inl hb'

/-- a new list or dict of the store at p -/
theorem ER.alloc (r : ER B g H σ ρ st) {p : Addr} {o : HO} {c : Cont} (h : H p = none) (hl : c.live = true) (hc : ∀ H', H' p = some o → ContR B.R g.F H' p c) :
    ER B ⟨g.F, g.A ++ [p]⟩ (upd H p o) σ ρ (st ++ [c]) ∧ Step g H ⟨g.F, g.A ++ [p]⟩ (upd H p o) := by
  obtain ⟨h1, h2, h3, h4⟩ := r.fresh0 h
  have hH : Same H (upd H p o) := Same.upd h
  have neA : ∀ (i : Nat) (a : Addr), g.A[i]? = some a → a ≠ p := fun i a e z => h2 (by rw [← z]; exact List.mem_of_getElem? e)
  have lastA : ∀ (i : Nat) (a : Addr), (g.A ++ [p])[i]? = some a → g.A[i]? = some a ∨ (i = g.A.length ∧ a = p) := fun i a e => by
    by_cases hi : i < g.A.length
    · rw [List.getElem?_append_left hi] at e; exact .inl e
    · rw [List.getElem?_append_right (by omega)] at e
      have hi2 : i - g.A.length = 0 := by
        have := (List.getElem?_eq_some_iff.mp e).1
        simp at this; omega
      rw [hi2] at e
      simp at e
      exact .inr ⟨by omega, e.symm⟩
  refine ⟨r.next ⟨Same.refl _, List.prefix_append _ _⟩ (fun a u e => ?_) (fun b hb => .inl hb) (fun b u e => .inr (hH b u e)) ?_ ?_ (fun i c' hi e => ?_) (fun i a hi e => ?_) (fun i a e => ?_) fun i a c' e1 e2 => ?_, ⟨⟨Same.refl _, List.prefix_append _ _⟩, fun b u e _ => hH b u e, fun b hb => .inl hb, fun b hb => ?_⟩⟩
  · exact (r.le.up hH) a u e
  · simp [r.len]
  · refine List.nodup_append.mpr ⟨r.nodup, by simp, fun x hx y hy => ?_⟩
    have : y = p := by simpa using hy
    subst this
    intro z; subst z; exact h2 hx
  · by_cases h' : i < st.length
    · rw [List.getElem?_append_left h'] at e
      exact r.iolive i c' hi e
    · rw [List.getElem?_append_right (by omega)] at e
      have := (List.getElem?_eq_some_iff.mp e).1
      simp at this
      have hz : i - st.length = 0 := by omega
      rw [hz] at e
      simp at e
      rw [← e]; exact hl
  · rcases lastA i a e with q | ⟨_, q⟩
    · have := (List.getElem?_eq_some_iff.mp q).1
      exact absurd this (by omega)
    · rw [q]; exact h3
  · rcases lastA i a e with q | ⟨_, q⟩
    · rw [upd_ne (neA i a q)]; exact r.there i a q
    · rw [q, upd_same]; intro z; cases z
  · rcases lastA i a e1 with q | ⟨qi, q⟩
    · have hi : i < st.length := by
        have := (List.getElem?_eq_some_iff.mp q).1
        rw [r.len] at this; exact this
      rw [List.getElem?_append_left hi] at e2
      exact (r.conts i a c' q e2).F (Same.refl _) (fun hl' => (r.conts i a c' q e2).out hl') (fun _ => upd_ne (neA i a q))
    · have hi : i = st.length := by rw [qi, r.len]
      subst hi
      rw [List.getElem?_append_right (Nat.le_refl _)] at e2
      simp at e2
      rw [← e2, q]
      exact hc _ upd_same
  · rcases List.mem_append.mp hb with q | q
    · exact .inl q
    · have : b = p := by simpa using q
      exact .inr (by rw [this]; exact h)

theorem setAt {α : Type} {l : List α} {i j : Nat} {x y : α} (h : (l.set i x)[j]? = some y) : (i ≠ j ∧ l[j]? = some y) ∨ (i = j ∧ x = y) := by
  by_cases hij : i = j
  · subst hij
    rw [List.getElem?_set_self'] at h
    cases e : l[i]? with
    | none => rw [e] at h; cases h
    | some z =>
      rw [e] at h
      simp at h
      exact .inr ⟨rfl, h⟩
  · rw [List.getElem?_set_ne hij] at h
    exact .inl ⟨hij, h⟩

/-- a live list of the store is changed -/
theorem ER.put (r : ER B g H σ ρ st) {n : Nat} {a : Addr} {c0 c : Cont} {o : HO} (hA : g.A[n]? = some a) (hs : st[n]? = some c0) (h0 : c0.live = true) (hl : c.live = true) (hc : ∀ H', H' a = some o → ContR B.R g.F H' a c) :
    ER B g (upd H a o) σ ρ (st.set n c) ∧ Step g H g (upd H a o) := by
  have out := (r.conts n a c0 hA hs).out h0
  refine ⟨r.next (Gh.le.refl g) (fun b u e => ?_) (fun b hb => .inl hb) (fun b u e => ?_) (by rw [List.length_set]; exact r.len) r.nodup (fun i c' hi e => ?_) (fun i b hi e => ?_) (fun i b e => ?_) fun i b c' e1 e2 => ?_, ⟨Gh.le.refl g, fun b u e hb => ?_, fun b hb => .inl hb, fun b hb => .inl hb⟩⟩
  · have hb : b ≠ a := fun z => by rw [z, out] at e; cases e
    rw [upd_ne hb]
    exact r.le b u e
  · by_cases hb : b = a
    · subst hb
      exact .inl ⟨n, c0, hA, hs, h0⟩
    · exact .inr (by rw [upd_ne hb]; exact e)
  · rcases setAt e with ⟨_, q⟩ | ⟨_, q⟩
    · exact r.iolive i c' hi q
    · rw [← q]; exact hl
  · have := (List.getElem?_eq_some_iff.mp e).1
    exact absurd this (by omega)
  · by_cases hb : b = a
    · rw [hb, upd_same]; intro z; cases z
    · rw [upd_ne hb]; exact r.there i b e
  · rcases setAt e2 with ⟨hn, q⟩ | ⟨hn, q⟩
    · have hb : b ≠ a := fun z => hn (getA r.nodup hA (by rw [← z]; exact e1))
      exact (r.conts i b c' e1 q).F (Same.refl _) (fun hl' => (r.conts i b c' e1 q).out hl') (fun _ => upd_ne hb)
    · subst hn
      rw [hA] at e1; cases e1
      rw [← q]
      exact hc _ upd_same
  · have hb' : b ≠ a := fun z => hb (by rw [z]; exact List.mem_of_getElem? hA)
    rw [upd_ne hb']; exact e

/-- a live list of the store stands still from now on -/
theorem ER.still (r : ER B g H σ ρ st) {n : Nat} {a : Addr} {c : Cont} (hA : g.A[n]? = some a) (hs : st[n]? = some c) (hl : c.live = true) (hn : B.io.length ≤ n) :
    ∃ F', ER B ⟨F', g.A⟩ H σ ρ (st.set n (.fz c.d)) ∧ Step g H ⟨F', g.A⟩ H ∧ Rep B.R F' (.ref a) c.d := by
  have q := r.conts n a c hA hs
  have out := q.out hl
  have h0 := r.own n a hn hA
  obtain ⟨o, ho⟩ : ∃ o, H a = some o := by
    cases e : H a with
    | none => exact absurd e (r.there n a hA)
    | some o => exact ⟨o, rfl⟩
  have hF : Same g.F (upd g.F a o) := Same.upd out
  have rep : Rep B.R (upd g.F a o) (.ref a) c.d := by
    cases c with
    | lst ds =>
      obtain ⟨_, xs, e, l⟩ := q
      rw [ho] at e; cases e
      exact .lst (SqL.of upd_same) (l.mono hF)
    | dct ks ds =>
      obtain ⟨_, kvs, e, k, l⟩ := q
      rw [ho] at e; cases e
      exact .dct upd_same k rfl (l.mono hF)
    | fz d => cases hl
  have neA : ∀ (i : Nat) (b : Addr), g.A[i]? = some b → i ≠ n → b ≠ a := fun i b e hi z => hi (getA r.nodup (by rw [← z]; exact e) hA)
  refine ⟨upd g.F a o, r.next ⟨hF, List.prefix_refl _⟩ (fun b u e => ?_) (fun b hb => ?_) (fun b u e => .inr e) (by rw [List.length_set]; exact r.len) r.nodup (fun i c' hi e => ?_) (fun i b hi e => ?_) r.there fun i b c' e1 e2 => ?_, ⟨⟨hF, List.prefix_refl _⟩, fun b u e _ => e, fun b hb => ?_, fun b hb => .inl hb⟩, rep⟩
  · have e' : upd g.F a o b = some u := e
    by_cases hb : b = a
    · rw [hb, upd_same] at e'; cases e'
      exact .inl (by rw [hb]; exact ho)
    · rw [upd_ne hb] at e'
      exact r.le b u e'
  · have hb' : upd g.F a o b ≠ none := hb
    by_cases hba : b = a
    · exact .inr (by rw [hba]; exact h0)
    · rw [upd_ne hba] at hb'; exact .inl hb'
  · rcases setAt e with ⟨_, q⟩ | ⟨hz, _⟩
    · exact r.iolive i c' hi q
    · omega
  · have := (List.getElem?_eq_some_iff.mp e).1
    exact absurd this (by simp only; omega)
  · rcases setAt e2 with ⟨hz, q2⟩ | ⟨hz, q2⟩
    · have hb := neA i b e1 (Ne.symm hz)
      refine (r.conts i b c' e1 q2).F hF (fun hl' => ?_) (fun _ => rfl)
      show upd g.F a o b = none
      rw [upd_ne hb]
      exact (r.conts i b c' e1 q2).out hl'
    · subst hz
      have e1' : g.A[n]? = some b := e1
      rw [hA] at e1'; cases e1'
      rw [← q2]
      exact rep
  · have hb' : upd g.F a o b ≠ none := hb
    by_cases hba : b = a
    · exact .inr (.inr (by rw [hba]; exact List.mem_of_getElem? hA))
    · rw [upd_ne hba] at hb'; exact .inl hb'

/-! ### what a value is -/
theorem ER.stAt (r : ER B g H σ ρ st) {n : Nat} {a : Addr} (h : g.A[n]? = some a) : ∃ c, st[n]? = some c := by
  have := (List.getElem?_eq_some_iff.mp h).1
  rw [r.len] at this
  exact ⟨_, List.getElem?_eq_getElem this⟩
theorem ER.atA (r : ER B g H σ ρ st) {n : Nat} {c : Cont} (h : st[n]? = some c) : ∃ a, g.A[n]? = some a := by
  have := (List.getElem?_eq_some_iff.mp h).1
  rw [← r.len] at this
  exact ⟨_, List.getElem?_eq_getElem this⟩
/-- what may be read at a value -/
inductive RdV (R : RC) (F H : Hp) : V → D → Prop
  | rep {x : V} {d : D} : Rep R F x d → RdV R F H x d
  | lst {a : Addr} {xs : List V} {ds : List D} : F a = none → H a = some (.lst xs) → RepL R F xs ds → RdV R F H (.ref a) (.lst ds)
  | dct {a : Addr} {kvs : List (Key × V)} {ks : List Key} {ds : List D} : F a = none → H a = some (.dK kvs) → kvs.map (·.1) = ks → RepL R F (kvs.map (·.2)) ds → RdV R F H (.ref a) (.dct ks ds)
theorem ER.rd (r : ER B g H σ ρ st) {x : V} {v : Val} {d : D} (h : ValR B.R B.ex g.F g.A x v) (e : dr st v = some d) : RdV B.R g.F H x d := by
  cases v with
  | fz d' => cases e; exact .rep h
  | loc n =>
    obtain ⟨a, hA, rfl⟩ := h
    have e' : (match st[n]? with | some c => some c.d | none => none) = some d := e
    cases hs : st[n]? with
    | none => rw [hs] at e'; cases e'
    | some c =>
      rw [hs] at e'
      cases e'
      have q := r.conts n a c hA hs
      cases c with
      | lst ds => obtain ⟨o, xs, hx, l⟩ := q; exact .lst o hx l
      | dct ks ds => obtain ⟨o, kvs, hx, k, l⟩ := q; exact .dct o hx k l
      | fz d => exact .rep q
  | exn x => cases e
theorem RdV.int {R : RC} {F H : Hp} {x : V} {i : Int} (h : RdV R F H x (.int i)) : x = .int i := by
  cases h with
  | rep h => cases h; rfl
theorem RdV.str {R : RC} {F H : Hp} {x : V} {s : Str} (h : RdV R F H x (.str s)) : x = .str s := by
  cases h with
  | rep h => cases h; rfl
theorem RdV.bl {R : RC} {F H : Hp} {x : V} {b : Bool} (h : RdV R F H x (.bl b)) : x = .bl b := by
  cases h with
  | rep h => cases h; rfl
theorem RdV.non {R : RC} {F H : Hp} {x : V} (h : RdV R F H x .non) : x = .non := by
  cases h with
  | rep h => cases h; rfl
theorem RdV.asL {R : RC} {F H : Hp} {x : V} {ds : List D} (l : Le F H) (h : RdV R F H x (.lst ds)) : ∃ a xs, x = .ref a ∧ SqL R.K H a xs ∧ RepL R F xs ds := by
  cases h with
  | rep h => cases h with
    | lst s k => exact ⟨_, _, rfl, l.sqL s, k⟩
  | lst _ h k => exact ⟨_, _, rfl, SqL.of h, k⟩
theorem RdV.asT {R : RC} {F H : Hp} {x : V} {ds : List D} (l : Le F H) (h : RdV R F H x (.tup ds)) : ∃ a xs, x = .ref a ∧ SqT R.K H a xs ∧ RepL R F xs ds := by
  cases h with
  | rep h => cases h with
    | tup s k => exact ⟨_, _, rfl, l.sqT s, k⟩

/-- a value is handed on -/
theorem ER.fr (r : ER B g H σ ρ st) {x : V} {v : Val} {d : D} {st' : Store} (h : ValR B.R B.ex g.F g.A x v) (e : fr B.io.length v st = .ok d st') :
    ∃ F', ER B ⟨F', g.A⟩ H σ ρ st' ∧ Step g H ⟨F', g.A⟩ H ∧ Rep B.R F' x d := by
  cases v with
  | fz d' => cases e; exact ⟨g.F, r, Step.refl _ _, h⟩
  | loc n =>
    obtain ⟨a, hA, rfl⟩ := h
    obtain ⟨c, hs⟩ := r.stAt hA
    have e' : (match st[n]? with | some (.fz d) => Res.ok d st | some c => if B.io.length ≤ n then .ok c.d (st.set n (.fz c.d)) else .stuck | none => .stuck) = .ok d st' := e
    rw [hs] at e'
    have live : c.live = true → (if B.io.length ≤ n then Res.ok c.d (st.set n (.fz c.d)) else .stuck) = .ok d st' → ∃ F', ER B ⟨F', g.A⟩ H σ ρ st' ∧ Step g H ⟨F', g.A⟩ H ∧ Rep B.R F' (.ref a) d := fun hl q => by
      by_cases hn : B.io.length ≤ n
      · rw [if_pos hn] at q
        cases q
        exact r.still hA hs hl hn
      · rw [if_neg hn] at q; cases q
    cases c with
    | lst ds => exact live rfl e'
    | dct ks ds => exact live rfl e'
    | fz d0 =>
      cases e'
      exact ⟨g.F, r, Step.refl _ _, r.conts n a _ hA hs⟩
  | exn x => cases e
theorem fr_no_exc {io : Nat} {v : Val} {st st' : Store} {x : XD} : PD.fr io v st ≠ .exc x st' := by
  intro h
  cases v with
  | fz d => cases h
  | loc n =>
    have e' : (match st[n]? with | some (.fz d) => Res.ok d st | some c => if io ≤ n then .ok c.d (st.set n (.fz c.d)) else .stuck | none => .stuck) = .exc x st' := h
    cases hs : st[n]? with
    | none => rw [hs] at e'; cases e'
    | some c =>
      rw [hs] at e'
      cases c with
      | fz d => cases e'
      | lst ds =>
        by_cases hn : io ≤ n
        · simp only [if_pos hn] at e'; cases e'
        · simp only [if_neg hn] at e'; cases e'
      | dct ks ds =>
        by_cases hn : io ≤ n
        · simp only [if_pos hn] at e'; cases e'
        · simp only [if_neg hn] at e'; cases e'
  | exn x => cases h
end
end PD

/-! PD4 -/
set_option Elab.async false
set_option linter.all false
set_option maxRecDepth 100000
set_option maxHeartbeats 4000000
/-! PD: what must hold behind a result; the operations. -/
namespace PD
open PySem PySem.Spec PyProof.Rows L2

theorem lim_eq : LIM = sizeLine := by rw [sizeLine_eq] <;> rfl

/-- what must hold behind a result: k of a value, W of an exception -/
def Pst (B : Bs) (W : WX) (g : Gh) (H : Hp) (σ : L2.St) (ρ : Slots) {α : Type} (r : Res α) (k : α → Store → Gh → Hp → Prop) : Prop := match r with
  | .ok a st' => ∀ g' H', ER B g' H' σ ρ st' → Step g H g' H' → k a st' g' H'
  | .exc x st' => ∀ g' H' cls dd, ER B g' H' σ ρ st' → Step g H g' H' → XR B.R g'.F x cls dd → W cls dd σ H'
  | .stuck => False
abbrev kV (B : Bs) (Q : VK) : Val → Store → Gh → Hp → Prop := fun v _ g' H' => ∀ x, ValR B.R B.ex g'.F g'.A x v → Q x H'
def tE (B : Bs) (W : WX) (c : Slots → Store → Res Val) : TE := fun σ H Q => ∃ g ρ st, ER B g H σ ρ st ∧ Pst B W g H σ ρ (c ρ st) (kV B Q)
/-- .. of a test -/
def tT (B : Bs) (W : WX) (c : Slots → Store → Res Val) : TT := fun σ H Q => ∃ g ρ st, ER B g H σ ρ st ∧ Pst B W g H σ ρ (c ρ st) fun v _ _ H' => ∃ b, v = .fz (.bl b) ∧ Q b H'
inductive ValsR (R : RC) (X : ExH) (F : Hp) (A : List Addr) : List V → List Val → Prop
  | nil : ValsR R X F A [] []
  | cons {x : V} {xs : List V} {v : Val} {vs : List Val} : ValR R X F A x v → ValsR R X F A xs vs → ValsR R X F A (x :: xs) (v :: vs)
def tA' (B : Bs) (W : WX) (c : Slots → Store → Res (List Val)) : TA := fun σ H Q => ∃ g ρ st, ER B g H σ ρ st ∧ Pst B W g H σ ρ (c ρ st) fun vs _ g' H' => ∀ xs, ValsR B.R B.ex g'.F g'.A xs vs → Q xs H'

section
variable {B : Bs} {W : WX} {g : Gh} {H : Hp} {σ : L2.St} {ρ : Slots} {st : Store} {α β : Type} {Q : VK}

theorem Pst.imp {r : Res α} {k k' : α → Store → Gh → Hp → Prop} (h : Pst B W g H σ ρ r k) (i : ∀ a st' g' H', ER B g' H' σ ρ st' → Step g H g' H' → k a st' g' H' → k' a st' g' H') : Pst B W g H σ ρ r k' := by
  cases r with
  | ok a st' => exact fun g' H' e s => i a st' g' H' e s (h g' H' e s)
  | exc x st' => exact h
  | stuck => exact h
theorem Pst.bind {r : Res α} {f : α → Store → Res β} {k : β → Store → Gh → Hp → Prop} (h : Pst B W g H σ ρ (r.bind f) k) : Pst B W g H σ ρ r (fun a st1 g1 H1 => Pst B W g1 H1 σ ρ (f a st1) k) := by
  cases r with
  | ok a st1 =>
    intro g1 H1 e1 s1
    have h' : Pst B W g H σ ρ (f a st1) k := h
    cases q : f a st1 with
    | ok b st2 =>
      rw [q] at h'
      exact fun g2 H2 e2 s2 => h' g2 H2 e2 (s1.trans s2)
    | exc x st2 =>
      rw [q] at h'
      exact fun g2 H2 cls dd e2 s2 xr => h' g2 H2 cls dd e2 (s1.trans s2) xr
    | stuck =>
      rw [q] at h'
      exact h'
  | exc x st1 => exact h
  | stuck => exact h
theorem Pst.bindE {r : Res α} {f : α → Store → Res β} {k : β → Store → Gh → Hp → Prop} (h : Pst B W g H σ ρ (r.bind f) k) : Pst B W g H σ ρ r (fun a st1 g1 H1 => r = .ok a st1 ∧ Pst B W g1 H1 σ ρ (f a st1) k) := by
  have h2 := h.bind
  cases r with
  | ok a st1 => exact fun g1 H1 e1 s1 => ⟨rfl, h2 g1 H1 e1 s1⟩
  | exc x st1 => exact h2
  | stuck => exact h2
theorem Pst.pick {o : Option α} {f : α → Res β} {k : β → Store → Gh → Hp → Prop} (h : Pst B W g H σ ρ (pick o f) k) : ∃ a, o = some a ∧ Pst B W g H σ ρ (f a) k := by
  cases o with
  | none => exact h.elim
  | some a => exact ⟨a, rfl, h⟩
theorem Pst.ok {a : α} {k : α → Store → Gh → Hp → Prop} (h : Pst B W g H σ ρ (.ok a st) k) (e : ER B g H σ ρ st) : k a st g H := h g H e (Step.refl _ _)
theorem Pst.here {g' : Gh} {H' : Hp} {st' : Store} {a : α} {k : α → Store → Gh → Hp → Prop} (h : Pst B W g H σ ρ (.ok a st') k) (e : ER B g' H' σ ρ st') (s : Step g H g' H') : k a st' g' H' := h g' H' e s

/-! ### new values -/
theorem Pst.same {d : D} {x : V} (h : Pst B W g H σ ρ (.ok (.fz d) st) (kV B Q)) (e : ER B g H σ ρ st) (r : Rep B.R g.F x d) : Q x H := h.ok e x r
theorem Pst.newt {ds : List D} {xs : List V} (h : Pst B W g H σ ρ (.ok (.fz (.tup ds)) st) (kV B Q)) (e : ER B g H σ ρ st) (r : RepL B.R g.F xs ds) {p : Addr} (hp : H p = none) : Q (.ref p) (upd H p (.tup xs)) := by
  obtain ⟨e', s⟩ := e.lay (o := .tup xs) hp
  exact h.here e' s _ (.tup (SqT.of upd_same) (r.mono s.le.F))
theorem Pst.newl {ds : List D} {xs : List V} (h : Pst B W g H σ ρ (.ok (.loc st.length) (st ++ [.lst ds])) (kV B Q)) (e : ER B g H σ ρ st) (r : RepL B.R g.F xs ds) {p : Addr} (hp : H p = none) : Q (.ref p) (upd H p (.lst xs)) := by
  obtain ⟨e', s⟩ := e.alloc (c := .lst ds) (o := .lst xs) hp rfl fun H' hH => ⟨(e.fresh0 hp).1, xs, hH, r⟩
  exact h.here e' s _ ⟨p, by rw [← e.len]; simp, rfl⟩
end

/-! ### operations by values -/
section
variable {X : Cx}
theorem opr_or {f : Value → Value → Sem Value} {r r' : R2} (h : OpR X f r) (h' : OpR X f r') : OpR X f (fun x y H Q => r x y H Q ∨ r' x y H Q) := by
  intro pins s σ H x y v u Q I rx ry q
  rcases q with q | q
  · exact h pins s σ H x y v u Q I rx ry q
  · exact h' pins s σ H x y v u Q I rx ry q
theorem opr_of {f : Value → Value → Sem Value} {r r' : R2} (h : OpR X f r) (i : ∀ x y H Q, r' x y H Q → r x y H Q) : OpR X f r' := fun pins s σ H x y v u Q I rx ry q => h pins s σ H x y v u Q I rx ry (i _ _ _ _ q)
/-- list + list, wherever they stand -/
def rCatL (K : PySem.W.Frag) : R2 := fun x y H Q => ∃ a b xs ys, x = .ref a ∧ y = .ref b ∧ SqL K H a xs ∧ SqL K H b ys ∧ xs.length + ys.length ≤ sizeLine ∧ ∀ p, H p = none → Q (.ref p) (upd H p (.lst (xs ++ ys)))
theorem op_catL : OpR X (binaryOp .Add) (rCatL X.K) := by
  intro pins s σ H x y v u Q I rx ry h
  obtain ⟨a, b, xs, ys, rfl, rfl, ha, hb, hz, q⟩ := h
  cases rx
  cases ry
  obtain ⟨i1, r1, ⟨⟨cls, dd, data, sl⟩, n, ho, hc, hdd, hd⟩, _⟩ := I.list ha
  obtain ⟨i2, r2, ⟨⟨cls2, dd2, data2, sl2⟩, n2, ho2, hc2, hdd2, hd2⟩, _⟩ := I.list hb
  simp only at hc hd hc2 hd2 hdd hdd2
  subst hc hd hc2 hd2 hdd hdd2
  have e : i1.toArray ++ i2.toArray = (i1 ++ i2).toArray := by simp
  refine concat_meets ⟨_, ho, rfl⟩ ⟨_, ho2, rfl⟩ noFill_list_add seq_list_add PySem.F.slot_list_add PySem.F.entry_list_add (PySem.F.args_list_add_2 _ _)
    (list_addW a b i1.toArray i2.toArray n n2 none none sl sl2 (by rw [List.size_toArray, List.size_toArray, ← r1.length, ← r2.length]; exact hz)) ⟨ho, ho2, ?_⟩
  rw [e]
  exact ⟨.ref _, _, I.lnew (t' := s.toks) (r1.append r2) (by rw [List.length_append]; exact hz), rfl, q _ I.fresh⟩
def CMulB (i j : Int) : Prop := mok i j = true
theorem intBits_le (x : Int) : Builtin.Int.intBits x ≤ x.natAbs.log2 + 1 := by
  unfold Builtin.Int.intBits
  split <;> omega
theorem CMulB.ok {i j : Int} (h : CMulB i j) : IntMulOk i j := by
  have h1 := intBits_le i
  have h2 := intBits_le j
  have h3 : i.natAbs.log2 + j.natAbs.log2 < 134217000 := of_decide_eq_true h
  have e : bitsLine = 134217728 := by decide
  unfold IntMulOk
  intro z
  rw [Bool.and_eq_true] at z
  have z2 := z.2
  unfold Builtin.Int.intTooBig at z2
  have z3 := of_decide_eq_true z2
  rw [e] at z3
  omega
theorem op_mulB : OpR X (binaryOp .Mult) (rI CMulB fun i j => .int (i * j)) := opI fun _ _ _ _ _ _ _ hc q => mul_int q hc.ok
def CDivB (i j : Int) : Prop := j ≠ 0 ∧ Builtin.divisionGoesByPylong i j = false
theorem op_fdivB : OpR X (binaryOp .FloorDiv) (rI CDivB fun i j => .int (i.fdiv j)) := opI fun _ _ _ _ _ _ _ hc q => floordiv_int hc.1 q (.inl hc.2)
def CPowB (i j : Int) : Prop := 0 ≤ j ∧ (i.natAbs.log2 + 1) * j.toNat < 134217000
theorem op_powB : OpR X (binaryOp .Pow) (rI CPowB fun i j => .int (i ^ j.toNat)) := opI fun i j _ _ _ _ _ hc q => by
  obtain ⟨h0, h1⟩ := hc
  refine pow_int h0 ?_ q
  have hb := intBits_le i
  have h2 : Builtin.Int.intBits i * j.toNat ≤ (i.natAbs.log2 + 1) * j.toNat := Nat.mul_le_mul_right _ hb
  have h3 : ((Builtin.Int.intBits i * j.toNat : Nat) : Int) ≤ 2 ^ 27 := by
    have : (2 : Int) ^ 27 = 134217728 := by decide
    rw [this]; omega
  have h4 : (j.toNat : Int) = j := Int.toNat_of_nonneg h0
  rw [Int.natCast_mul, h4] at h3
  exact h3
end
def Bop.op : Bop → Operator
  | .add => .Add | .sub => .Sub | .mul => .Mult | .fdv => .FloorDiv | .mod => .Mod | .pow => .Pow
def bopR (K : PySem.W.Frag) : Bop → R2
  | .add => fun x y H Q => (rI0 (fun i j => V.int (i + j))) x y H Q ∨ (∃ i j, x = .str i ∧ y = .str j ∧ i.length + j.length ≤ sizeLine ∧ Q (.str (i ++ j)) H) ∨ rCatL K x y H Q ∨ rCatA K x y H Q
  | .sub => rI0 fun i j => .int (i - j)
  | .mul => rI CMulB fun i j => .int (i * j)
  | .fdv => rI CDivB fun i j => .int (i.fdiv j)
  | .mod => rI (fun _ j => j ≠ 0) fun i j => .int (i.fmod j)
  | .pow => rI CPowB fun i j => .int (i ^ j.toNat)
theorem bop_ok {X : Cx} : ∀ o : Bop, OpR X (binaryOp o.op) (bopR X.K o)
  | .add => opr_or op_add (opr_or op_add_str (opr_or op_catL op_catA))
  | .sub => op_sub
  | .mul => op_mulB
  | .fdv => op_fdivB
  | .mod => op_modN
  | .pow => op_powB
end PD

/-! PD5 -/
set_option Elab.async false
set_option linter.all false
set_option maxRecDepth 100000
set_option maxHeartbeats 4000000
/-! PD: the operations' meanings are the model's. -/
namespace PD
open PySem PySem.Spec PyProof.Rows L2

theorem RdV.tupRep {R : RC} {F H : Hp} {x : V} {ds : List D} (h : RdV R F H x (.tup ds)) : Rep R F x (.tup ds) := by
  cases h with
  | rep h => exact h
mutual
theorem Rep.dp {R : RC} {F H : Hp} (l : Le F H) : ∀ {d : D} {x : V} {p : PyData}, Rep R F x d → pyOf d = some p → Dp R.K H x p
  | .non, _, p, h, e => by cases h; rw [pyOf] at e; cases e; exact .non
  | .bl b, _, p, h, e => by cases h; rw [pyOf] at e; cases e; exact .bl b
  | .int i, _, p, h, e => by cases h; rw [pyOf] at e; cases e; exact .int i
  | .str s, _, p, h, e => by cases h; rw [pyOf] at e; cases e; exact .str s
  | .tup ds, _, p, h, e => by
    cases h with
    | tup s k =>
      rw [pyOf] at e
      cases q : pyOfs ds with
      | none => rw [q] at e; cases e
      | some ps =>
        rw [q] at e; cases e
        exact .tup (l.sqT s) (RepL.dp l k q)
  | .lst ds, _, p, h, e => by
    cases h with
    | lst s k =>
      rw [pyOf] at e
      cases q : pyOfs ds with
      | none => rw [q] at e; cases e
      | some ps =>
        rw [q] at e; cases e
        exact .lst (l.sqL s) (RepL.dp l k q)
  | .dct _ _, _, p, h, e => by rw [pyOf] at e; cases e
  | .obj _ _ _, _, p, h, e => by rw [pyOf] at e; cases e
theorem RepL.dp {R : RC} {F H : Hp} (l : Le F H) : ∀ {ds : List D} {xs : List V} {ps : List PyData}, RepL R F xs ds → pyOfs ds = some ps → DpAll R.K H xs ps
  | [], _, ps, h, e => by cases h; rw [pyOfs] at e; cases e; exact .nil
  | d :: ds, _, ps, h, e => by
    cases h with
    | cons r k =>
      rw [pyOfs] at e
      cases q : pyOf d with
      | none => rw [q] at e; cases e
      | some p =>
        rw [q] at e
        cases q2 : pyOfs ds with
        | none => rw [q2] at e; cases e
        | some ps2 =>
          rw [q2] at e; cases e
          exact .cons (Rep.dp l r q) (RepL.dp l k q2)
end
theorem RdV.dp {R : RC} {F H : Hp} {x : V} {d : D} {p : PyData} (l : Le F H) (h : RdV R F H x d) (e : pyOf d = some p) : Dp R.K H x p := by
  cases h with
  | rep h => exact h.dp l e
  | @lst a xs ds _ hx k =>
    rw [pyOf] at e
    cases q : pyOfs ds with
    | none => rw [q] at e; cases e
    | some ps =>
      rw [q] at e; cases e
      exact .lst (SqL.of hx) (RepL.dp l k q)
  | dct _ _ _ _ => rw [pyOf] at e; cases e

section
variable {B : Bs} {W : WX} {g : Gh} {H : Hp} {σ : L2.St} {ρ : Slots} {st : Store} {Q : VK}

theorem bop_pst (e : ER B g H σ ρ st) (o : Bop) {x y : V} {dx dy : D} (rx : RdV B.R g.F H x dx) (ry : RdV B.R g.F H y dy) (h : Pst B W g H σ ρ (opRes (bopS o dx dy) st) (kV B Q)) : bopR B.R.K o x y H Q := by
  have le := e.le
  cases o with
  | add =>
    cases dx <;> cases dy <;> first
      | exact h.elim
      | skip
    · obtain rfl := rx.int; obtain rfl := ry.int
      exact .inl ⟨_, _, rfl, rfl, h.same e (.int _)⟩
    · obtain rfl := rx.str; obtain rfl := ry.str
      rename_i s t
      have h' : Pst B W g H σ ρ (opRes (if s.length + t.length ≤ LIM then .d (.str (s ++ t)) else .no) st) (kV B Q) := h
      by_cases hz : s.length + t.length ≤ LIM
      · rw [if_pos hz] at h'
        exact .inr (.inl ⟨_, _, rfl, rfl, by rw [← lim_eq]; exact hz, h'.same e (.str _)⟩)
      · rw [if_neg hz] at h'; exact h'.elim
    · rename_i xs ys
      have h' : Pst B W g H σ ρ (opRes (if xs.length + ys.length ≤ LIM then .d (.tup (xs ++ ys)) else .no) st) (kV B Q) := h
      by_cases hz : xs.length + ys.length ≤ LIM
      · rw [if_pos hz] at h'
        have tx := rx.tupRep
        have ty := ry.tupRep
        cases tx with
        | tup sx kx =>
          cases ty with
          | tup sy ky =>
            refine .inr (.inr (.inr ⟨_, _, _, _, rfl, rfl, le.sqT sx, le.sqT sy, ?_, fun z => ?_, fun z1 z2 => ?_, fun _ _ p hp => ?_⟩))
            · rw [kx.length, ky.length, ← lim_eq]; exact hz
            · subst z
              cases kx
              exact h'.same e (.tup sy (by simpa using ky))
            · subst z2
              cases ky
              exact h'.same e (.tup sx (by simpa using kx))
            · exact h'.newt e (kx.append ky) hp
      · rw [if_neg hz] at h'; exact h'.elim
    · rename_i xs ys
      have h' : Pst B W g H σ ρ (opRes (if xs.length + ys.length ≤ LIM then .l (xs ++ ys) else .no) st) (kV B Q) := h
      by_cases hz : xs.length + ys.length ≤ LIM
      · rw [if_pos hz] at h'
        obtain ⟨a, vx, rfl, sx, kx⟩ := rx.asL le
        obtain ⟨b, vy, rfl, sy, ky⟩ := ry.asL le
        refine .inr (.inr (.inl ⟨a, b, vx, vy, rfl, rfl, sx, sy, ?_, fun p hp => ?_⟩))
        · rw [kx.length, ky.length, ← lim_eq]; exact hz
        · exact h'.newl e (kx.append ky) hp
      · rw [if_neg hz] at h'; exact h'.elim
  | sub =>
    cases dx <;> cases dy <;> first
      | exact h.elim
      | skip
    obtain rfl := rx.int; obtain rfl := ry.int
    exact ⟨_, _, rfl, rfl, h.same e (.int _)⟩
  | mul =>
    cases dx <;> cases dy <;> first
      | exact h.elim
      | skip
    obtain rfl := rx.int; obtain rfl := ry.int
    rename_i i j
    have h' : Pst B W g H σ ρ (opRes (if mok i j then .d (.int (i * j)) else .no) st) (kV B Q) := h
    by_cases hz : mok i j = true
    · rw [if_pos hz] at h'
      exact ⟨_, _, rfl, rfl, hz, h'.same e (.int _)⟩
    · rw [if_neg hz] at h'; exact h'.elim
  | fdv =>
    cases dx <;> cases dy <;> first
      | exact h.elim
      | skip
    obtain rfl := rx.int; obtain rfl := ry.int
    rename_i i j
    have h' : Pst B W g H σ ρ (opRes (if j = 0 ∨ Builtin.divisionGoesByPylong i j = true then .no else .d (.int (i.fdiv j))) st) (kV B Q) := h
    by_cases hz : j = 0 ∨ Builtin.divisionGoesByPylong i j = true
    · rw [if_pos hz] at h'; exact h'.elim
    · rw [if_neg hz] at h'
      have h1 : j ≠ 0 := fun z => hz (.inl z)
      have h2 : Builtin.divisionGoesByPylong i j = false := by
        cases q : Builtin.divisionGoesByPylong i j with
        | false => rfl
        | true => exact absurd (.inr q) hz
      exact ⟨_, _, rfl, rfl, ⟨h1, h2⟩, h'.same e (.int _)⟩
  | mod =>
    cases dx <;> cases dy <;> first
      | exact h.elim
      | skip
    obtain rfl := rx.int; obtain rfl := ry.int
    rename_i i j
    have h' : Pst B W g H σ ρ (opRes (if j = 0 then .no else .d (.int (i.fmod j))) st) (kV B Q) := h
    by_cases hz : j = 0
    · rw [if_pos hz] at h'; exact h'.elim
    · rw [if_neg hz] at h'
      exact ⟨_, _, rfl, rfl, hz, h'.same e (.int _)⟩
  | pow =>
    cases dx <;> cases dy <;> first
      | exact h.elim
      | skip
    obtain rfl := rx.int; obtain rfl := ry.int
    rename_i i j
    have h' : Pst B W g H σ ρ (opRes (if 0 ≤ j ∧ (i.natAbs.log2 + 1) * j.toNat < 134217000 then .d (.int (i ^ j.toNat)) else .no) st) (kV B Q) := h
    by_cases hz : 0 ≤ j ∧ (i.natAbs.log2 + 1) * j.toNat < 134217000
    · rw [if_pos hz] at h'
      exact ⟨_, _, rfl, rfl, hz, h'.same e (.int _)⟩
    · rw [if_neg hz] at h'; exact h'.elim

/-! ### comparisons -/
def _root_.PD.Cop.op : Cop → CmpOp
  | .eq => .Eq | .ne => .NotEq | .lt => .Lt | .le => .LtE | .gt => .Gt | .ge => .GtE | .inn => .In | .nin => .NotIn | .is_ => .Is | .isn => .IsNot
def copR (K : PySem.W.Frag) : Cop → R2
  | .eq => fun x y H Q => rEq x y H Q ∨ rEqD K x y H Q
  | .ne => fun x y H Q => rNe x y H Q ∨ rNeD K x y H Q
  | .lt => fun x y H Q => (rI0 (fun i j => V.bl (decide (i < j)))) x y H Q ∨ (∃ i j, x = .str i ∧ y = .str j ∧ Q (.bl (decide (i.cps.toList < j.cps.toList))) H)
  | .le => fun x y H Q => (rI0 (fun i j => V.bl (decide (i ≤ j)))) x y H Q ∨ (∃ i j, x = .str i ∧ y = .str j ∧ Q (.bl (!decide (j.cps.toList < i.cps.toList))) H)
  | .gt => rI0 fun i j => .bl (decide (j < i))
  | .ge => rI0 fun i j => .bl (decide (j ≤ i))
  | .is_ => fun x y H Q => (y = .non ∧ Q (.bl (decide (x = .non))) H) ∨ rIsB x y H Q
  | .isn => fun x y H Q => (y = .non ∧ Q (.bl (!decide (x = .non))) H) ∨ rNotB x y H Q
  | .inn => fun _ _ _ _ => False
  | .nin => fun _ _ _ _ => False
theorem cop_ok {X : Cx} (hu : X.A.units + 64 < cLine) : ∀ o : Cop, OpR X (compareOp o.op) (copR X.K o)
  | .eq => opr_or op_eq (op_eqD hu)
  | .ne => opr_or op_ne (op_neD hu)
  | .lt => opr_or op_lt op_lt_str
  | .le => opr_or op_le op_le_str
  | .gt => op_gt
  | .ge => op_ge
  | .is_ => opr_or op_isN op_isBl
  | .isn => opr_or op_notN op_notBl
  | .inn => fun _ _ _ _ _ _ _ _ _ _ _ _ h => h.elim
  | .nin => fun _ _ _ _ _ _ _ _ _ _ _ _ h => h.elim

theorem eqS_ok {R : RC} {F : Hp} (le : Le F H) {x y : V} {dx dy : D} {r : Bool} (rx : RdV R F H x dx) (ry : RdV R F H y dy) (h : eqS dx dy = some r) :
    (scal x y = true ∧ decide (x = y) = r) ∨ ∃ d e, Dp R.K H x d ∧ Dp R.K H y e ∧ SeqAt.shaped d = true ∧ SeqAt.shaped e = true ∧ PyData.eqv d e = r := by
  have gen : (match pyOf dx, pyOf dy with
      | some p, some q => if SeqAt.shaped p && SeqAt.shaped q then some (PyData.eqv p q) else none
      | _, _ => none) = some r → ∃ d e, Dp R.K H x d ∧ Dp R.K H y e ∧ SeqAt.shaped d = true ∧ SeqAt.shaped e = true ∧ PyData.eqv d e = r := fun h => by
    cases q1 : pyOf dx with
    | none => rw [q1] at h; cases h
    | some p =>
      cases q2 : pyOf dy with
      | none => rw [q1, q2] at h; cases h
      | some q =>
        rw [q1, q2] at h
        have h' : (if SeqAt.shaped p && SeqAt.shaped q then some (PyData.eqv p q) else none) = some r := h
        cases q3 : SeqAt.shaped p && SeqAt.shaped q with
        | false => rw [q3] at h'; cases h'
        | true =>
          rw [q3] at h'
          simp only [if_true] at h'
          obtain ⟨z1, z2⟩ := Bool.and_eq_true_iff.mp q3
          exact ⟨p, q, rx.dp le q1, ry.dp le q2, z1, z2, Option.some.inj h'⟩
  cases dx <;> cases dy <;> first
    | (obtain rfl := rx.non; obtain rfl := ry.non; cases h; exact .inl ⟨rfl, by simp⟩)
    | (obtain rfl := rx.bl; obtain rfl := ry.bl
       have h' : (_ == _) = r := Option.some.inj h
       exact .inl ⟨rfl, by rw [dec_bl]; exact h'⟩)
    | (obtain rfl := rx.int; obtain rfl := ry.int
       have h' : (_ == _) = r := Option.some.inj h
       exact .inl ⟨rfl, by rw [dec_int]; exact h'⟩)
    | (obtain rfl := rx.str; obtain rfl := ry.str
       have h' : (_ == _) = r := Option.some.inj h
       exact .inl ⟨rfl, by rw [dec_str]; exact h'⟩)
    | exact .inr (gen h)
theorem RdV.nonD {R : RC} {F : Hp} {x : V} {d : D} (rx : RdV R F H x d) : decide (x = .non) = (match d with | .non => true | _ => false) := by
  cases rx with
  | rep h => cases h <;> rfl
  | lst _ _ _ => rfl
  | dct _ _ _ _ => rfl
theorem isS_ok {R : RC} {F : Hp} {x y : V} {dx dy : D} {r : Bool} (rx : RdV R F H x dx) (ry : RdV R F H y dy) (h : isS dx dy = some r) :
    (y = .non ∧ decide (x = .non) = r) ∨ ∃ a b : Bool, x = .bl a ∧ y = .bl b ∧ decide (a = b) = r := by
  cases dy with
  | non =>
    obtain rfl := ry.non
    refine .inl ⟨rfl, ?_⟩
    rw [rx.nonD]
    cases dx <;> exact Option.some.inj h
  | bl b =>
    obtain rfl := ry.bl
    cases dx with
    | bl a =>
      obtain rfl := rx.bl
      refine .inr ⟨a, b, rfl, rfl, ?_⟩
      have h' : (a == b) = r := Option.some.inj h
      rw [← h']
      cases a <;> cases b <;> rfl
    | _ => cases h
  | _ => cases dx <;> cases h
theorem cop_pst (e : ER B g H σ ρ st) (o : Cop) {x y : V} {dx dy : D} {r : Bool} (rx : RdV B.R g.F H x dx) (ry : RdV B.R g.F H y dy) (h : cmpS o dx dy = some r) (q : Q (.bl r) H) : copR B.R.K o x y H Q := by
  have le := e.le
  cases o with
  | eq =>
    rcases eqS_ok le rx ry h with ⟨h1, h2⟩ | ⟨d, d2, h1, h2, h3, h4, h5⟩
    · exact .inl ⟨h1, by rw [h2]; exact q⟩
    · exact .inr ⟨d, d2, h1, h2, h3, h4, by rw [h5]; exact q⟩
  | ne =>
    have h' : (match eqS dx dy with | some r => some (!r) | none => none) = some r := h
    cases z : eqS dx dy with
    | none => rw [z] at h'; cases h'
    | some r0 =>
      rw [z] at h'
      have h2 : (!r0) = r := Option.some.inj h'
      rcases eqS_ok le rx ry z with ⟨h1, h3⟩ | ⟨d, d2, h1, h3, h4, h5, h6⟩
      · exact .inl ⟨h1, by rw [h3, h2]; exact q⟩
      · exact .inr ⟨d, d2, h1, h3, h4, h5, by rw [h6, h2]; exact q⟩
  | lt =>
    cases dx <;> cases dy <;> first
      | cases h
      | skip
    · obtain rfl := rx.int; obtain rfl := ry.int
      exact .inl ⟨_, _, rfl, rfl, q⟩
    · obtain rfl := rx.str; obtain rfl := ry.str
      exact .inr ⟨_, _, rfl, rfl, q⟩
  | le =>
    cases dx <;> cases dy <;> first
      | cases h
      | skip
    · obtain rfl := rx.int; obtain rfl := ry.int
      exact .inl ⟨_, _, rfl, rfl, q⟩
    · obtain rfl := rx.str; obtain rfl := ry.str
      exact .inr ⟨_, _, rfl, rfl, q⟩
  | gt =>
    cases dx <;> cases dy <;> first
      | cases h
      | skip
    obtain rfl := rx.int; obtain rfl := ry.int
    exact ⟨_, _, rfl, rfl, q⟩
  | ge =>
    cases dx <;> cases dy <;> first
      | cases h
      | skip
    obtain rfl := rx.int; obtain rfl := ry.int
    exact ⟨_, _, rfl, rfl, q⟩
  | inn => cases dx <;> cases dy <;> cases h
  | nin => cases dx <;> cases dy <;> cases h
  | is_ =>
    have h' : isS dx dy = some r := by cases dx <;> cases dy <;> exact h
    rcases isS_ok rx ry h' with ⟨h1, h2⟩ | ⟨a, b, h1, h2, h3⟩
    · exact .inl ⟨h1, by rw [h2]; exact q⟩
    · exact .inr ⟨a, b, h1, h2, by rw [h3]; exact q⟩
  | isn =>
    have h0 : (match isS dx dy with | some r => some (!r) | none => none) = some r := by cases dx <;> cases dy <;> exact h
    cases z : isS dx dy with
    | none => rw [z] at h0; cases h0
    | some r0 =>
      rw [z] at h0
      have h2 : (!r0) = r := Option.some.inj h0
      rcases isS_ok rx ry z with ⟨h1, h3⟩ | ⟨a, b, h1, h3, h4⟩
      · exact .inl ⟨h1, by rw [h3, h2]; exact q⟩
      · exact .inr ⟨a, b, h1, h3, by rw [h4, h2]; exact q⟩
end
end PD

/-! PD6 -/
set_option Elab.async false
set_option linter.all false
set_option maxRecDepth 100000
set_option maxHeartbeats 4000000
/-! PD: items, slices, built-in functions, kinds. -/
namespace PD
open PySem PySem.Spec PyProof.Rows L2

section
variable {B : Bs} {W : WX} {g : Gh} {H : Hp} {σ : L2.St} {ρ : Slots} {st : Store} {Q : VK}

theorem RepL.atI {R : RC} {F : Hp} {xs : List V} {ds : List D} {i : Int} {d : D} (l : RepL R F xs ds) (h : L2.atI ds i = some d) : ∃ v, L2.atI xs i = some v ∧ Rep R F v d := by
  unfold L2.atI at h ⊢
  rw [← l.length] at h
  cases e : ixN xs.length i with
  | none => rw [e] at h; cases h
  | some j =>
    rw [e] at h
    exact l.get h
theorem idx_pst (e : ER B g H σ ρ st) {x y : V} {dx dy d : D} (rx : RdV B.R g.F H x dx) (ry : RdV B.R g.F H y dy) (h : idxS dx dy = some d) (q : ∀ z, Rep B.R g.F z d → Q z H) : rIx B.R.K x y H Q := by
  have le := e.le
  cases dx <;> cases dy <;> first
    | cases h
    | skip
  · obtain rfl := rx.str; obtain rfl := ry.int
    rename_i s i
    have h' : (if s.length ≤ LIM then (L2.atI s.cps.toList i).map fun c => D.str (sgn c) else none) = some d := h
    by_cases hz : s.length ≤ LIM
    · rw [if_pos hz] at h'
      cases z : L2.atI s.cps.toList i with
      | none => rw [z] at h'; cases h'
      | some c =>
        rw [z] at h'
        cases h'
        exact .inr (.inr ⟨_, _, c, rfl, rfl, by rw [← lim_eq]; exact hz, z, q _ (.str _)⟩)
    · rw [if_neg hz] at h'; cases h'
  · obtain rfl := ry.int
    cases rx.tupRep with
    | tup s k =>
      obtain ⟨v, hv, rv⟩ := k.atI h
      exact .inr (.inl ⟨_, _, _, v, rfl, rfl, le.sqT s, hv, q _ rv⟩)
  · obtain rfl := ry.int
    obtain ⟨a, xs, rfl, s, k⟩ := rx.asL le
    obtain ⟨v, hv, rv⟩ := k.atI h
    exact .inl ⟨_, _, _, v, rfl, rfl, s, hv, q _ rv⟩

/-! ### slices -/
def rSlc (K : PySem.W.Frag) : V → Option Int → Option Int → Hp → VK → Prop := fun x lo hi H Q => rSlL K x lo hi H Q ∨ rSlA K x lo hi H Q ∨ rSlS x lo hi H Q
theorem sl_any {X : Cx} : L2.SlR X (rSlc X.K) := L2.SlR.or sl_list (L2.SlR.or sl_tupA sl_str)
theorem RepL.cut {R : RC} {F : Hp} {xs : List V} {ds : List D} {lo hi : Option Int} (l : RepL R F xs ds) : RepL R F (cutV xs lo hi) (cutD ds lo hi) := by
  unfold cutV cutD
  rw [l.length]
  exact (l.drop _).take _
theorem cutD_all {ds : List D} {lo hi : Option Int} (h : HT.sIx ds.length 0 lo = 0 ∧ HT.sIx ds.length ds.length hi = ds.length) : cutD ds lo hi = ds := by
  unfold cutD
  rw [h.1, h.2]
  simp
theorem slc_pst (e : ER B g H σ ρ st) {x : V} {dx : D} {lo hi : Option Int} (rx : RdV B.R g.F H x dx) (h : Pst B W g H σ ρ (opRes (slcS dx lo hi) st) (kV B Q)) : rSlc B.R.K x lo hi H Q := by
  have le := e.le
  cases dx with
  | lst ds =>
    obtain ⟨a, xs, rfl, s, k⟩ := rx.asL le
    exact .inl ⟨a, xs, rfl, s, fun p hp => Pst.newl (ds := cutD ds lo hi) h e k.cut hp⟩
  | tup ds =>
    cases rx.tupRep with
    | tup s k =>
      refine .inr (.inl ⟨_, _, rfl, le.sqT s, fun z => ?_, fun z p hp => Pst.newt (ds := cutD ds lo hi) h e k.cut hp⟩)
      rw [k.length] at z
      have h' : Pst B W g H σ ρ (.ok (.fz (.tup (cutD ds lo hi))) st) (kV B Q) := h
      rw [cutD_all z] at h'
      exact h'.same e (.tup s k)
  | str s =>
    obtain rfl := rx.str
    have h' : Pst B W g H σ ρ (opRes (if s.length ≤ LIM then .d (.str (cutS s lo hi)) else .no) st) (kV B Q) := h
    by_cases hz : s.length ≤ LIM
    · rw [if_pos hz] at h'
      exact .inr (.inr ⟨s, rfl, by rw [← lim_eq]; exact hz, h'.same e (.str _)⟩)
    · rw [if_neg hz] at h'; exact h'.elim
  | _ => exact h.elim

/-! ### built-in functions -/
inductive RdL (R : RC) (F H : Hp) : List V → List D → Prop
  | nil : RdL R F H [] []
  | cons {x : V} {xs : List V} {d : D} {ds : List D} : RdV R F H x d → RdL R F H xs ds → RdL R F H (x :: xs) (d :: ds)
theorem ER.rds (r : ER B g H σ ρ st) : ∀ {xs : List V} {vs : List Val} {ds : List D}, ValsR B.R B.ex g.F g.A xs vs → vs.mapM (dr st) = some ds → RdL B.R g.F H xs ds
  | _, [], ds, .nil, e => by
    have : some ([] : List D) = some ds := by simpa using e
    cases this
    exact .nil
  | _, v :: vs, ds, .cons h t, e => by
    rw [List.mapM_cons] at e
    cases q : dr st v with
    | none => rw [q] at e; cases e
    | some d =>
      rw [q] at e
      cases q2 : vs.mapM (dr st) with
      | none => rw [q2] at e; cases e
      | some ds2 =>
        rw [q2] at e
        have : some (d :: ds2) = some ds := e
        cases this
        exact .cons (r.rd h q) (ER.rds r t q2)
theorem callr_or {X : Cx} {f : Value} {r r' : List V → Hp → VK → Prop} (h : CallR X f r) (h' : CallR X f r') : CallR X f (fun xs H Q => r xs H Q ∨ r' xs H Q) := by
  intro pins s σ H xs us Q I rx q
  rcases q with q | q
  · exact h pins s σ H xs us Q I rx q
  · exact h' pins s σ H xs us Q I rx q
def Bfn.fv : Bfn → Value
  | .len => .builtin "len" | .abs => .builtin "abs" | .min2 => .builtin "min" | .max2 => .builtin "max" | .int => .type "int" | .tuple => .type "tuple" | .list => .type "list" | .gcd => .builtin "math.gcd"
def bfnR (K : PySem.W.Frag) : Bfn → List V → Hp → VK → Prop
  | .len => fun xs H Q => (∃ p ys, xs = [.ref p] ∧ (SqL K H p ys ∨ SqT K H p ys) ∧ Q (.int ys.length) H) ∨ ∃ z, xs = [.str z] ∧ z.length ≤ sizeLine ∧ Q (.int z.length) H
  | .abs => fun xs H Q => ∃ i, xs = [.int i] ∧ Q (.int (if i < 0 then -i else i)) H
  | .min2 => fun xs H Q => ∃ i j, xs = [.int i, .int j] ∧ Q (.int (if j < i then j else i)) H
  | .max2 => fun xs H Q => ∃ i j, xs = [.int i, .int j] ∧ Q (.int (if j > i then j else i)) H
  | .int => fun xs H Q => (∃ i, xs = [.int i] ∧ Q (.int i) H) ∨ ∃ k, xs = [.bl k] ∧ Q (.int (if k then 1 else 0)) H
  | .tuple => fun xs H Q => ∃ p ys, xs = [.ref p] ∧ ((SqL K H p ys ∧ ∀ l, H l = none → Q (.ref l) (upd H l (.tup ys))) ∨ (SqT K H p ys ∧ Q (.ref p) H))
  | .list => fun xs H Q => ∃ p ys, xs = [.ref p] ∧ (SqL K H p ys ∨ SqT K H p ys) ∧ ∀ l, H l = none → Q (.ref l) (upd H l (.lst ys))
  | .gcd => rGcd
def Bfn.calm : Bfn → Bool
  | .min2 => true | .max2 => true | _ => false
theorem bfn_ok {X : Cx} : ∀ f : Bfn, (f.calm = true → X.calm = true) → CallR X f.fv (bfnR X.K f)
  | .len, _ => callr_or call_len_seq call_len_str
  | .abs, _ => call_abs
  | .min2, h => call_min2 (h rfl)
  | .max2, h => call_max2 (h rfl)
  | .int, _ => call_int1
  | .tuple, _ => call_tuple_of
  | .list, _ => call_list_of
  | .gcd, _ => cr_gcd
theorem bfn_pst (e : ER B g H σ ρ st) (f : Bfn) {xs : List V} {ds : List D} (r : RdL B.R g.F H xs ds) (h : Pst B W g H σ ρ (opRes (bfnS f ds) st) (kV B Q)) : bfnR B.R.K f xs H Q := by
  have le := e.le
  cases f with
  | len =>
    cases r with
    | nil => exact h.elim
    | @cons x xs d ds rd t =>
      cases t with
      | cons _ _ => cases d <;> exact h.elim
      | nil =>
        cases d <;> first
          | exact h.elim
          | skip
        · obtain rfl := rd.str
          rename_i s
          have h' : Pst B W g H σ ρ (opRes (if s.length ≤ LIM then .d (.int s.length) else .no) st) (kV B Q) := h
          by_cases hz : s.length ≤ LIM
          · rw [if_pos hz] at h'
            exact .inr ⟨_, rfl, by rw [← lim_eq]; exact hz, h'.same e (.int _)⟩
          · rw [if_neg hz] at h'; exact h'.elim
        · cases rd.tupRep with
          | tup s k =>
            refine .inl ⟨_, _, rfl, .inr (le.sqT s), ?_⟩
            rw [k.length]
            exact Pst.same h e (.int _)
        · obtain ⟨a, ys, rfl, s, k⟩ := rd.asL le
          refine .inl ⟨_, _, rfl, .inl s, ?_⟩
          rw [k.length]
          exact Pst.same h e (.int _)
  | abs =>
    cases r with
    | nil => exact h.elim
    | @cons x xs d ds rd t =>
      cases t with
      | cons _ _ => cases d <;> exact h.elim
      | nil =>
        cases d <;> first
          | exact h.elim
          | skip
        obtain rfl := rd.int
        exact ⟨_, rfl, Pst.same h e (.int _)⟩
  | min2 =>
    cases r with
    | nil => exact h.elim
    | @cons x xs d ds rd t =>
      cases t with
      | nil => cases d <;> exact h.elim
      | @cons x2 xs2 d2 ds2 rd2 t2 =>
        cases t2 with
        | cons _ _ => cases d <;> cases d2 <;> exact h.elim
        | nil =>
          cases d <;> cases d2 <;> first
            | exact h.elim
            | skip
          obtain rfl := rd.int; obtain rfl := rd2.int
          exact ⟨_, _, rfl, Pst.same h e (.int _)⟩
  | max2 =>
    cases r with
    | nil => exact h.elim
    | @cons x xs d ds rd t =>
      cases t with
      | nil => cases d <;> exact h.elim
      | @cons x2 xs2 d2 ds2 rd2 t2 =>
        cases t2 with
        | cons _ _ => cases d <;> cases d2 <;> exact h.elim
        | nil =>
          cases d <;> cases d2 <;> first
            | exact h.elim
            | skip
          obtain rfl := rd.int; obtain rfl := rd2.int
          exact ⟨_, _, rfl, Pst.same h e (.int _)⟩
  | gcd =>
    cases r with
    | nil => exact h.elim
    | @cons x xs d ds rd t =>
      cases t with
      | nil => cases d <;> exact h.elim
      | @cons x2 xs2 d2 ds2 rd2 t2 =>
        cases t2 with
        | cons _ _ => cases d <;> cases d2 <;> exact h.elim
        | nil =>
          cases d <;> cases d2 <;> first
            | exact h.elim
            | skip
          obtain rfl := rd.int; obtain rfl := rd2.int
          exact ⟨_, _, rfl, Pst.same h e (.int _)⟩
  | int =>
    cases r with
    | nil => exact h.elim
    | @cons x xs d ds rd t =>
      cases t with
      | cons _ _ => cases d <;> exact h.elim
      | nil =>
        cases d <;> first
          | exact h.elim
          | skip
        · obtain rfl := rd.bl
          exact .inr ⟨_, rfl, Pst.same h e (.int _)⟩
        · obtain rfl := rd.int
          exact .inl ⟨_, rfl, Pst.same h e (.int _)⟩
  | tuple =>
    cases r with
    | nil => exact h.elim
    | @cons x xs d ds rd t =>
      cases t with
      | cons _ _ => cases d <;> exact h.elim
      | nil =>
        cases d <;> first
          | exact h.elim
          | skip
        · cases rd.tupRep with
          | tup s k => exact ⟨_, _, rfl, .inr ⟨le.sqT s, Pst.same h e (.tup s k)⟩⟩
        · obtain ⟨a, ys, rfl, s, k⟩ := rd.asL le
          exact ⟨_, _, rfl, .inl ⟨s, fun p hp => Pst.newt h e k hp⟩⟩
  | list =>
    cases r with
    | nil => exact h.elim
    | @cons x xs d ds rd t =>
      cases t with
      | cons _ _ => cases d <;> exact h.elim
      | nil =>
        cases d <;> first
          | exact h.elim
          | skip
        · cases rd.tupRep with
          | tup s k => exact ⟨_, _, rfl, .inr (le.sqT s), fun p hp => Pst.newl h e k hp⟩
        · obtain ⟨a, ys, rfl, s, k⟩ := rd.asL le
          exact ⟨_, _, rfl, .inl s, fun p hp => Pst.newl h e k hp⟩

/-! ### kinds -/
theorem sqL_ty {K : PySem.W.Frag} {a : Addr} {xs : List V} (h : SqL K H a xs) : TyX K H (.ref a) (.type "list") := by
  rcases h with (h | ⟨o, h⟩) | ⟨o, its, n, h, c, _⟩
  · exact .base (.lst h)
  · exact .base (.frz h)
  · exact .kList h c
theorem sqT_ty {K : PySem.W.Frag} {a : Addr} {xs : List V} (h : SqT K H a xs) : TyX K H (.ref a) (.type "tuple") := by
  rcases h with (h | ⟨o, h⟩) | ⟨o, its, n, h, c, _⟩
  · exact .base (.tup h)
  · exact .fTuple h
  · exact .kTuple h c
theorem RdV.ty {R : RC} {F : Hp} {x : V} {d : D} {u : String} (le : Le F H) (r : RdV R F H x d) (h : tyS d = some u) : TyX R.K H x (.type u) := by
  cases r with
  | rep r =>
    cases r with
    | non => cases h; exact .base .non
    | bl b => cases h; exact .base (.bl b)
    | int i => cases h; exact .base (.int i)
    | str s => cases h; exact .base (.str s)
    | tup s k => cases h; exact sqT_ty (le.sqT s)
    | lst s k => cases h; exact sqL_ty (le.sqL s)
    | dct e _ _ _ =>
      cases h
      rcases le _ _ e with q | ⟨_, ob, q⟩
      · exact .base (.dK q)
      · exact .fDict q
    | obj _ _ _ _ _ => cases h
  | lst _ e _ => cases h; exact .base (.lst e)
  | dct _ e _ _ => cases h; exact .base (.dK e)

/-! ### truth -/
theorem tru_pst {R : RC} {F : Hp} {x : V} {d : D} {b : Bool} (le : Le F H) (r : RdV R F H x d) (h : truS d = some b) : TruV R.K x H b := by
  cases d with
  | non => obtain rfl := r.non; cases h; rfl
  | bl b => obtain rfl := r.bl; cases h; rfl
  | int i => obtain rfl := r.int; cases h; rfl
  | str s =>
    obtain rfl := r.str
    have h' : (if s.length ≤ LIM then some ((s.length : Int) != 0) else none) = some b := h
    by_cases hz : s.length ≤ LIM
    · rw [if_pos hz] at h'
      cases h'
      exact ⟨by rw [← lim_eq]; exact hz, rfl⟩
    · rw [if_neg hz] at h'; cases h'
  | tup ds =>
    cases r.tupRep with
    | tup s k =>
      cases h
      refine .inr (.inl ⟨_, le.sqT s, ?_⟩)
      cases k <;> rfl
  | lst ds =>
    obtain ⟨a, xs, rfl, s, k⟩ := r.asL le
    cases h
    refine .inl ⟨_, s, ?_⟩
    cases k <;> rfl
  | dct ks vs => cases h
  | obj c fs vs => cases h
end
end PD

/-! PD7 -/
set_option Elab.async false
set_option linter.all false
set_option maxRecDepth 100000
set_option maxHeartbeats 4000000
/-! PD: the data of a def against the model's text, and the context. -/
namespace PD
open PySem PySem.Spec PyProof.Rows L2

/-! ### what a def's data are held against -/
structure Tab where
  N : List Str
  con : List Str
  fns : List (Str × Nat)
  free : List Str
  gcd : Bool
  exn : List Str
  raf : List (Str × Str)
  lv : Nat
def seen (x : Str) : Bool := !(x == ("__debug__" : Str)) && (!(x == ("__classdict__" : Str)) && (!(x == ("__name__" : Str)) && !(x == ("super" : Str))))
def visB (sc : Scope) (x : Str) : Bool := match sc.names.lookup x with
  | some .local => true
  | some .cell => true
  | some .free => true
  | _ => false
def glB (sc : Scope) (x : Str) : Bool := match sc.names.lookup x with
  | some .globalImplicit => true
  | _ => false
def bopB : Bop → Operator → Bool
  | .add, .Add => true | .sub, .Sub => true | .mul, .Mult => true | .fdv, .FloorDiv => true | .mod, .Mod => true | .pow, .Pow => true
  | _, _ => false
def copB : Cop → CmpOp → Bool
  | .eq, .Eq => true | .ne, .NotEq => true | .lt, .Lt => true | .le, .LtE => true | .gt, .Gt => true | .ge, .GtE => true | .inn, .In => true | .nin, .NotIn => true | .is_, .Is => true | .isn, .IsNot => true
  | _, _ => false
theorem bopB_ok {o : Bop} {op : Operator} (h : bopB o op = true) : op = o.op := by cases o <;> cases op <;> first | rfl | cases h
theorem copB_ok {o : Cop} {op : CmpOp} (h : copB o op = true) : op = o.op := by cases o <;> cases op <;> first | rfl | cases h
def litB : D → Const → Bool
  | .int i, .int j => decide (i = j)
  | .bl b, .bool c => b == c
  | .non, .none => true
  | .str s, .str t => decide (s = t)
  | _, _ => false
/-- neither a star nor a slice -/
def plainE : Expr → Bool
  | .Starred _ _ => false
  | .Slice _ _ _ _ => false
  | .Set _ _ _ => false
  | _ => true
/-- whose test is its value's truth -/
def plainT : Expr → Bool
  | .Name _ _ => true
  | .Call _ _ _ _ => true
  | .Subscript _ _ _ => true
  | .Attribute _ _ _ => true
  | .Constant _ _ _ => true
  | .BinOp _ _ _ _ => true
  | _ => false
def notSuper : Expr → Bool
  | .Call (.Name x _) _ _ _ => !(x == ("super" : Str))
  | _ => true
def Bfn.nm : Bfn → Str
  | .len => "len" | .abs => "abs" | .min2 => "min" | .max2 => "max" | .int => "int" | .tuple => "tuple" | .list => "list" | .gcd => "gcd"
def tyNames : List (Str × String) := [("int", "int"), ("bool", "bool"), ("str", "str"), ("tuple", "tuple"), ("list", "list"), ("dict", "dict"), ("ValueError", "ValueError"), ("Exception", "Exception")]
def tynB (T : Tab) (sc : Scope) : TyN → Expr → Bool
  | .ty n, .Name x _ => decide ((x, n) ∈ tyNames) && (T.free.contains x && glB sc x)
  | _, _ => false
def tynsB (T : Tab) (sc : Scope) : List TyN → List Expr → Bool
  | [], [] => true
  | t :: ts, e :: es => tynB T sc t e && (plainE e && tynsB T sc ts es)
  | _, _ => false
def locB (sc : Scope) (x : Str) : Bool := match sc.names.lookup x with
  | some .local => true
  | _ => false
def celB (sc : Scope) (x : Str) : Bool := match sc.names.lookup x with
  | some .cell => true
  | _ => false
def nmB (T : Tab) (sc : Scope) (i : Nat) : Expr → Bool
  | .Name x _ => decide (T.N[i]? = some x) && (locB sc x || celB sc x)
  | _ => false
def tgB (T : Tab) (sc : Scope) : Tg → Expr → Bool
  | .nm i, e => nmB T sc i e
  | .tp is, .Tuple es _ _ => decide (is.length = es.length) && (is.zip es).all fun p => nmB T sc p.1 p.2
  | _, _ => false
def ownB (T : Tab) (sc scope : Scope) (own : List Nat) : Bool := blkC T.N sc scope (own.map fun i => ((T.N.getD i Str.empty), i))
/-- the names of the comprehension's target are among its own -/
def tgIn (own : List Nat) : Tg → Bool
  | .nm i => own.contains i
  | .tp is => is.all own.contains

def clsB (T : Tab) (sc : Scope) : Str → Expr → Bool
  | c, .Name x _ => decide (c = x) && (T.exn.contains x && (glB sc x && seen x))
  | _, _ => false
def clssB (T : Tab) (sc : Scope) : List Str → List Expr → Bool
  | [], [] => true
  | c :: cs, e :: es => clsB T sc c e && clssB T sc cs es
  | _, _ => false
mutual
/-- m: a test -/
def chk (T : Tab) (sc : Scope) (calm : Bool) : Ex → Bool → Expr → Bool
  | .var i, m, .Name x _ => decide (T.N[i]? = some x) && (visB sc x && seen x)
  | .lit d, m, .Constant c _ _ => litB d c
  | .glo j, m, .Name x _ => decide (T.con[j]? = some x) && (glB sc x && seen x)
  | .bin o a b, m, .BinOp ea op eb _ => bopB o op && (chk T sc calm a false ea && chk T sc calm b false eb)
  | .cmp o a b, m, .Compare ea [op] [eb] _ => copB o op && (plainE eb && (chk T sc calm a false ea && chk T sc calm b false eb))
  | .chain o o' a b c, m, .Compare ea [op, op'] [eb, ec] _ => copB o op && (copB o' op' && (plainE eb && (plainE ec && (chk T sc calm a false ea && (chk T sc calm b false eb && chk T sc calm c false ec)))))
  | .neg a, m, .UnaryOp .USub ea _ => !m && chk T sc calm a false ea
  | .not_ a, m, .UnaryOp .Not ea _ => chk T sc calm a m ea
  | .and_ a b, m, .BoolOp .And (ea :: eb :: rest) pos => chk T sc calm a m ea && (match rest with
    | [] => chk T sc calm b m eb
    | _ :: _ => chk T sc calm b m (.BoolOp .And (eb :: rest) pos))
  | .or_ a b, m, .BoolOp .Or (ea :: eb :: rest) pos => chk T sc calm a m ea && (match rest with
    | [] => chk T sc calm b m eb
    | _ :: _ => chk T sc calm b m (.BoolOp .Or (eb :: rest) pos))
  | .ife c a b, m, .IfExp ec ea eb _ => !m && (chk T sc calm c true ec && (chk T sc calm a false ea && chk T sc calm b false eb))
  | .tru a, m, e => m && (plainT e && chk T sc calm a false e)
  | .tup es, m, .Tuple ees _ _ => !m && chks T sc calm es ees
  | .lst es, m, .List ees _ => !m && chks T sc calm es ees
  | .idx a i, m, .Subscript ea ei _ => plainE ei && (chk T sc calm a false ea && chk T sc calm i false ei)
  | .slc a lo hi, m, .Subscript ea (.Slice elo ehi none _) _ => !m && (chk T sc calm a false ea && ((match elo with
      | none => lo.isNone
      | some e => chk T sc calm lo false e) && (match ehi with
      | none => hi.isNone
      | some e => chk T sc calm hi false e)))
  | .call j es, m, .Call (.Name x _) ees [] _ => decide (T.fns[j]? = some (x, ees.length)) && (!ees.isEmpty && (glB sc x && (seen x && (calm && chks T sc calm es ees))))
  | .bfn f es, m, .Call (.Name x _) ees [] _ => decide (x = f.nm) && (!ees.isEmpty && (glB sc x && ((match f with
      | .gcd => T.gcd
      | _ => T.free.contains x) && ((!f.calm || calm) && chks T sc calm es ees))))
  | .mth .bitlen a es, m, .Call (.Attribute eo x ap) [] [] cp => !m && (decide (x = "bit_length") && (notSuper eo && ((ap.endLine == cp.line) && (chk T sc calm a false eo && chks T sc calm es []))))
  | .isi a ts tp, m, .Call (.Name x _) [ea, et] [] _ => decide (x = "isinstance") && (T.free.contains x && (glB sc x && (plainE ea && (plainE et && (chk T sc calm a false ea && (match tp, ts, et with
      | false, [t], et => tynB T sc t et
      | true, ts, .Tuple ets _ _ => decide (ts.length ≤ 8 ∧ ts ≠ []) && tynsB T sc ts ets
      | _, _, _ => false))))))
  | .isx i ts tp, m, .Call (.Name x _) [.Name y _, et] [] _ => !calm && (decide (x = "isinstance") && (T.free.contains x && (glB sc x && (decide (T.N[i]? = some y) && (visB sc y && (seen y && (plainE et && (match tp, ts, et with
      | false, [t], et => clsB T sc t et
      | true, ts, .Tuple ets _ _ => decide (ts.length ≤ 8 ∧ ts ≠ []) && clssB T sc ts ets
      | _, _, _ => false))))))))
  | .isv i n, m, .Call (.Name x _) [.Name y _, et] [] _ => !calm && (decide (x = "isinstance") && (T.free.contains x && (glB sc x && (decide (T.N[i]? = some y) && (visB sc y && (seen y && (plainE et && tynB T sc (.ty n) et)))))))
  | .xfld i f, m, .Attribute (.Name y yp) n p => !m && (!calm && (decide (n = f) && (decide (T.N[i]? = some y) && (visB sc y && (seen y && !(y == ("super" : Str)))))))
  | .lc own tg it c elt, m, .ListComp eelt [⟨etg, eit, ifs, as_⟩] scope _ => !m && (calm && (decide (as_ = 0) && (ownB T sc scope own && (tgB T scope tg etg && (tgIn own tg && (chkI T sc calm it eit && ((match ifs with
      | [] => (match c with
        | .lit (.bl true) => true
        | _ => false)
      | [ec] => chk T scope calm c true ec
      | _ => false) && chk T scope calm elt false eelt)))))))
  | _, _, _ => false
def chks (T : Tab) (sc : Scope) (calm : Bool) : Exs → List Expr → Bool
  | .nil, [] => true
  | .cons a as, e :: es => plainE e && (chk T sc calm a false e && chks T sc calm as es)
  | _, _ => false
def chkI (T : Tab) (sc : Scope) (calm : Bool) : It → Expr → Bool
  | .rng1 a, .Call (.Name x _) [ea] [] _ => decide (x = "range") && (T.free.contains x && (glB sc x && (plainE ea && chk T sc calm a false ea)))
  | .rng2 a b, .Call (.Name x _) [ea, eb] [] _ => decide (x = "range") && (T.free.contains x && (glB sc x && (plainE ea && (plainE eb && (chk T sc calm a false ea && chk T sc calm b false eb)))))
  | .seq a, e => plainE e && chk T sc calm a false e
  | _, _ => false
end
end PD

/-! PD8 -/
set_option Elab.async false
set_option linter.all false
set_option maxRecDepth 100000
set_option maxHeartbeats 4000000
/-! PD: a def's promise, the context, calls. -/
namespace PD
open PySem PySem.Spec PyProof.Rows L2

inductive ArgsR (R : RC) (F H : Hp) : List V → List Arg → List Addr → Prop
  | nil : ArgsR R F H [] [] []
  | fz {x : V} {xs : List V} {d : D} {as : List Arg} {l : List Addr} : Rep R F x d → ArgsR R F H xs as l → ArgsR R F H (x :: xs) (.fz d :: as) l
  | mu {a : Addr} {xs : List V} {c : Cont} {as : List Arg} {l : List Addr} : c.live = true → ContR R F H a c → ArgsR R F H xs as l → ArgsR R F H (.ref a :: xs) (.mu c :: as) (a :: l)
theorem ArgsR.ofL {R : RC} {F H : Hp} : ∀ {ys : List V} {ds : List D}, RepL R F ys ds → ArgsR R F H ys (ds.map .fz) []
  | _, _, .nil => .nil
  | _, _, .cons r t => .fz r (ArgsR.ofL t)
theorem ArgsR.app {R : RC} {F H : Hp} {ys : List V} {ds : List D} (k : RepL R F ys ds) : ∀ {xs : List V} {as : List Arg} {l : List Addr}, ArgsR R F H xs as l → ArgsR R F H (xs ++ ys) (as ++ ds.map .fz) l
  | _, _, _, .nil => ArgsR.ofL k
  | _, _, _, .fz r t => .fz r (ArgsR.app k t)
  | _, _, _, .mu h c t => .mu h c (ArgsR.app k t)
theorem ArgsR.length {R : RC} {F H : Hp} : ∀ {xs : List V} {as : List Arg} {l : List Addr}, ArgsR R F H xs as l → xs.length = as.length
  | _, _, _, .nil => rfl
  | _, _, _, .fz _ t => congrArg Nat.succ (ArgsR.length t)
  | _, _, _, .mu _ _ t => congrArg Nat.succ (ArgsR.length t)
inductive ContsR (R : RC) (F H : Hp) : List Addr → List Cont → Prop
  | nil : ContsR R F H [] []
  | cons {a : Addr} {l : List Addr} {c : Cont} {cs : List Cont} : c.live = true → ContR R F H a c → ContsR R F H l cs → ContsR R F H (a :: l) (c :: cs)
structure PostR (R : RC) (F H F' H' : Hp) (l : List Addr) (cs : List Cont) : Prop where
  same : Same F F'
  le : Le F' H'
  fresh : ∀ b, F' b ≠ none → F b ≠ none ∨ H b = none
  keep : ∀ b o, H b = some o → b ∉ l → H' b = some o
  conts : ContsR R F' H' l cs
/-- what a def promises: it does what f says -/
def spOf (R : RC) (n : Nat) (f : List Arg → FRes) : Sp := fun vs H Q E => ∃ (F : Hp) (args : List Arg) (l : List Addr), args.length = n ∧ Le F H ∧ ArgsR R F H vs args l ∧ l.Nodup ∧ (match f args with
  | .ok d cs => ∀ x F' H', PostR R F H F' H' l cs → Rep R F' x d → Q x H'
  | .okl ds cs => ∀ a xs F' H', PostR R F H F' H' l cs → F' a = none → H a = none → H' a = some (.lst xs) → RepL R F' xs ds → Q (.ref a) H'
  | .exc e cs => ∀ cls dd F' H', PostR R F H F' H' l cs → XR R F' e cls dd → E cls dd H'
  | .stuck => False)
def FnHas (R : RC) (X : Cx) (k : Nat) (x : Str) (n : Nat) (fi : FnI) : Prop :=
  ∃ (f : Addr) (fd : FuncData) (ps : List Str) (ds : List Value) (dvs : List V), X.mg x = some (.ref f) ∧ PySem.W.keepIn X.K (.ref f) = true ∧ Binds X.K fd ps ds ∧ Vals dvs ds ∧
    FnOk X.prog X.w X.K X.mg X.base (L2.CX X.prog X.w) k f fd ps (spOf R ps.length fi.f) ∧ n + dvs.length = ps.length ∧ ∀ F, RepL R F dvs fi.dfl

/-- a scope as the text has it, and as it is where one stands (a comprehension's free names may be cells) -/
structure ScR (sc sc' : Scope) : Prop where
  cl : ∀ x, sc.names.lookup x = some .cell → sc'.names.lookup x = some .cell
  loc : ∀ x, sc.names.lookup x = some .local → sc'.names.lookup x = some .local
  cf : ∀ x, sc.names.lookup x = some .cell ∨ sc.names.lookup x = some .free → sc'.names.lookup x = some .cell ∨ sc'.names.lookup x = some .free
  gl : ∀ x, sc.names.lookup x = some .globalImplicit → sc'.names.lookup x = some .globalImplicit
theorem ScR.refl (sc : Scope) : ScR sc sc := ⟨fun _ h => h, fun _ h => h, fun _ h => h, fun _ h => h⟩
structure Cxt (T : Tab) (sc : Scope) (calm : Bool) (G : Gam) (B : Bs) (X : Cx) (W : WX) : Prop where
  K : X.K = B.R.K
  mg : X.mg = B.R.mg
  N : X.N = T.N
  fn : ∀ x, sc.names.lookup x = some .cell → X.fn x = true
  sc : ScR sc X.env.scope
  nd : T.N.Nodup
  exI : calm = false → ∀ a cls dd, B.ex = some (a, cls, dd) → ∃ oe, Zc cls dd oe ∧ (∃ vs, oe.data = .fields vs) ∧ (a, oe) ∈ X.pn
  calm : calm = true → X.calm = true ∧ Room T.lv X.A
  units : X.A.units + 64 < cLine
  tk : Takes X W
  io : G.io = B.io.length
  con : ∀ (j : Nat) (d : D) (x : Str), G.con[j]? = some d → T.con[j]? = some x → ∃ v u, X.mg x = some u ∧ RelV v u ∧ ∀ F, Rep B.R F v d
  fns : ∀ (j : Nat) (fi : FnI) (x : Str) (n : Nat), G.fns[j]? = some fi → T.fns[j]? = some (x, n) → FnHas B.R X T.lv x n fi
  free : ∀ x ∈ T.free, X.mg x = none
  exn : ∀ x ∈ T.exn, ∃ C, X.mg x = some (.ref C)
  exm : ∀ c t b, G.exm c t = some b → ∃ D C, X.mg c = some (.ref D) ∧ X.mg t = some (.ref C) ∧ PySem.W.kitOne X.K (.ref D) (.ref C) = some b ∧ PySem.W.exmOne X.K (.ref D) (.ref C) = some b ∧ ExcC X.K D
  xf : ∀ c f, G.xfl c f = true → ∃ D, X.mg c = some (.ref D) ∧ XfC X.K D ∧ PySem.W.findIn X.K (.ref D) f = some none
  gcd : T.gcd = true → X.mg "gcd" = some (.builtin "math.gcd")
  exv : ∀ c n b, G.exv c n = some b → ∃ D, X.mg c = some (.ref D) ∧ PySem.W.kitOne X.K (.ref D) (.type n) = some b ∧ ExcC X.K D

theorem Cxt.vis {T : Tab} {sc : Scope} {calm : Bool} {G : Gam} {B : Bs} {X : Cx} {W : WX} (C : Cxt T sc calm G B X W) {x : Str} (h : visB sc x = true) : Vis X.env.scope x := by
  unfold visB at h
  split at h
  · exact .inl (C.sc.loc x (by assumption))
  · exact .inr (C.sc.cf x (.inl (by assumption)))
  · exact .inr (C.sc.cf x (.inr (by assumption)))
  · cases h
theorem Cxt.glob {T : Tab} {sc : Scope} {calm : Bool} {G : Gam} {B : Bs} {X : Cx} {W : WX} (C : Cxt T sc calm G B X W) {x : Str} (h : glB sc x = true) : Gl X x := by
  unfold glB at h
  split at h
  · exact C.sc.gl x (by assumption)
  · cases h
theorem celB_ok {sc : Scope} {x : Str} (h : celB sc x = true) : sc.names.lookup x = some .cell := by
  unfold celB at h
  split at h
  · assumption
  · cases h
theorem locB_ok {sc sc' : Scope} (r : ScR sc sc') {x : Str} (h : locB sc x = true) : sc'.names.lookup x = some .local := by
  unfold locB at h
  split at h
  · exact r.loc x (by assumption)
  · cases h
section
variable {B : Bs} {W : WX} {g : Gh} {H : Hp} {σ : L2.St} {ρ : Slots} {st : Store} {Q : VK}
theorem Res.bind_ok {α β : Type} {r : Res α} {k : α → Store → Res β} {b : β} {st' : Store} (h : r.bind k = .ok b st') : ∃ a st1, r = .ok a st1 ∧ k a st1 = .ok b st' := by
  cases r with
  | ok a st1 => exact ⟨a, st1, rfl, h⟩
  | exc x st1 => cases h
  | stuck => cases h
theorem Res.bind_exc {α β : Type} {r : Res α} {k : α → Store → Res β} {x : XD} {st' : Store} (h : r.bind k = .exc x st') : r = .exc x st' ∨ ∃ a st1, r = .ok a st1 ∧ k a st1 = .exc x st' := by
  cases r with
  | ok a st1 => exact .inr ⟨a, st1, rfl, h⟩
  | exc x st1 => cases h; exact .inl rfl
  | stuck => cases h
theorem pick_ok {α β : Type} {o : Option α} {k : α → Res β} {b : β} {st' : Store} (h : pick o k = .ok b st') : ∃ a, o = some a ∧ k a = .ok b st' := by
  cases o with
  | none => cases h
  | some a => exact ⟨a, rfl, h⟩

/-- several values are handed on -/
theorem ER.frs : ∀ {vs : List Val} {xs : List V} {g : Gh} {st : Store} {ds : List D} {st' : Store}, ER B g H σ ρ st → ValsR B.R B.ex g.F g.A xs vs → frs B.io.length vs st = .ok ds st' →
    ∃ F', ER B ⟨F', g.A⟩ H σ ρ st' ∧ Step g H ⟨F', g.A⟩ H ∧ RepL B.R F' xs ds
  | [], _, g, st, ds, st', r, .nil, e => by
    cases e
    exact ⟨g.F, r, Step.refl _ _, .nil⟩
  | v :: vs, _, g, st, ds, st', r, .cons h t, e => by
    obtain ⟨d, st1, e1, e2⟩ := Res.bind_ok (show (PD.fr B.io.length v st).bind _ = _ from e)
    obtain ⟨F1, r1, s1, h1⟩ := r.fr h e1
    obtain ⟨ds2, st2, e3, e4⟩ := Res.bind_ok e2
    have t1 : ∀ {xs : List V} {vs : List Val}, ValsR B.R B.ex g.F g.A xs vs → ValsR B.R B.ex F1 g.A xs vs := fun t => by
      induction t with
      | nil => exact .nil
      | cons a _ ih => exact .cons (a.up (g := g) (g' := ⟨F1, g.A⟩) s1.le) ih
    obtain ⟨F2, r2, s2, h2⟩ := ER.frs r1 (t1 t) e3
    cases e4
    exact ⟨F2, r2, s1.trans s2, .cons (h1.mono s2.le.F) h2⟩
theorem frs_no_exc {io : Nat} : ∀ {vs : List Val} {st st' : Store} {x : XD}, PD.frs io vs st ≠ .exc x st'
  | [], st, st', x, h => by cases h
  | v :: vs, st, st', x, h => by
    rcases Res.bind_exc (show (PD.fr io v st).bind _ = _ from h) with q | ⟨d, st1, _, q⟩
    · exact fr_no_exc q
    · rcases Res.bind_exc q with q | ⟨ds, st2, _, q⟩
      · exact frs_no_exc q
      · cases q
theorem ValsR.up {R : RC} {E : ExH} {g g' : Gh} {xs : List V} {vs : List Val} (l : g.le g') (t : ValsR R E g.F g.A xs vs) : ValsR R E g'.F g'.A xs vs := by
  induction t with
  | nil => exact .nil
  | cons a _ ih => exact .cons (a.up l) ih

/-! ### a call -/
/-- how the prepared arguments stand -/
inductive PrepR (R : RC) (g : Gh) : List V → List (Sum D Nat) → List Addr → Prop
  | nil : PrepR R g [] [] []
  | fz {x : V} {xs : List V} {d : D} {as : List (Sum D Nat)} {l : List Addr} : Rep R g.F x d → PrepR R g xs as l → PrepR R g (x :: xs) (.inl d :: as) l
  | mu {a : Addr} {n : Nat} {xs : List V} {as : List (Sum D Nat)} {l : List Addr} : g.A[n]? = some a → PrepR R g xs as l → PrepR R g (.ref a :: xs) (.inr n :: as) (a :: l)
theorem ER.frA : ∀ {vs : List Val} {ms : List Bool} {xs : List V} {g : Gh} {st : Store} {as : List (Sum D Nat)} {st' : Store}, ER B g H σ ρ st → ValsR B.R B.ex g.F g.A xs vs → frA B.io.length ms vs st = .ok as st' →
    ∃ F' l, ER B ⟨F', g.A⟩ H σ ρ st' ∧ Step g H ⟨F', g.A⟩ H ∧ PrepR B.R ⟨F', g.A⟩ xs as l
  | [], ms, _, g, st, as, st', r, .nil, e => by
    have e' : Res.ok [] st = Res.ok as st' := by
      cases ms with
      | nil => exact e
      | cons m ms => cases m <;> exact e
    cases e'
    exact ⟨g.F, [], r, Step.refl _ _, .nil⟩
  | v :: vs, ms, _, g, st, as, st', r, .cons (x := x) (xs := xs) h t, e => by
    have pure : ∀ ms', ((PD.fr B.io.length v st).bind fun d st => (PD.frA B.io.length ms' vs st).bind fun as st => .ok (.inl d :: as) st) = .ok as st' →
        ∃ F' l, ER B ⟨F', g.A⟩ H σ ρ st' ∧ Step g H ⟨F', g.A⟩ H ∧ PrepR B.R ⟨F', g.A⟩ (x :: xs) as l := fun ms' e => by
      obtain ⟨d, st1, e1, e2⟩ := Res.bind_ok e
      obtain ⟨F1, r1, s1, h1⟩ := r.fr h e1
      obtain ⟨as2, st2, e3, e4⟩ := Res.bind_ok e2
      obtain ⟨F2, l, r2, s2, h2⟩ := ER.frA r1 (t.up (g := g) (g' := ⟨F1, g.A⟩) s1.le) e3
      cases e4
      exact ⟨F2, l, r2, s1.trans s2, .fz (h1.mono s2.le.F) h2⟩
    cases ms with
    | nil => exact pure [] e
    | cons m ms =>
      cases m with
      | false => exact pure ms e
      | true =>
        cases v with
        | fz d => cases e
        | exn y => cases e
        | loc n =>
          obtain ⟨as2, st2, e3, e4⟩ := Res.bind_ok (show (PD.frA B.io.length ms vs st).bind _ = _ from e)
          obtain ⟨F2, l, r2, s2, h2⟩ := ER.frA r t e3
          cases e4
          obtain ⟨a, ha, rfl⟩ := h
          exact ⟨F2, a :: l, r2, s2, .mu ha h2⟩
theorem frA_no_exc {io : Nat} : ∀ {vs : List Val} {ms : List Bool} {st st' : Store} {x : XD}, PD.frA io ms vs st ≠ .exc x st'
  | [], ms, st, st', x, h => by
    cases ms with
    | nil => cases h
    | cons m ms => cases m <;> cases h
  | v :: vs, ms, st, st', x, h => by
    have pure : ∀ ms', ((PD.fr io v st).bind fun d st => (PD.frA io ms' vs st).bind fun as st => .ok (Sum.inl d :: as) st) ≠ .exc x st' := fun ms' h => by
      rcases Res.bind_exc h with q | ⟨d, st1, _, q⟩
      · exact fr_no_exc q
      · rcases Res.bind_exc q with q | ⟨ds, st2, _, q⟩
        · exact frA_no_exc q
        · cases q
    cases ms with
    | nil => exact pure _ h
    | cons m ms =>
      cases m with
      | false => exact pure _ h
      | true =>
        cases v with
        | fz d => cases h
        | exn y => cases h
        | loc n =>
          rcases Res.bind_exc (show (PD.frA io ms vs st).bind _ = _ from h) with q | ⟨ds, st2, _, q⟩
          · exact frA_no_exc q
          · cases q
theorem PrepR.args (r : ER B g H σ ρ st) : ∀ {xs : List V} {as : List (Sum D Nat)} {l : List Addr} {args : List Arg}, PrepR B.R g xs as l → mkA st as = some args → ArgsR B.R g.F H xs args l ∧ ∀ (n : Nat), n ∈ locsA as → ∃ c, st[n]? = some c ∧ c.live = true
  | _, _, _, args, .nil, e => by cases e; exact ⟨.nil, fun n h => by cases h⟩
  | _, _, _, args, .fz (d := d) (as := as) h t, e => by
    have e' : (match mkA st as with | some r => some (Arg.fz d :: r) | none => none) = some args := e
    cases q : mkA st as with
    | none => rw [q] at e'; cases e'
    | some r' =>
      rw [q] at e'; cases e'
      obtain ⟨h1, h2⟩ := PrepR.args r t q
      exact ⟨.fz h h1, h2⟩
  | _, _, _, args, .mu (a := a) (n := n) (as := as) h t, e => by
    obtain ⟨c, hc⟩ := r.stAt h
    have e' : (match st[n]? with | some c => if c.live then (match mkA st as with | some r => some (Arg.mu c :: r) | none => none) else none | none => none) = some args := e
    rw [hc] at e'
    cases hl : c.live with
    | false => simp only [hl] at e'; cases e'
    | true =>
      simp only [hl, if_true] at e'
      cases q : mkA st as with
      | none => rw [q] at e'; cases e'
      | some r' =>
        rw [q] at e'; cases e'
        obtain ⟨h1, h2⟩ := PrepR.args r t q
        refine ⟨.mu hl (r.conts n a c h hc) h1, fun m hm => ?_⟩
        rcases List.mem_cons.mp hm with rfl | hm
        · exact ⟨c, hc, hl⟩
        · exact h2 m hm
theorem PrepR.locs : ∀ {xs : List V} {as : List (Sum D Nat)} {l : List Addr}, PrepR B.R g xs as l → l.length = (locsA as).length ∧ ∀ (i n : Nat), (locsA as)[i]? = some n → l[i]? = g.A[n]? ∧ ∃ a, g.A[n]? = some a
  | _, _, _, .nil => ⟨rfl, fun i n h => by cases i <;> cases h⟩
  | _, _, _, .fz _ t => by
    obtain ⟨h1, h2⟩ := PrepR.locs t
    exact ⟨h1, h2⟩
  | _, _, _, .mu (a := a) (n := n) h t => by
    obtain ⟨h1, h2⟩ := PrepR.locs t
    refine ⟨congrArg Nat.succ h1, fun i m hm => ?_⟩
    cases i with
    | zero =>
      have : n = m := by simpa [locsA] using hm
      subst this
      exact ⟨by simp [h], a, h⟩
    | succ i => exact h2 i m (by simpa [locsA] using hm)
theorem noDup_ok : ∀ {l : List Nat}, noDup l = true → l.Nodup
  | [], _ => List.nodup_nil
  | n :: ns, h => by
    obtain ⟨h1, h2⟩ := Bool.and_eq_true_iff.mp (show (!ns.contains n && noDup ns) = true from h)
    refine List.nodup_cons.mpr ⟨fun hm => ?_, noDup_ok h2⟩
    have : ns.contains n = true := List.contains_iff_mem.mpr hm
    rw [this] at h1; cases h1
theorem PrepR.nodup (r : ER B g H σ ρ st) {xs : List V} {as : List (Sum D Nat)} {l : List Addr} (p : PrepR B.R g xs as l) (h : (locsA as).Nodup) : l.Nodup := by
  obtain ⟨h1, h2⟩ := p.locs
  refine List.pairwise_iff_getElem.mpr fun i j hi hj hij e => ?_
  have hi' : i < (locsA as).length := by omega
  have hj' : j < (locsA as).length := by omega
  obtain ⟨e1, a, ea⟩ := h2 i (locsA as)[i] (List.getElem?_eq_getElem hi')
  obtain ⟨e2, b, eb⟩ := h2 j (locsA as)[j] (List.getElem?_eq_getElem hj')
  rw [List.getElem?_eq_getElem hi, ea] at e1
  rw [List.getElem?_eq_getElem hj, eb] at e2
  have q0 : a = b := by
    have q1 := Option.some.inj e1
    have q2 := Option.some.inj e2
    rw [← q1, ← q2, e]
  subst q0
  exact List.pairwise_iff_getElem.mp h i j hi' hj' hij (getA r.nodup ea eb)
/-- the store behind the call -/
theorem putBack_at : ∀ {ns : List Nat} {cs : List Cont} {st st' : Store}, putBack ns cs st = some st' → ns.Nodup → st'.length = st.length ∧ ns.length = cs.length ∧ (∀ (i : Nat), i ∉ ns → st'[i]? = st[i]?) ∧
    ∀ (k n : Nat), ns[k]? = some n → n < st.length → st'[n]? = cs[k]?
  | [], [], st, st', h, _ => by cases h; exact ⟨rfl, rfl, fun _ _ => rfl, fun k n e => by cases k <;> cases e⟩
  | [], _ :: _, st, st', h, _ => by cases h
  | _ :: _, [], st, st', h, _ => by cases h
  | n :: ns, c :: cs, st, st', h, nd => by
    have h' : (if c.live then putBack ns cs (st.set n c) else none) = some st' := h
    cases hl : c.live with
    | false => simp only [hl] at h'; cases h'
    | true =>
      simp only [hl, if_true] at h'
      obtain ⟨n1, n2⟩ := List.nodup_cons.mp nd
      obtain ⟨q1, q2, q3, q4⟩ := putBack_at h' n2
      refine ⟨by rw [q1, List.length_set], congrArg Nat.succ q2, fun i hi => ?_, fun k m e hm => ?_⟩
      · rw [q3 i fun z => hi (List.mem_cons_of_mem _ z), List.getElem?_set_ne (fun z => hi (by rw [z]; exact List.mem_cons_self))]
      · cases k with
        | zero =>
          have : n = m := by simpa using e
          subst this
          rw [q3 n n1, List.getElem?_set_self (by omega)]
          rfl
        | succ k => exact q4 k m (by simpa using e) (by rw [List.length_set]; exact hm)
theorem ContsR.get {R : RC} {F' H' : Hp} : ∀ {l : List Addr} {cs : List Cont} {k : Nat} {a : Addr} {c : Cont}, ContsR R F' H' l cs → l[k]? = some a → cs[k]? = some c → c.live = true ∧ ContR R F' H' a c
  | _, _, k, _, _, .nil, e, _ => by cases k <;> cases e
  | _, _, 0, _, _, .cons h c _, e, e2 => by simp at e e2; subst e; subst e2; exact ⟨h, c⟩
  | _, _, k + 1, a, c, .cons _ _ t, e, e2 => ContsR.get (k := k) t (by simpa using e) (by simpa using e2)
theorem ER.called (r : ER B g H σ ρ st) {xs : List V} {as : List (Sum D Nat)} {l : List Addr} {cs : List Cont} {F' H' : Hp} {st' : Store} (p : PrepR B.R g xs as l) (nd : (locsA as).Nodup)
    (hlive : ∀ (n : Nat), n ∈ locsA as → ∃ c, st[n]? = some c ∧ c.live = true) (po : PostR B.R g.F H F' H' l cs) (hb : putBack (locsA as) cs st = some st') :
    ER B ⟨F', g.A⟩ H' σ ρ st' ∧ Step g H ⟨F', g.A⟩ H' := by
  obtain ⟨q1, q2, q3, q4⟩ := putBack_at hb nd
  obtain ⟨h1, h2⟩ := p.locs
  have memL : ∀ b, b ∈ l → ∃ n, n ∈ locsA as ∧ g.A[n]? = some b := fun b hb => by
    obtain ⟨i, hi⟩ := List.getElem?_of_mem hb
    have hi' : i < (locsA as).length := by rw [← h1]; exact (List.getElem?_eq_some_iff.mp hi).1
    obtain ⟨e, _⟩ := h2 i (locsA as)[i] (List.getElem?_eq_getElem hi')
    exact ⟨_, List.getElem_mem hi', by rw [← e]; exact hi⟩
  have lMem : ∀ n, n ∈ locsA as → ∃ k a, (locsA as)[k]? = some n ∧ l[k]? = some a ∧ g.A[n]? = some a := fun n hn => by
    obtain ⟨k, hk⟩ := List.getElem?_of_mem hn
    obtain ⟨e, a, ea⟩ := h2 k n hk
    exact ⟨k, a, hk, by rw [e]; exact ea, ea⟩
  refine ⟨r.next ⟨po.same, List.prefix_refl _⟩ po.le (fun b hb => ?_) (fun b o e => ?_) (by rw [q1]; exact r.len) r.nodup (fun i c hi e => ?_) (fun i a hi e => ?_) (fun i a e => ?_) fun i a c e1 e2 => ?_, ⟨⟨po.same, List.prefix_refl _⟩, fun b o e hb => ?_, fun b hb => ?_, fun b hb => .inl hb⟩⟩
  · rcases po.fresh b hb with z | z
    · exact .inl z
    · exact .inr (r.fresh0 z).2.2.1
  · by_cases hl : b ∈ l
    · obtain ⟨n, hn, hA⟩ := memL b hl
      obtain ⟨c, hc, hcl⟩ := hlive n hn
      exact .inl ⟨n, c, hA, hc, hcl⟩
    · exact .inr (po.keep b o e hl)
  · by_cases hm : i ∈ locsA as
    · obtain ⟨k, a, hk, hl, hA⟩ := lMem i hm
      have hi2 : i < st.length := by
        have := (List.getElem?_eq_some_iff.mp hA).1
        rw [r.len] at this; exact this
      rw [q4 k i hk hi2] at e
      exact (po.conts.get hl e).1
    · rw [q3 i hm] at e
      exact r.iolive i c hi e
  · have := (List.getElem?_eq_some_iff.mp e).1
    exact absurd this (by simp only; omega)
  · by_cases hm : i ∈ locsA as
    · obtain ⟨k, a', hk, hl, hA⟩ := lMem i hm
      have e' : g.A[i]? = some a := e
      rw [hA] at e'; cases e'
      have hi2 : i < st.length := by
        have := (List.getElem?_eq_some_iff.mp hA).1
        rw [r.len] at this; exact this
      obtain ⟨c, hc⟩ : ∃ c, cs[k]? = some c := by
        have : k < cs.length := by rw [← q2]; exact (List.getElem?_eq_some_iff.mp hk).1
        exact ⟨_, List.getElem?_eq_getElem this⟩
      obtain ⟨z1, z2⟩ := po.conts.get hl hc
      exact z2.there z1
    · have e' : g.A[i]? = some a := e
      cases q : H a with
      | none => exact absurd q (r.there i a e')
      | some o =>
        have hl : a ∉ l := fun hl => by
          obtain ⟨n, hn, hA⟩ := memL a hl
          exact hm (by rw [getA r.nodup e' hA]; exact hn)
        rw [po.keep a o q hl]; intro z; cases z
  · by_cases hm : i ∈ locsA as
    · obtain ⟨k, a', hk, hl, hA⟩ := lMem i hm
      have e' : g.A[i]? = some a := e1
      rw [hA] at e'; cases e'
      have hi2 : i < st.length := by
        have := (List.getElem?_eq_some_iff.mp hA).1
        rw [r.len] at this; exact this
      rw [q4 k i hk hi2] at e2
      exact (po.conts.get hl e2).2
    · rw [q3 i hm] at e2
      have e' : g.A[i]? = some a := e1
      have hl : a ∉ l := fun hl => by
        obtain ⟨n, hn, hA⟩ := memL a hl
        exact hm (by rw [getA r.nodup e' hA]; exact hn)
      refine (r.conts i a c e' e2).F po.same (fun hc => ?_) (fun _ => ?_)
      · show F' a = none
        cases z : F' a with
        | none => rfl
        | some o =>
          rcases po.fresh a (by rw [z]; intro w; cases w) with w | w
          · exact absurd ((r.conts i a c e' e2).out hc) w
          · exact absurd w (r.there i a e')
      · cases q : H a with
        | none => exact absurd q (r.there i a e')
        | some o => exact po.keep a o q hl
  · have hl : b ∉ l := fun hl => by
      obtain ⟨n, _, hA⟩ := memL b hl
      exact hb (List.mem_of_getElem? hA)
    exact po.keep b o e hl
  · rcases po.fresh b hb with z | z
    · exact .inl z
    · exact .inr (.inl z)
/-- a list that was made beside becomes the store's -/
theorem ER.adopt (r : ER B g H σ ρ st) {p : Addr} {xs : List V} {ds : List D} (h : H p = some (.lst xs)) (k : RepL B.R g.F xs ds) (hA : p ∉ g.A) (hF : g.F p = none) (h0 : B.H0 p = none) : ER B ⟨g.F, g.A ++ [p]⟩ H σ ρ (st ++ [.lst ds]) := by
  have lastA : ∀ (i : Nat) (a : Addr), (g.A ++ [p])[i]? = some a → g.A[i]? = some a ∨ (i = g.A.length ∧ a = p) := fun i a e => by
    by_cases hi : i < g.A.length
    · rw [List.getElem?_append_left hi] at e; exact .inl e
    · rw [List.getElem?_append_right (by omega)] at e
      have hi2 : i - g.A.length = 0 := by
        have := (List.getElem?_eq_some_iff.mp e).1
        simp at this; omega
      rw [hi2] at e
      simp at e
      exact .inr ⟨by omega, e.symm⟩
  refine r.next ⟨Same.refl _, List.prefix_append _ _⟩ r.le (fun b hb => .inl hb) (fun b u e => .inr e) ?_ ?_ (fun i c' hi e => ?_) (fun i a hi e => ?_) (fun i a e => ?_) fun i a c' e1 e2 => ?_
  · simp [r.len]
  · refine List.nodup_append.mpr ⟨r.nodup, by simp, fun x hx y hy => ?_⟩
    have : y = p := by simpa using hy
    subst this
    intro z; subst z; exact hA hx
  · by_cases h' : i < st.length
    · rw [List.getElem?_append_left h'] at e
      exact r.iolive i c' hi e
    · rw [List.getElem?_append_right (by omega)] at e
      have := (List.getElem?_eq_some_iff.mp e).1
      simp at this
      have hz : i - st.length = 0 := by omega
      rw [hz] at e
      simp at e
      rw [← e]; rfl
  · rcases lastA i a e with q | ⟨_, q⟩
    · have := (List.getElem?_eq_some_iff.mp q).1
      exact absurd this (by omega)
    · rw [q]; exact h0
  · rcases lastA i a e with q | ⟨_, q⟩
    · exact r.there i a q
    · rw [q, h]; intro z; cases z
  · rcases lastA i a e1 with q | ⟨qi, q⟩
    · have hi : i < st.length := by
        have := (List.getElem?_eq_some_iff.mp q).1
        rw [r.len] at this; exact this
      rw [List.getElem?_append_left hi] at e2
      exact r.conts i a c' q e2
    · have hi : i = st.length := by rw [qi, r.len]
      subst hi
      rw [List.getElem?_append_right (Nat.le_refl _)] at e2
      simp at e2
      rw [← e2, q]
      exact ⟨hF, xs, h, k⟩
/-- THE CALL: what is wanted behind it gives the promise -/
theorem call_pst (r : ER B g H σ ρ st) {fi : FnI} {xs dvs : List V} {vs : List Val} {n : Nat} (h : ValsR B.R B.ex g.F g.A xs vs) (hd : ∀ F, RepL B.R F dvs fi.dfl) (hn : xs.length + dvs.length = n)
    (p : Pst B W g H σ ρ (callS B.io.length fi vs st) (kV B Q)) : spOf B.R n fi.f (xs ++ dvs) H Q (WE W σ) := by
  have p' : Pst B W g H σ ρ ((frA B.io.length fi.muts vs st).bind fun as st => if noDup (locsA as) then
    pick (mkA st as) fun args => match fi.f (args ++ fi.dfl.map .fz) with
      | .ok d cs => pick (putBack (locsA as) cs st) fun st => .ok (.fz d) st
      | .okl ds cs => pick (putBack (locsA as) cs st) fun st => .ok (.loc st.length) (st ++ [.lst ds])
      | .exc x cs => pick (putBack (locsA as) cs st) fun st => .exc x st
      | .stuck => .stuck
    else .stuck) (kV B Q) := p
  cases e1 : PD.frA B.io.length fi.muts vs st with
  | stuck => rw [e1] at p'; exact p'.elim
  | exc x st1 => exact (frA_no_exc e1).elim
  | ok as st1 =>
    rw [e1] at p'
    obtain ⟨F1, l, r1, s1, pr⟩ := r.frA h e1
    cases e2 : noDup (locsA as) with
    | false => simp only [Res.bind, e2] at p'; exact p'.elim
    | true =>
      simp only [Res.bind, e2, if_true] at p'
      obtain ⟨args, e3, p2⟩ := Pst.pick p'
      obtain ⟨hA, hL⟩ := pr.args r1 e3
      have hnd := noDup_ok e2
      have hA2 := hA.app (hd F1)
      refine ⟨F1, args ++ fi.dfl.map .fz, l, ?_, r1.le, hA2, pr.nodup r1 hnd, ?_⟩
      · rw [← hA2.length, List.length_append]; exact hn
      · cases e4 : fi.f (args ++ fi.dfl.map .fz) with
        | stuck => simp only [e4] at p2; exact p2
        | ok d cs =>
          simp only [e4] at p2 ⊢
          intro x F' H' po rep
          obtain ⟨st2, e5, p3⟩ := Pst.pick p2
          obtain ⟨r2, s2⟩ := r1.called pr hnd hL po e5
          exact p3 _ _ r2 (s1.trans s2) x rep
        | okl ds cs =>
          simp only [e4] at p2 ⊢
          intro a ys F' H' po fa ha ha' rep
          obtain ⟨st2, e5, p3⟩ := Pst.pick p2
          obtain ⟨r2, s2⟩ := r1.called pr hnd hL po e5
          obtain ⟨f1, f2, f3, f4⟩ := r1.fresh0 ha
          refine p3 ⟨F', g.A ++ [a]⟩ H' (r2.adopt ha' rep f2 fa f3) ⟨⟨(s1.trans s2).le.F, (s1.trans s2).le.A.trans (List.prefix_append _ _)⟩, (s1.trans s2).frame, (s1.trans s2).freshF, fun b hb => ?_⟩ (.ref a) ⟨a, ?_, rfl⟩
          · rcases List.mem_append.mp hb with q | q
            · exact (s1.trans s2).freshA b q
            · have : b = a := by simpa using q
              exact .inr (by rw [this]; exact ha)
          · have h := r2.len
            rw [← h]; simp
        | exc e cs =>
          simp only [e4] at p2 ⊢
          intro cls dd F' H' po xr
          obtain ⟨st2, e5, p3⟩ := Pst.pick p2
          obtain ⟨r2, s2⟩ := r1.called pr hnd hL po e5
          exact p3 _ _ cls dd r2 (s1.trans s2) xr
end
end PD

/-! PD9 -/
set_option Elab.async false
set_option linter.all false
set_option maxRecDepth 100000
set_option maxHeartbeats 4000000
/-! PD: what the check tells of the text. -/
namespace PD
open PySem PySem.Spec PyProof.Rows L2
section
variable {T : Tab} {sc : Scope} {calm m : Bool} {e : Expr}
theorem b2 {a b : Bool} (h : (a && b) = true) : a = true ∧ b = true := Bool.and_eq_true_iff.mp h
theorem chk_var {i : Nat} (h : chk T sc calm (.var i) m e = true) : ∃ x pos, e = .Name x pos ∧ T.N[i]? = some x ∧ visB sc x = true ∧ PD.seen x = true := by
  cases e with
  | Name x pos =>
    obtain ⟨h1, h2⟩ := b2 h
    obtain ⟨h2, h3⟩ := b2 h2
    exact ⟨x, pos, rfl, of_decide_eq_true h1, h2, h3⟩
  | _ => exact Bool.noConfusion (show false = true from h)
theorem chk_lit {d : D} (h : chk T sc calm (.lit d) m e = true) : ∃ c k pos, e = .Constant c k pos ∧ litB d c = true := by
  cases e with
  | Constant c k pos => exact ⟨c, k, pos, rfl, h⟩
  | _ => exact Bool.noConfusion (show false = true from h)
theorem chk_glo {j : Nat} (h : chk T sc calm (.glo j) m e = true) : ∃ x pos, e = .Name x pos ∧ T.con[j]? = some x ∧ glB sc x = true ∧ PD.seen x = true := by
  cases e with
  | Name x pos =>
    obtain ⟨h1, h2⟩ := b2 h
    obtain ⟨h2, h3⟩ := b2 h2
    exact ⟨x, pos, rfl, of_decide_eq_true h1, h2, h3⟩
  | _ => exact Bool.noConfusion (show false = true from h)
theorem chk_bin {o : Bop} {a b : Ex} (h : chk T sc calm (.bin o a b) m e = true) : ∃ ea eb pos, e = .BinOp ea o.op eb pos ∧ chk T sc calm a false ea = true ∧ chk T sc calm b false eb = true := by
  cases e with
  | BinOp ea op eb pos =>
    obtain ⟨h1, h2⟩ := b2 h
    obtain ⟨h2, h3⟩ := b2 h2
    rw [bopB_ok h1]
    exact ⟨ea, eb, pos, rfl, h2, h3⟩
  | _ => exact Bool.noConfusion (show false = true from h)
theorem chk_cmp {o : Cop} {a b : Ex} (h : chk T sc calm (.cmp o a b) m e = true) : ∃ ea eb pos, e = .Compare ea [o.op] [eb] pos ∧ plainE eb = true ∧ chk T sc calm a false ea = true ∧ chk T sc calm b false eb = true := by
  cases e with
  | Compare ea ops es pos =>
    cases ops with
    | nil => exact Bool.noConfusion (show false = true from h)
    | cons op ops =>
      cases ops with
      | cons _ _ => exact Bool.noConfusion (show false = true from h)
      | nil =>
        cases es with
        | nil => exact Bool.noConfusion (show false = true from h)
        | cons eb es =>
          cases es with
          | cons _ _ => exact Bool.noConfusion (show false = true from h)
          | nil =>
            obtain ⟨h1, h2⟩ := b2 h
            obtain ⟨h2, h3⟩ := b2 h2
            obtain ⟨h3, h4⟩ := b2 h3
            rw [copB_ok h1]
            exact ⟨ea, eb, pos, rfl, h2, h3, h4⟩
  | _ => exact Bool.noConfusion (show false = true from h)
theorem chk_chain {o o' : Cop} {a b c : Ex} (h : chk T sc calm (.chain o o' a b c) m e = true) : ∃ ea eb ec pos, e = .Compare ea [o.op, o'.op] [eb, ec] pos ∧ plainE eb = true ∧ plainE ec = true ∧ chk T sc calm a false ea = true ∧ chk T sc calm b false eb = true ∧ chk T sc calm c false ec = true := by
  cases e with
  | Compare ea ops es pos =>
    cases ops with
    | nil => exact Bool.noConfusion (show false = true from h)
    | cons op ops =>
      cases ops with
      | nil => exact Bool.noConfusion (show false = true from h)
      | cons op' ops =>
        cases ops with
        | cons _ _ => exact Bool.noConfusion (show false = true from h)
        | nil =>
          cases es with
          | nil => exact Bool.noConfusion (show false = true from h)
          | cons eb es =>
            cases es with
            | nil => exact Bool.noConfusion (show false = true from h)
            | cons ec es =>
              cases es with
              | cons _ _ => exact Bool.noConfusion (show false = true from h)
              | nil =>
                obtain ⟨h1, h2⟩ := b2 h
                obtain ⟨h2, h3⟩ := b2 h2
                obtain ⟨h3, h4⟩ := b2 h3
                obtain ⟨h4, h5⟩ := b2 h4
                obtain ⟨h5, h6⟩ := b2 h5
                obtain ⟨h6, h7⟩ := b2 h6
                rw [copB_ok h1, copB_ok h2]
                exact ⟨ea, eb, ec, pos, rfl, h3, h4, h5, h6, h7⟩
  | _ => exact Bool.noConfusion (show false = true from h)
theorem chk_neg {a : Ex} (h : chk T sc calm (.neg a) m e = true) : ∃ ea pos, e = .UnaryOp .USub ea pos ∧ m = false ∧ chk T sc calm a false ea = true := by
  cases e with
  | UnaryOp op ea pos =>
    cases op with
    | USub =>
      obtain ⟨h1, h2⟩ := b2 h
      exact ⟨ea, pos, rfl, by simpa using h1, h2⟩
    | _ => exact Bool.noConfusion (show false = true from h)
  | _ => exact Bool.noConfusion (show false = true from h)
theorem chk_not {a : Ex} (h : chk T sc calm (.not_ a) m e = true) : ∃ ea pos, e = .UnaryOp .Not ea pos ∧ chk T sc calm a m ea = true := by
  cases e with
  | UnaryOp op ea pos =>
    cases op with
    | Not => exact ⟨ea, pos, rfl, h⟩
    | _ => exact Bool.noConfusion (show false = true from h)
  | _ => exact Bool.noConfusion (show false = true from h)
theorem chk_and {a b : Ex} (h : chk T sc calm (.and_ a b) m e = true) : ∃ ea eb rest pos, e = .BoolOp .And (ea :: eb :: rest) pos ∧ chk T sc calm a m ea = true ∧
    ((rest = [] ∧ chk T sc calm b m eb = true) ∨ (rest ≠ [] ∧ chk T sc calm b m (.BoolOp .And (eb :: rest) pos) = true)) := by
  cases e with
  | BoolOp op es pos =>
    cases op with
    | Or => cases es with
      | nil => exact Bool.noConfusion (show false = true from h)
      | cons ea es => cases es <;> exact Bool.noConfusion (show false = true from h)
    | And =>
      cases es with
      | nil => exact Bool.noConfusion (show false = true from h)
      | cons ea es =>
        cases es with
        | nil => exact Bool.noConfusion (show false = true from h)
        | cons eb rest =>
          cases rest with
          | nil =>
            obtain ⟨h1, h2⟩ := b2 (show (chk T sc calm a m ea && chk T sc calm b m eb) = true from h)
            exact ⟨ea, eb, [], pos, rfl, h1, .inl ⟨rfl, h2⟩⟩
          | cons ec rest =>
            obtain ⟨h1, h2⟩ := b2 (show (chk T sc calm a m ea && chk T sc calm b m (.BoolOp .And (eb :: ec :: rest) pos)) = true from h)
            exact ⟨ea, eb, ec :: rest, pos, rfl, h1, .inr ⟨List.cons_ne_nil _ _, h2⟩⟩
  | _ => exact Bool.noConfusion (show false = true from h)
theorem chk_or {a b : Ex} (h : chk T sc calm (.or_ a b) m e = true) : ∃ ea eb rest pos, e = .BoolOp .Or (ea :: eb :: rest) pos ∧ chk T sc calm a m ea = true ∧
    ((rest = [] ∧ chk T sc calm b m eb = true) ∨ (rest ≠ [] ∧ chk T sc calm b m (.BoolOp .Or (eb :: rest) pos) = true)) := by
  cases e with
  | BoolOp op es pos =>
    cases op with
    | And => cases es with
      | nil => exact Bool.noConfusion (show false = true from h)
      | cons ea es => cases es <;> exact Bool.noConfusion (show false = true from h)
    | Or =>
      cases es with
      | nil => exact Bool.noConfusion (show false = true from h)
      | cons ea es =>
        cases es with
        | nil => exact Bool.noConfusion (show false = true from h)
        | cons eb rest =>
          cases rest with
          | nil =>
            obtain ⟨h1, h2⟩ := b2 (show (chk T sc calm a m ea && chk T sc calm b m eb) = true from h)
            exact ⟨ea, eb, [], pos, rfl, h1, .inl ⟨rfl, h2⟩⟩
          | cons ec rest =>
            obtain ⟨h1, h2⟩ := b2 (show (chk T sc calm a m ea && chk T sc calm b m (.BoolOp .Or (eb :: ec :: rest) pos)) = true from h)
            exact ⟨ea, eb, ec :: rest, pos, rfl, h1, .inr ⟨List.cons_ne_nil _ _, h2⟩⟩
  | _ => exact Bool.noConfusion (show false = true from h)
theorem chk_ife {c a b : Ex} (h : chk T sc calm (.ife c a b) m e = true) : ∃ ec ea eb pos, e = .IfExp ec ea eb pos ∧ m = false ∧ chk T sc calm c true ec = true ∧ chk T sc calm a false ea = true ∧ chk T sc calm b false eb = true := by
  cases e with
  | IfExp ec ea eb pos =>
    obtain ⟨h1, h2⟩ := b2 h
    obtain ⟨h2, h3⟩ := b2 h2
    obtain ⟨h3, h4⟩ := b2 h3
    exact ⟨ec, ea, eb, pos, rfl, by simpa using h1, h2, h3, h4⟩
  | _ => exact Bool.noConfusion (show false = true from h)
theorem chk_tru {a : Ex} (h : chk T sc calm (.tru a) m e = true) : m = true ∧ plainT e = true ∧ chk T sc calm a false e = true := by
  have h' : (m && (plainT e && chk T sc calm a false e)) = true := by cases e <;> exact h
  obtain ⟨h1, h2⟩ := b2 h'
  obtain ⟨h2, h3⟩ := b2 h2
  exact ⟨h1, h2, h3⟩
theorem chk_tup {es : Exs} (h : chk T sc calm (.tup es) m e = true) : ∃ ees k pos, e = .Tuple ees k pos ∧ m = false ∧ chks T sc calm es ees = true := by
  cases e with
  | Tuple ees k pos =>
    obtain ⟨h1, h2⟩ := b2 h
    exact ⟨ees, k, pos, rfl, by simpa using h1, h2⟩
  | _ => exact Bool.noConfusion (show false = true from h)
theorem chk_lst {es : Exs} (h : chk T sc calm (.lst es) m e = true) : ∃ ees pos, e = .List ees pos ∧ m = false ∧ chks T sc calm es ees = true := by
  cases e with
  | List ees pos =>
    obtain ⟨h1, h2⟩ := b2 h
    exact ⟨ees, pos, rfl, by simpa using h1, h2⟩
  | _ => exact Bool.noConfusion (show false = true from h)
theorem chk_idx {a i : Ex} (h : chk T sc calm (.idx a i) m e = true) : ∃ ea ei pos, e = .Subscript ea ei pos ∧ plainE ei = true ∧ chk T sc calm a false ea = true ∧ chk T sc calm i false ei = true := by
  cases e with
  | Subscript ea ei pos =>
    obtain ⟨h1, h2⟩ := b2 h
    obtain ⟨h2, h3⟩ := b2 h2
    exact ⟨ea, ei, pos, rfl, h1, h2, h3⟩
  | _ => exact Bool.noConfusion (show false = true from h)
theorem chk_slc {a lo hi : Ex} (h : chk T sc calm (.slc a lo hi) m e = true) : ∃ ea elo ehi p pos, e = .Subscript ea (.Slice elo ehi none p) pos ∧ m = false ∧ chk T sc calm a false ea = true ∧
    ((elo = none ∧ lo = .none_) ∨ ∃ x, elo = some x ∧ chk T sc calm lo false x = true) ∧ ((ehi = none ∧ hi = .none_) ∨ ∃ x, ehi = some x ∧ chk T sc calm hi false x = true) := by
  cases e with
  | Subscript ea ei pos =>
    cases ei with
    | Slice elo ehi st p =>
      cases st with
      | some _ => exact Bool.noConfusion (show false = true from h)
      | none =>
        obtain ⟨h1, h2⟩ := b2 h
        obtain ⟨h2, h3⟩ := b2 h2
        obtain ⟨h3, h4⟩ := b2 h3
        have non : ∀ {x : Ex}, x.isNone = true → x = .none_ := fun {x} q => by cases x <;> first | rfl | exact Bool.noConfusion (show false = true from q)
        refine ⟨ea, elo, ehi, p, pos, rfl, by simpa using h1, h2, ?_, ?_⟩
        · cases elo with
          | none => exact .inl ⟨rfl, non h3⟩
          | some x => exact .inr ⟨x, rfl, h3⟩
        · cases ehi with
          | none => exact .inl ⟨rfl, non h4⟩
          | some x => exact .inr ⟨x, rfl, h4⟩
    | _ => exact Bool.noConfusion (show false = true from h)
  | _ => exact Bool.noConfusion (show false = true from h)
theorem chk_call {j : Nat} {es : Exs} (h : chk T sc calm (.call j es) m e = true) : ∃ x p ea ees pos, e = .Call (.Name x p) (ea :: ees) [] pos ∧ T.fns[j]? = some (x, ees.length + 1) ∧ glB sc x = true ∧ PD.seen x = true ∧ calm = true ∧ chks T sc calm es (ea :: ees) = true := by
  cases e with
  | Call f ees kws pos =>
    cases f with
    | Name x p =>
      cases kws with
      | cons _ _ => exact Bool.noConfusion (show false = true from h)
      | nil =>
        cases ees with
        | nil => exact Bool.noConfusion (show false = true from (b2 (b2 h).2).1)
        | cons ea ees =>
          obtain ⟨k1, q1⟩ := b2 h
          obtain ⟨k2, q2⟩ := b2 q1
          obtain ⟨k3, q3⟩ := b2 q2
          obtain ⟨k4, q4⟩ := b2 q3
          obtain ⟨k5, k6⟩ := b2 q4
          exact ⟨x, p, ea, ees, pos, rfl, of_decide_eq_true k1, k3, k4, k5, k6⟩
    | _ => exact Bool.noConfusion (show false = true from h)
  | _ => exact Bool.noConfusion (show false = true from h)
def Bfn.has (T : Tab) : Bfn → Bool
  | .gcd => T.gcd
  | f => T.free.contains f.nm
theorem chk_bfn {f : Bfn} {es : Exs} (h : chk T sc calm (.bfn f es) m e = true) : ∃ p ea ees pos, e = .Call (.Name f.nm p) (ea :: ees) [] pos ∧ glB sc f.nm = true ∧ f.has T = true ∧ (f.calm = true → calm = true) ∧ chks T sc calm es (ea :: ees) = true := by
  cases e with
  | Call g ees kws pos =>
    cases g with
    | Name x p =>
      cases kws with
      | cons _ _ => exact Bool.noConfusion (show false = true from h)
      | nil =>
        cases ees with
        | nil => exact Bool.noConfusion (show false = true from (b2 (b2 h).2).1)
        | cons ea ees =>
          obtain ⟨k1, q1⟩ := b2 h
          obtain ⟨k2, q2⟩ := b2 q1
          obtain ⟨k3, q3⟩ := b2 q2
          obtain ⟨k4, q4⟩ := b2 q3
          obtain ⟨k5, k6⟩ := b2 q4
          have hx : x = f.nm := of_decide_eq_true k1
          subst hx
          refine ⟨p, ea, ees, pos, rfl, k3, ?_, fun z => ?_, k6⟩
          · cases f <;> exact k4
          · rw [z] at k5
            simpa using k5
    | _ => exact Bool.noConfusion (show false = true from h)
  | _ => exact Bool.noConfusion (show false = true from h)
theorem chk_mth {a : Ex} {es : Exs} (h : chk T sc calm (.mth .bitlen a es) m e = true) : ∃ eo ap cp, e = .Call (.Attribute eo "bit_length" ap) [] [] cp ∧ m = false ∧ notSuper eo = true ∧ (ap.endLine == cp.line) = true ∧ chk T sc calm a false eo = true ∧ es = .nil := by
  cases e with
  | Call g ees kws cp =>
    cases g with
    | Attribute eo x ap =>
      cases ees with
      | cons _ _ => exact Bool.noConfusion (show false = true from h)
      | nil =>
        cases kws with
        | cons _ _ => exact Bool.noConfusion (show false = true from h)
        | nil =>
          obtain ⟨h1, h2⟩ := b2 h
          obtain ⟨h2, h3⟩ := b2 h2
          obtain ⟨h3, h4⟩ := b2 h3
          obtain ⟨h4, h5⟩ := b2 h4
          obtain ⟨h5, h6⟩ := b2 h5
          have hx : x = "bit_length" := of_decide_eq_true h2
          subst hx
          refine ⟨eo, ap, cp, rfl, by simpa using h1, h3, h4, h5, ?_⟩
          cases es with
          | nil => rfl
          | cons _ _ => exact Bool.noConfusion (show false = true from h6)
    | _ => cases ees <;> cases kws <;> exact Bool.noConfusion (show false = true from h)
  | _ => exact Bool.noConfusion (show false = true from h)
theorem chk_isi {a : Ex} {ts : List TyN} {tp : Bool} (h : chk T sc calm (.isi a ts tp) m e = true) : ∃ p ea et pos, e = .Call (.Name "isinstance" p) [ea, et] [] pos ∧ T.free.contains "isinstance" = true ∧ glB sc "isinstance" = true ∧ plainE ea = true ∧ plainE et = true ∧ chk T sc calm a false ea = true ∧
    ((∃ t, ts = [t] ∧ tynB T sc t et = true) ∨ ∃ ets k p2, et = .Tuple ets k p2 ∧ ts.length ≤ 8 ∧ ts ≠ [] ∧ tynsB T sc ts ets = true) := by
  cases e with
  | Call g ees kws pos =>
    cases g with
    | Name x p =>
      cases ees with
      | nil => exact Bool.noConfusion (show false = true from h)
      | cons ea ees =>
        cases ees with
        | nil => exact Bool.noConfusion (show false = true from h)
        | cons et ees =>
          cases ees with
          | cons _ _ => exact Bool.noConfusion (show false = true from h)
          | nil =>
            cases kws with
            | cons _ _ => exact Bool.noConfusion (show false = true from h)
            | nil =>
              obtain ⟨h1, h2⟩ := b2 h
              obtain ⟨h2, h3⟩ := b2 h2
              obtain ⟨h3, h4⟩ := b2 h3
              obtain ⟨h4, h5⟩ := b2 h4
              obtain ⟨h5, h6⟩ := b2 h5
              obtain ⟨h6, h7⟩ := b2 h6
              have hx : x = "isinstance" := of_decide_eq_true h1
              subst hx
              refine ⟨p, ea, et, pos, rfl, h2, h3, h4, h5, h6, ?_⟩
              cases tp with
              | false =>
                cases ts with
                | nil => exact Bool.noConfusion (show false = true from h7)
                | cons t ts =>
                  cases ts with
                  | cons _ _ => exact Bool.noConfusion (show false = true from h7)
                  | nil => exact .inl ⟨t, rfl, h7⟩
              | true =>
                cases et with
                | Tuple ets k p2 => exact .inr ⟨ets, k, p2, rfl, (of_decide_eq_true (b2 h7).1).1, (of_decide_eq_true (b2 h7).1).2, (b2 h7).2⟩
                | _ => exact Bool.noConfusion (show false = true from h7)
    | _ => exact Bool.noConfusion (show false = true from h)
  | _ => exact Bool.noConfusion (show false = true from h)
theorem chk_isv {i : Nat} {n : String} (h : chk T sc calm (.isv i n) m e = true) : ∃ p y py et pos, e = .Call (.Name "isinstance" p) [.Name y py, et] [] pos ∧ calm = false ∧ T.free.contains "isinstance" = true ∧ glB sc "isinstance" = true ∧ T.N[i]? = some y ∧ visB sc y = true ∧ PD.seen y = true ∧ plainE et = true ∧ tynB T sc (.ty n) et = true := by
  cases e with
  | Call g ees kws pos =>
    cases g with
    | Name x p =>
      cases ees with
      | nil => exact Bool.noConfusion (show false = true from h)
      | cons ea ees =>
        cases ea with
        | Name y py =>
          cases ees with
          | nil => exact Bool.noConfusion (show false = true from h)
          | cons et ees =>
            cases ees with
            | cons _ _ => exact Bool.noConfusion (show false = true from h)
            | nil =>
              cases kws with
              | cons _ _ => exact Bool.noConfusion (show false = true from h)
              | nil =>
                obtain ⟨h0, h⟩ := b2 h
                obtain ⟨h1, h2⟩ := b2 h
                obtain ⟨h2, h3⟩ := b2 h2
                obtain ⟨h3, h4⟩ := b2 h3
                obtain ⟨h4, h5⟩ := b2 h4
                obtain ⟨h5, h6⟩ := b2 h5
                obtain ⟨h6, h7⟩ := b2 h6
                obtain ⟨h7, h8⟩ := b2 h7
                have hx : x = "isinstance" := of_decide_eq_true h1
                subst hx
                exact ⟨p, y, py, et, pos, rfl, by simpa using h0, h2, h3, of_decide_eq_true h4, h5, h6, h7, h8⟩
        | _ => exact Bool.noConfusion (show false = true from h)
    | _ => exact Bool.noConfusion (show false = true from h)
  | _ => exact Bool.noConfusion (show false = true from h)
theorem chk_isx {i : Nat} {ts : List Str} {tp : Bool} (h : chk T sc calm (.isx i ts tp) m e = true) : ∃ p y py et pos, e = .Call (.Name "isinstance" p) [.Name y py, et] [] pos ∧ calm = false ∧ T.free.contains "isinstance" = true ∧ glB sc "isinstance" = true ∧ T.N[i]? = some y ∧ visB sc y = true ∧ PD.seen y = true ∧ plainE et = true ∧
    ((∃ t, ts = [t] ∧ clsB T sc t et = true) ∨ ∃ ets k p2, et = .Tuple ets k p2 ∧ ts.length ≤ 8 ∧ ts ≠ [] ∧ clssB T sc ts ets = true) := by
  cases e with
  | Call g ees kws pos =>
    cases g with
    | Name x p =>
      cases ees with
      | nil => exact Bool.noConfusion (show false = true from h)
      | cons ea ees =>
        cases ea with
        | Name y py =>
          cases ees with
          | nil => exact Bool.noConfusion (show false = true from h)
          | cons et ees =>
            cases ees with
            | cons _ _ => exact Bool.noConfusion (show false = true from h)
            | nil =>
              cases kws with
              | cons _ _ => exact Bool.noConfusion (show false = true from h)
              | nil =>
                obtain ⟨h0, h⟩ := b2 h
                obtain ⟨h1, h2⟩ := b2 h
                obtain ⟨h2, h3⟩ := b2 h2
                obtain ⟨h3, h4⟩ := b2 h3
                obtain ⟨h4, h5⟩ := b2 h4
                obtain ⟨h5, h6⟩ := b2 h5
                obtain ⟨h6, h7⟩ := b2 h6
                obtain ⟨h7, h8⟩ := b2 h7
                have hx : x = "isinstance" := of_decide_eq_true h1
                subst hx
                refine ⟨p, y, py, et, pos, rfl, by simpa using h0, h2, h3, of_decide_eq_true h4, h5, h6, h7, ?_⟩
                cases tp with
                | false =>
                  cases ts with
                  | nil => exact Bool.noConfusion (show false = true from h8)
                  | cons t ts =>
                    cases ts with
                    | cons _ _ => exact Bool.noConfusion (show false = true from h8)
                    | nil => exact .inl ⟨t, rfl, h8⟩
                | true =>
                  cases et with
                  | Tuple ets k p2 => exact .inr ⟨ets, k, p2, rfl, (of_decide_eq_true (b2 h8).1).1, (of_decide_eq_true (b2 h8).1).2, (b2 h8).2⟩
                  | _ => exact Bool.noConfusion (show false = true from h8)
        | _ =>
          first
            | exact Bool.noConfusion (show false = true from h)
            | (cases ees with
              | nil => exact Bool.noConfusion (show false = true from h)
              | cons _ ees => cases ees <;> cases kws <;> exact Bool.noConfusion (show false = true from h))
    | _ => exact Bool.noConfusion (show false = true from h)
  | _ => exact Bool.noConfusion (show false = true from h)
theorem chk_xfld {i : Nat} {f : Str} (h : chk T sc calm (.xfld i f) m e = true) : ∃ y yp p, e = .Attribute (.Name y yp) f p ∧ m = false ∧ calm = false ∧ T.N[i]? = some y ∧ visB sc y = true ∧ PD.seen y = true ∧ (y == ("super" : Str)) = false := by
  cases e with
  | Attribute o n p =>
    cases o with
    | Name y yp =>
      obtain ⟨h1, q2⟩ := b2 h
      obtain ⟨h2, q3⟩ := b2 q2
      obtain ⟨h3, q4⟩ := b2 q3
      obtain ⟨h4, q5⟩ := b2 q4
      obtain ⟨h5, q6⟩ := b2 q5
      obtain ⟨h6, h7⟩ := b2 q6
      clear q2 q3 q4 q5 q6 h
      have hn : n = f := of_decide_eq_true h3
      subst hn
      exact ⟨y, yp, p, rfl, by simpa using h1, by simpa using h2, of_decide_eq_true h4, h5, h6, by simpa using h7⟩
    | _ => exact Bool.noConfusion (show false = true from h)
  | _ => exact Bool.noConfusion (show false = true from h)
theorem lit_true {c : Ex} (h : (match c with | .lit (.bl true) => true | _ => false) = true) : c = .lit (.bl true) := by
  split at h
  · rfl
  · cases h
theorem chk_lc {own : List Nat} {tg : Tg} {it : It} {c elt : Ex} (h : chk T sc calm (.lc own tg it c elt) m e = true) : ∃ eelt etg eit ifs scope pos, e = .ListComp eelt [⟨etg, eit, ifs, 0⟩] scope pos ∧ m = false ∧ calm = true ∧ ownB T sc scope own = true ∧ tgB T scope tg etg = true ∧ tgIn own tg = true ∧
    chkI T sc calm it eit = true ∧ ((ifs = [] ∧ c = .lit (.bl true)) ∨ ∃ ec, ifs = [ec] ∧ chk T scope calm c true ec = true) ∧ chk T scope calm elt false eelt = true := by
  cases e with
  | ListComp eelt gens scope pos =>
    cases gens with
    | nil => exact Bool.noConfusion (show false = true from h)
    | cons g gens =>
      obtain ⟨etg, eit, ifs, as_⟩ := g
      cases gens with
      | cons _ _ => exact Bool.noConfusion (show false = true from h)
      | nil =>
        obtain ⟨k1, q1⟩ := b2 h
        obtain ⟨k2, q2⟩ := b2 q1
        obtain ⟨k3, q3⟩ := b2 q2
        obtain ⟨k4, q4⟩ := b2 q3
        obtain ⟨k5, q5⟩ := b2 q4
        obtain ⟨k6, q6⟩ := b2 q5
        obtain ⟨k7, q7⟩ := b2 q6
        obtain ⟨k8, k9⟩ := b2 q7
        have ha : as_ = 0 := of_decide_eq_true k3
        have fin : (ifs = [] ∧ c = .lit (.bl true)) ∨ ∃ ec, ifs = [ec] ∧ chk T scope calm c true ec = true := by
          clear h q1 q2 q3 q4 q5 q6 q7
          cases ifs with
          | nil => exact .inl ⟨rfl, lit_true k8⟩
          | cons ec r =>
            cases r with
            | cons _ _ => exact Bool.noConfusion (show false = true from k8)
            | nil => exact .inr ⟨ec, rfl, k8⟩
        clear q1 q2 q3 q4 q5 q6 q7 h
        subst ha
        exact ⟨eelt, etg, eit, ifs, scope, pos, rfl, by simpa using k1, k2, k4, k5, k6, k7, fin, k9⟩
  | _ => exact Bool.noConfusion (show false = true from h)
theorem chk_false {c : Ex} (hc : match c with | .none_ => True | .pop _ => True | _ => False) : chk T sc calm c m e ≠ true := by
  intro h
  cases c <;> first
    | exact hc
    | (cases e <;> exact Bool.noConfusion (show false = true from h))
theorem chks_cons {es : Exs} {ee : Expr} {ees : List Expr} (h : chks T sc calm es (ee :: ees) = true) : ∃ a as, es = .cons a as ∧ plainE ee = true ∧ chk T sc calm a false ee = true ∧ chks T sc calm as ees = true := by
  cases es with
  | nil => exact Bool.noConfusion (show false = true from h)
  | cons a as =>
    obtain ⟨h1, h2⟩ := b2 h
    obtain ⟨h2, h3⟩ := b2 h2
    exact ⟨a, as, rfl, h1, h2, h3⟩
theorem chks_nil {es : Exs} (h : chks T sc calm es [] = true) : es = .nil := by
  cases es with
  | nil => rfl
  | cons a as => exact Bool.noConfusion (show false = true from h)
end

/-! ### side conditions of the model's rules -/
theorem star_ok {ee : Expr} {ees : List Expr} {env : Env} (h : plainE ee = true) : starEach (ee :: ees) env = (false, eval ee env) :: starEach ees env := by
  cases ee <;> first
    | rfl
    | exact Bool.noConfusion (show false = true from h)
theorem stars_ok {T : Tab} {sc : Scope} {calm : Bool} {env : Env} {pos : Pos} : ∀ {ees : List Expr} {es : Exs}, chks T sc calm es ees = true → (backTo pos (starEach ees env)).any (·.1) = false
  | [], es, _ => rfl
  | ee :: ees, es, h => by
    obtain ⟨a, as, rfl, h1, h2, h3⟩ := chks_cons h
    rw [star_ok h1]
    show (false || (backTo pos (starEach ees env)).any (·.1)) = false
    rw [stars_ok h3]
    rfl
theorem plainIx_ok {b : Expr} (h : plainE b = true) : PlainIx b := by
  cases b <;> first
    | exact fun _ _ => rfl
    | exact Bool.noConfusion (show false = true from h)
theorem marks_ok {op : CmpOp} {b : Expr} (h : plainE b = true) : behindInMarks op b = false := by
  cases b <;> first
    | rfl
    | exact Bool.noConfusion (show false = true from h)
theorem plainT_ok {e : Expr} (env : Env) (h : plainT e = true) : ∀ whole, isTrue e env whole = (do let v ← whole; standAt e.pos; holding [v] (truthy v)) := by
  intro whole
  cases e <;> first
    | rfl
    | exact Bool.noConfusion (show false = true from h)
theorem base_ok {eo : Expr} {f : Str} {env : Env} (h : notSuper eo = true) : attributeBase eo f env (eval eo env) = eval eo env := by
  cases eo with
  | Call g args kws pos =>
    cases g with
    | Name x p =>
      have h' : (x == ("super" : Str)) = false := by simpa [notSuper] using h
      cases args with
      | cons _ _ => rfl
      | nil =>
        cases kws with
        | cons _ _ => rfl
        | nil =>
          unfold attributeBase
          simp [bne, h']
    | _ => rfl
  | _ => rfl
theorem seen_ok {x : Str} (h : PD.seen x = true) : (x == ("__debug__" : Str)) = false ∧ (x == ("__classdict__" : Str)) = false ∧ (x == ("__name__" : Str)) = false ∧ (x == ("super" : Str)) = false := by
  obtain ⟨h1, h2⟩ := b2 h
  obtain ⟨h2, h3⟩ := b2 h2
  obtain ⟨h3, h4⟩ := b2 h3
  exact ⟨by simpa using h1, by simpa using h2, by simpa using h3, by simpa using h4⟩
theorem visB_ok {sc : Scope} {x : Str} (h : visB sc x = true) : Vis sc x := by
  unfold visB at h
  split at h
  · exact .inl (by assumption)
  · exact .inr (.inl (by assumption))
  · exact .inr (.inr (by assumption))
  · cases h
theorem glB_ok {X : Cx} {x : Str} (h : glB X.env.scope x = true) : Gl X x := by
  unfold glB at h
  split at h
  · assumption
  · cases h
end PD

/-! PD10 -/
set_option Elab.async false
set_option linter.all false
set_option maxRecDepth 100000
set_option maxHeartbeats 4000000
/-! PD: each expression's reading. -/
namespace PD
open PySem PySem.Spec PyProof.Rows L2

section
variable {X : Cx}
theorem pe_of {e : Expr} {t t' : TE} (h : PE X e t) (i : ∀ σ H Q, t' σ H Q → t σ H Q) : PE X e t' := ⟨fun pins s σ H Q I q => h.run pins s σ H Q I (i σ H Q q)⟩
theorem pt_of {e : Expr} {t t' : TT} (h : PT X e t) (i : ∀ σ H Q, t' σ H Q → t σ H Q) : PT X e t' := ⟨fun pins s σ H Q I q => h.run pins s σ H Q I (i σ H Q q)⟩
theorem pw_of {e : Expr} {t t' : TT} (h : PW X e t) (i : ∀ σ H Q, t' σ H Q → t σ H Q) : PW X e t' := ⟨fun wh pins s σ H Q I q => h.run wh pins s σ H Q I (i σ H Q q)⟩
theorem pa_of {es : List Expr} {t t' : TA} (h : PA X es t) (i : ∀ σ H Q, t' σ H Q → t σ H Q) : PA X es t' := ⟨fun pos pins s σ H Q I q => h.run pos pins s σ H Q I (i σ H Q q)⟩
theorem pi_of {tg e : Expr} {t t' : TI} (h : PI X tg e t) (i : ∀ σ H R, t' σ H R → t σ H R) : PI X tg e t' := ⟨fun pins s σ H R I q => h.run pins s σ H R I (i σ H R q)⟩
end

section
variable {B : Bs} {W : WX} {σ : L2.St} {H : Hp} {Q : VK}
theorem tE_two {ca cb : Slots → Store → Res Val} {k : Val → Val → Store → Res Val} {r : R2}
    (hr : ∀ g H ρ st x y v w, ER B g H σ ρ st → ValR B.R B.ex g.F g.A x v → ValR B.R B.ex g.F g.A y w → Pst B W g H σ ρ (k v w st) (kV B Q) → r x y H Q)
    (h : tE B W (fun ρ st => (ca ρ st).bind fun x st => (cb ρ st).bind fun y st => k x y st) σ H Q) : tOp r (tE B W ca) (tE B W cb) σ H Q := by
  obtain ⟨g, ρ, st, e, p⟩ := h
  refine ⟨g, ρ, st, e, p.bind.imp fun v st1 g1 H1 e1 s1 p1 x rx => ?_⟩
  exact ⟨g1, ρ, st1, e1, p1.bind.imp fun w st2 g2 H2 e2 s2 p2 y ry => hr g2 H2 ρ st2 x y v w e2 (rx.up s2.le) ry p2⟩
theorem tE_one {ca : Slots → Store → Res Val} {k : Val → Store → Res Val} {r : V → Hp → Prop}
    (hr : ∀ g H ρ st x v, ER B g H σ ρ st → ValR B.R B.ex g.F g.A x v → Pst B W g H σ ρ (k v st) (kV B Q) → r x H)
    (h : tE B W (fun ρ st => (ca ρ st).bind fun x st => k x st) σ H Q) : tE B W ca σ H r := by
  obtain ⟨g, ρ, st, e, p⟩ := h
  exact ⟨g, ρ, st, e, p.bind.imp fun v st1 g1 H1 e1 s1 p1 x rx => hr g1 H1 ρ st1 x v e1 rx p1⟩
theorem tA_one {ca : Slots → Store → Res (List Val)} {k : List Val → Store → Res Val} {r : List V → Hp → Prop}
    (hr : ∀ g H ρ st xs vs, ER B g H σ ρ st → ValsR B.R B.ex g.F g.A xs vs → Pst B W g H σ ρ (k vs st) (kV B Q) → r xs H)
    (h : tE B W (fun ρ st => (ca ρ st).bind fun x st => k x st) σ H Q) : tA' B W ca σ H r := by
  obtain ⟨g, ρ, st, e, p⟩ := h
  exact ⟨g, ρ, st, e, p.bind.imp fun v st1 g1 H1 e1 s1 p1 x rx => hr g1 H1 ρ st1 x v e1 rx p1⟩
theorem ValR.bl {R : RC} {E : ExH} {F : Hp} {A : List Addr} {x : V} {b : Bool} (h : ValR R E F A x (.fz (.bl b))) : x = .bl b := by
  cases (show Rep R F x (.bl b) from h); rfl
/-- a value that is a bool, as a test -/
theorem tT_tB {c : Slots → Store → Res Val} {Q : Bool → Hp → Prop} (h : tT B W c σ H Q) : tB (tE B W c) σ H Q := by
  obtain ⟨g, ρ, st, e, p⟩ := h
  exact ⟨g, ρ, st, e, p.imp fun v st1 g1 H1 e1 s1 ⟨b, hb, q⟩ x rx => by subst hb; exact ⟨b, rx.bl, q⟩⟩
theorem tT_two {ca cb : Slots → Store → Res Val} {k : Val → Val → Store → Res Val} {r : R2} {Q : Bool → Hp → Prop}
    (hr : ∀ g H ρ st x y v w, ER B g H σ ρ st → ValR B.R B.ex g.F g.A x v → ValR B.R B.ex g.F g.A y w → Pst B W g H σ ρ (k v w st) (fun v _ _ H' => ∃ b, v = .fz (.bl b) ∧ Q b H') → r x y H (fun x H1 => ∃ c, x = .bl c ∧ Q c H1))
    (h : tT B W (fun ρ st => (ca ρ st).bind fun x st => (cb ρ st).bind fun y st => k x y st) σ H Q) : tB (tOp r (tE B W ca) (tE B W cb)) σ H Q := by
  obtain ⟨g, ρ, st, e, p⟩ := h
  refine ⟨g, ρ, st, e, p.bind.imp fun v st1 g1 H1 e1 s1 p1 x rx => ?_⟩
  exact ⟨g1, ρ, st1, e1, p1.bind.imp fun w st2 g2 H2 e2 s2 p2 y ry => hr g2 H2 ρ st2 x y v w e2 (rx.up s2.le) ry p2⟩
end

def isBool : Expr → Bool
  | .BoolOp _ _ _ => true
  | _ => false
def OK (T : Tab) (G : Gam) (c : Ex) : Prop := ∀ {sc : Scope} {calm : Bool} {B : Bs} {X : Cx} {W : WX}, Cxt T sc calm G B X W → ∀ e : Expr,
  (chk T sc calm c false e = true → PE X e (tE B W (ev G c))) ∧ (chk T sc calm c true e = true → PT X e (tT B W (ev G c)) ∧ (isBool e = true → PW X e (tT B W (ev G c))))
def OKs (T : Tab) (G : Gam) (c : Exs) : Prop := ∀ {sc : Scope} {calm : Bool} {B : Bs} {X : Cx} {W : WX}, Cxt T sc calm G B X W → ∀ es : List Expr, chks T sc calm c es = true → PA X es (tA' B W (evs G c))

section
variable {T : Tab} {G : Gam}
/-- one that is read alike as a value and as a test -/
theorem ok_gen {c : Ex} (hv : ∀ {sc : Scope} {calm : Bool} {B : Bs} {X : Cx} {W : WX}, Cxt T sc calm G B X W → ∀ (m : Bool) (e : Expr), chk T sc calm c m e = true → PE X e (tE B W (ev G c)) ∧ (m = true → plainT e = true)) : OK T G c := by
  intro sc calm B X W C e
  refine ⟨fun h => (hv C false e h).1, fun h => ?_⟩
  obtain ⟨h1, h2⟩ := hv C true e h
  have h3 := h2 rfl
  refine ⟨pt_of (pt_val h1 (plainT_ok _ h3)) fun σ H Q q => tT_tB q, fun z => ?_⟩
  cases e <;> first
    | exact Bool.noConfusion (show false = true from z)
    | exact Bool.noConfusion (show false = true from h3)
/-- one that is never a test -/
theorem ok_val {c : Ex} (hv : ∀ {sc : Scope} {calm : Bool} {B : Bs} {X : Cx} {W : WX}, Cxt T sc calm G B X W → ∀ (m : Bool) (e : Expr), chk T sc calm c m e = true → m = false ∧ PE X e (tE B W (ev G c))) : OK T G c := by
  intro sc calm B X W C e
  exact ⟨fun h => (hv C false e h).2, fun h => Bool.noConfusion (hv C true e h).1⟩

theorem ok_var (i : Nat) : OK T G (.var i) := ok_gen fun {sc calm B X W} C m e h => by
  obtain ⟨x, pos, rfl, h1, h2, h3⟩ := chk_var h
  obtain ⟨n1, n2, _, _⟩ := seen_ok h3
  refine ⟨pe_of (pe_var (i := i) (by rw [C.N]; exact h1) (C.vis h2) n1 n2) fun σ H Q q => ?_, fun _ => rfl⟩
  obtain ⟨g, ρ, st, er, p⟩ := q
  have p' : Pst B W g H σ ρ (match ρ[i]? with | some (some v) => Res.ok v st | _ => .stuck) (kV B Q) := p
  cases q : ρ[i]? with
  | none => rw [q] at p'; exact p'.elim
  | some o =>
    cases o with
    | none => rw [q] at p'; exact p'.elim
    | some v =>
      rw [q] at p'
      have hi : i < σ.length := by
        rw [er.slen]; exact (List.getElem?_eq_some_iff.mp q).1
      obtain ⟨x, e1, r⟩ := er.slots i _ _ (List.getElem?_eq_getElem hi) q
      exact ⟨x, by rw [List.getElem?_eq_getElem hi, e1], p'.ok er x r⟩
theorem ok_lit (d : D) : OK T G (.lit d) := ok_gen fun {sc calm B X W} C m e h => by
  obtain ⟨c, k, pos, rfl, h1⟩ := chk_lit h
  refine ⟨?_, fun _ => rfl⟩
  have fin : ∀ {x : V}, (∀ F, Rep B.R F x d) → ∀ σ H Q, tE B W (ev G (.lit d)) σ H Q → tC x σ H Q := fun {x} hx σ H Q ⟨g, ρ, st, er, p⟩ => Pst.ok (show Pst B W g H σ ρ (.ok (.fz d) st) (kV B Q) from p) er x (hx _)
  cases d <;> cases c <;> first
    | exact Bool.noConfusion (show false = true from h1)
    | skip
  · exact pe_of pe_non (fin fun _ => .non)
  · have : _ = _ := eq_of_beq (show (_ == _) = true from h1)
    subst this
    exact pe_of pe_bl (fin fun _ => .bl _)
  · have : _ = _ := of_decide_eq_true (show decide _ = true from h1)
    subst this
    exact pe_of pe_int (fin fun _ => .int _)
  · have : _ = _ := of_decide_eq_true (show decide _ = true from h1)
    subst this
    exact pe_of pe_str (fin fun _ => .str _)
theorem ok_glo (j : Nat) : OK T G (.glo j) := ok_gen fun {sc calm B X W} C m e h => by
  obtain ⟨x, pos, rfl, h1, h2, h3⟩ := chk_glo h
  obtain ⟨n1, _, _, _⟩ := seen_ok h3
  refine ⟨?_, fun _ => rfl⟩
  cases q : G.con[j]? with
  | none => exact ⟨fun pins s σ H Q I ⟨g, ρ, st, er, p⟩ => by
      have p' : Pst B W g H σ ρ (pick G.con[j]? fun d => Res.ok (.fz d) st) (kV B Q) := p
      rw [q] at p'; exact p'.elim⟩
  | some d =>
    obtain ⟨v, u, hm, ru, rep⟩ := C.con j d x q h1
    refine pe_of (pe_glob (C.glob h2) hm ru n1) fun σ H Q ⟨g, ρ, st, er, p⟩ => ?_
    have p' : Pst B W g H σ ρ (pick G.con[j]? fun d => Res.ok (.fz d) st) (kV B Q) := p
    rw [q] at p'
    exact Pst.ok (show Pst B W g H σ ρ (.ok (.fz d) st) (kV B Q) from p') er v (rep _)
theorem ok_bin (o : Bop) {a b : Ex} (ha : OK T G a) (hb : OK T G b) : OK T G (.bin o a b) := ok_gen fun {sc calm B X W} C m e h => by
  obtain ⟨ea, eb, pos, rfl, h1, h2⟩ := chk_bin h
  refine ⟨pe_of (pe_op (bop_ok o) ((ha C ea).1 h1) ((hb C eb).1 h2)) fun σ H Q q => ?_, fun _ => rfl⟩
  refine tE_two (k := fun x y st => pick (dr st x) fun dx => pick (dr st y) fun dy => opRes (bopS o dx dy) st) (fun g H ρ st x y v w er rx ry p => ?_) q
  obtain ⟨dx, e1, p⟩ := p.pick
  obtain ⟨dy, e2, p⟩ := p.pick
  rw [C.K]
  exact bop_pst er o (er.rd rx e1) (er.rd ry e2) p
theorem ok_cmp (o : Cop) {a b : Ex} (ha : OK T G a) (hb : OK T G b) : OK T G (.cmp o a b) := by
  intro sc calm B X W C e
  refine ⟨fun h => ?_, fun h => ?_⟩
  · obtain ⟨ea, eb, pos, rfl, h0, h1, h2⟩ := chk_cmp h
    refine pe_of (pe_cmpR (cop_ok C.units o) ((ha C ea).1 h1) ((hb C eb).1 h2) (marks_ok h0)) fun σ H Q q => ?_
    refine tE_two (k := fun x y st => pick (dr st x) fun dx => pick (dr st y) fun dy => pick (cmpS o dx dy) fun r => .ok (.fz (.bl r)) st) (fun g H ρ st x y v w er rx ry p => ?_) q
    obtain ⟨dx, e1, p⟩ := p.pick
    obtain ⟨dy, e2, p⟩ := p.pick
    obtain ⟨r, e3, p⟩ := p.pick
    rw [C.K]
    exact cop_pst er o (er.rd rx e1) (er.rd ry e2) e3 (p.same er (.bl r))
  · obtain ⟨ea, eb, pos, rfl, h0, h1, h2⟩ := chk_cmp h
    refine ⟨pt_of (pt_cmpR (cop_ok C.units o) ((ha C ea).1 h1) ((hb C eb).1 h2) (marks_ok h0)) fun σ H Q q => ?_, fun z => Bool.noConfusion (show false = true from z)⟩
    refine tT_two (k := fun x y st => pick (dr st x) fun dx => pick (dr st y) fun dy => pick (cmpS o dx dy) fun r => .ok (.fz (.bl r)) st) (fun g H ρ st x y v w er rx ry p => ?_) q
    obtain ⟨dx, e1, p⟩ := p.pick
    obtain ⟨dy, e2, p⟩ := p.pick
    obtain ⟨r, e3, p⟩ := p.pick
    rw [C.K]
    refine cop_pst er o (er.rd rx e1) (er.rd ry e2) e3 ⟨r, rfl, ?_⟩
    obtain ⟨b, hb, q⟩ := p.ok er
    cases hb
    exact q
theorem ok_chain (o o' : Cop) {a b c : Ex} (ha : OK T G a) (hb : OK T G b) (hc : OK T G c) : OK T G (.chain o o' a b c) := by
  have key : ∀ {B : Bs} {W : WX} {σ : L2.St} {H : Hp} {k : Val → Store → Gh → Hp → Prop} {Q : VK} (_ : ∀ g H ρ st r, ER B g H σ ρ st → k (Val.fz (D.bl r)) st g H → Q (.bl r) H),
      (∃ g ρ st, ER B g H σ ρ st ∧ Pst B W g H σ ρ (ev G (.chain o o' a b c) ρ st) k) → tChain (copR B.R.K o) (copR B.R.K o') (tE B W (ev G a)) (tE B W (ev G b)) (tE B W (ev G c)) σ H Q := by
    intro B W σ H k Q hk ⟨g, ρ, st, er, p⟩
    have p' : Pst B W g H σ ρ ((ev G a ρ st).bind fun x st => (ev G b ρ st).bind fun y st => pick (dr st x) fun dx => pick (dr st y) fun dy => pick (cmpS o dx dy) fun r =>
      if r then (ev G c ρ st).bind fun z st => pick (dr st y) fun dy => pick (dr st z) fun dz => pick (cmpS o' dy dz) fun r => Res.ok (Val.fz (D.bl r)) st else Res.ok (Val.fz (D.bl false)) st) k := p
    refine ⟨g, ρ, st, er, p'.bind.imp fun v st1 g1 H1 e1 s1 p1 x rx => ?_⟩
    refine ⟨g1, ρ, st1, e1, p1.bind.imp fun w st2 g2 H2 e2 s2 p2 y ry => ?_⟩
    obtain ⟨dx, q1, p2⟩ := p2.pick
    obtain ⟨dy, q2, p2⟩ := p2.pick
    obtain ⟨r, q3, p2⟩ := p2.pick
    refine cop_pst e2 o (e2.rd (rx.up s2.le) q1) (e2.rd ry q2) q3 ⟨r, rfl, ?_⟩
    cases r with
    | false => exact hk g2 H2 ρ st2 false e2 (p2.ok e2)
    | true =>
      have p2' : Pst B W g2 H2 σ ρ ((ev G c ρ st2).bind fun z st => pick (dr st w) fun dy => pick (dr st z) fun dz => pick (cmpS o' dy dz) fun r => Res.ok (Val.fz (D.bl r)) st) k := p2
      refine ⟨g2, ρ, st2, e2, p2'.bind.imp fun z st3 g3 H3 e3 s3 p3 zz rz => ?_⟩
      obtain ⟨dy', q4, p3⟩ := p3.pick
      obtain ⟨dz, q5, p3⟩ := p3.pick
      obtain ⟨r', q6, p3⟩ := p3.pick
      exact cop_pst e3 o' (e3.rd (ry.up s3.le) q4) (e3.rd rz q5) q6 (hk g3 H3 ρ st3 r' e3 (p3.ok e3))
  intro sc calm B X W C e
  refine ⟨fun h => ?_, fun h => ?_⟩
  · obtain ⟨ea, eb, ec, pos, rfl, h0, h0', h1, h2, h3⟩ := chk_chain h
    have ho := cop_ok C.units o
    have ho' := cop_ok C.units o'
    rw [C.K] at ho ho'
    refine pe_of (pe_chain ho ho' ((ha C ea).1 h1) ((hb C eb).1 h2) ((hc C ec).1 h3) (marks_ok h0')) fun σ H Q q => key (k := kV B Q) (fun g H ρ st r er q => ?_) q
    exact q _ (show Rep B.R g.F _ (.bl r) from .bl r)
  · obtain ⟨ea, eb, ec, pos, rfl, h0, h0', h1, h2, h3⟩ := chk_chain h
    have ho := cop_ok C.units o
    have ho' := cop_ok C.units o'
    rw [C.K] at ho ho'
    refine ⟨pt_of (pt_chain ho ho' ((ha C ea).1 h1) ((hb C eb).1 h2) ((hc C ec).1 h3) (marks_ok h0')) fun σ H Q q => key (fun g H ρ st r er q => ?_) q, fun z => Bool.noConfusion (show false = true from z)⟩
    obtain ⟨b, hb, q⟩ := q
    cases hb
    exact ⟨_, rfl, q⟩
end
end PD

/-! PD11 -/
set_option Elab.async false
set_option linter.all false
set_option maxRecDepth 100000
set_option maxHeartbeats 4000000
/-! PD: each expression's reading, further. -/
namespace PD
open PySem PySem.Spec PyProof.Rows L2
section
variable {T : Tab} {G : Gam}
theorem ok_neg {a : Ex} (ha : OK T G a) : OK T G (.neg a) := ok_val fun {sc calm B X W} C m e h => by
  obtain ⟨ea, pos, rfl, hm, h1⟩ := chk_neg h
  refine ⟨hm, pe_of (pe_un un_neg ((ha C ea).1 h1)) fun σ H Q q => ?_⟩
  refine tE_one (k := fun x st => match x with | .fz (.int i) => .ok (.fz (.int (-i))) st | _ => .stuck) (fun g H ρ st x v er rx p => ?_) q
  split at p
  · cases (show Rep B.R g.F x (.int _) from rx)
    exact ⟨_, rfl, Pst.same p er (.int _)⟩
  · exact p.elim
/-- a bool's two ways -/
theorem pst_bool {B : Bs} {W : WX} {g : Gh} {H : Hp} {σ : L2.St} {ρ : Slots} {β : Type} {x : Val} {kt kf : Res β} {k : β → Store → Gh → Hp → Prop}
    (p : Pst B W g H σ ρ (match x with | .fz (.bl true) => kt | .fz (.bl false) => kf | _ => .stuck) k) : (x = .fz (.bl true) ∧ Pst B W g H σ ρ kt k) ∨ (x = .fz (.bl false) ∧ Pst B W g H σ ρ kf k) := by
  split at p
  · exact .inl ⟨rfl, p⟩
  · exact .inr ⟨rfl, p⟩
  · exact p.elim
theorem ok_not {a : Ex} (ha : OK T G a) : OK T G (.not_ a) := by
  intro sc calm B X W C e
  refine ⟨fun h => ?_, fun h => ?_⟩
  · obtain ⟨ea, pos, rfl, h1⟩ := chk_not h
    refine pe_of (pe_not ((ha C ea).1 h1)) fun σ H Q q => ?_
    refine tE_one (k := fun x st => match x with | .fz (.bl b) => .ok (.fz (.bl (!b))) st | _ => .stuck) (fun g H ρ st x v er rx p => ?_) q
    split at p
    · obtain rfl := rx.bl
      exact ⟨_, rfl, Pst.same p er (.bl _)⟩
    · exact p.elim
  · obtain ⟨ea, pos, rfl, h1⟩ := chk_not h
    refine ⟨pt_of (pt_not ((ha C ea).2 h1).1) fun σ H Q q => ?_, fun z => Bool.noConfusion (show false = true from z)⟩
    obtain ⟨g, ρ, st, er, p⟩ := q
    have p' : Pst B W g H σ ρ ((ev G a ρ st).bind fun x st => match x with | .fz (.bl b) => Res.ok (Val.fz (D.bl (!b))) st | _ => .stuck) (fun v _ _ H' => ∃ b, v = .fz (.bl b) ∧ Q b H') := p
    refine ⟨g, ρ, st, er, p'.bind.imp fun v st1 g1 H1 e1 s1 p1 => ?_⟩
    split at p1
    · rename_i b
      obtain ⟨b', hb, q⟩ := p1.ok e1
      cases hb
      exact ⟨b, rfl, q⟩
    · exact p1.elim
theorem ok_and {a b : Ex} (ha : OK T G a) (hb : OK T G b) : OK T G (.and_ a b) := by
  intro sc calm B X W C e
  refine ⟨fun h => ?_, fun h => ?_⟩
  · obtain ⟨ea, eb, rest, pos, rfl, h1, h2⟩ := chk_and h
    have hB : PE X (.BoolOp .And (eb :: rest) pos) (tE B W (ev G b)) := by
      rcases h2 with ⟨rfl, h2⟩ | ⟨_, h2⟩
      · exact pe_one ((hb C eb).1 h2)
      · exact (hb C _).1 h2
    refine pe_of (pe_and ((ha C ea).1 h1) hB) fun σ H Q q => ?_
    obtain ⟨g, ρ, st, er, p⟩ := q
    have p' : Pst B W g H σ ρ ((ev G a ρ st).bind fun x st => match x with | .fz (.bl true) => ev G b ρ st | .fz (.bl false) => Res.ok (Val.fz (D.bl false)) st | _ => .stuck) (kV B Q) := p
    refine ⟨g, ρ, st, er, p'.bind.imp fun v st1 g1 H1 e1 s1 p1 x rx => ?_⟩
    rcases pst_bool p1 with ⟨rfl, p2⟩ | ⟨rfl, p2⟩
    · exact ⟨true, rx.bl, ⟨g1, ρ, st1, e1, p2⟩⟩
    · exact ⟨false, rx.bl, p2.same e1 (.bl _)⟩
  · obtain ⟨ea, eb, rest, pos, rfl, h1, h2⟩ := chk_and h
    have hB : PW X (.BoolOp .And (eb :: rest) pos) (tT B W (ev G b)) := by
      rcases h2 with ⟨rfl, h2⟩ | ⟨_, h2⟩
      · exact pw_and1 ((hb C eb).2 h2).1
      · exact ((hb C _).2 h2).2 rfl
    have hw : PW X (.BoolOp .And (ea :: eb :: rest) pos) (tT B W (ev G (.and_ a b))) := pw_of (pw_and ((ha C ea).2 h1).1 hB) fun σ H Q q => by
      obtain ⟨g, ρ, st, er, p⟩ := q
      have p' : Pst B W g H σ ρ ((ev G a ρ st).bind fun x st => match x with | .fz (.bl true) => ev G b ρ st | .fz (.bl false) => Res.ok (Val.fz (D.bl false)) st | _ => .stuck) (fun v _ _ H' => ∃ b, v = .fz (.bl b) ∧ Q b H') := p
      refine ⟨g, ρ, st, er, p'.bind.imp fun v st1 g1 H1 e1 s1 p1 => ?_⟩
      rcases pst_bool p1 with ⟨rfl, p2⟩ | ⟨rfl, p2⟩
      · exact ⟨true, rfl, ⟨g1, ρ, st1, e1, p2⟩⟩
      · obtain ⟨b', hb', q⟩ := p2.ok e1
        cases hb'
        exact ⟨false, rfl, q⟩
    exact ⟨hw.pt, fun _ => hw⟩
theorem ok_or {a b : Ex} (ha : OK T G a) (hb : OK T G b) : OK T G (.or_ a b) := by
  intro sc calm B X W C e
  refine ⟨fun h => ?_, fun h => ?_⟩
  · obtain ⟨ea, eb, rest, pos, rfl, h1, h2⟩ := chk_or h
    have hB : PE X (.BoolOp .Or (eb :: rest) pos) (tE B W (ev G b)) := by
      rcases h2 with ⟨rfl, h2⟩ | ⟨_, h2⟩
      · exact pe_one ((hb C eb).1 h2)
      · exact (hb C _).1 h2
    refine pe_of (pe_or ((ha C ea).1 h1) hB) fun σ H Q q => ?_
    obtain ⟨g, ρ, st, er, p⟩ := q
    have p' : Pst B W g H σ ρ ((ev G a ρ st).bind fun x st => match x with | .fz (.bl true) => Res.ok (Val.fz (D.bl true)) st | .fz (.bl false) => ev G b ρ st | _ => .stuck) (kV B Q) := p
    refine ⟨g, ρ, st, er, p'.bind.imp fun v st1 g1 H1 e1 s1 p1 x rx => ?_⟩
    rcases pst_bool p1 with ⟨rfl, p2⟩ | ⟨rfl, p2⟩
    · exact ⟨true, rx.bl, p2.same e1 (.bl _)⟩
    · exact ⟨false, rx.bl, ⟨g1, ρ, st1, e1, p2⟩⟩
  · obtain ⟨ea, eb, rest, pos, rfl, h1, h2⟩ := chk_or h
    have hB : PW X (.BoolOp .Or (eb :: rest) pos) (tT B W (ev G b)) := by
      rcases h2 with ⟨rfl, h2⟩ | ⟨_, h2⟩
      · exact pw_or1 ((hb C eb).2 h2).1
      · exact ((hb C _).2 h2).2 rfl
    have hw : PW X (.BoolOp .Or (ea :: eb :: rest) pos) (tT B W (ev G (.or_ a b))) := pw_of (pw_or ((ha C ea).2 h1).1 hB) fun σ H Q q => by
      obtain ⟨g, ρ, st, er, p⟩ := q
      have p' : Pst B W g H σ ρ ((ev G a ρ st).bind fun x st => match x with | .fz (.bl true) => Res.ok (Val.fz (D.bl true)) st | .fz (.bl false) => ev G b ρ st | _ => .stuck) (fun v _ _ H' => ∃ b, v = .fz (.bl b) ∧ Q b H') := p
      refine ⟨g, ρ, st, er, p'.bind.imp fun v st1 g1 H1 e1 s1 p1 => ?_⟩
      rcases pst_bool p1 with ⟨rfl, p2⟩ | ⟨rfl, p2⟩
      · obtain ⟨b', hb', q⟩ := p2.ok e1
        cases hb'
        exact ⟨true, rfl, q⟩
      · exact ⟨false, rfl, ⟨g1, ρ, st1, e1, p2⟩⟩
    exact ⟨hw.pt, fun _ => hw⟩
theorem ok_ife {c a b : Ex} (hc : OK T G c) (ha : OK T G a) (hb : OK T G b) : OK T G (.ife c a b) := ok_val fun {sc calm B X W} C m e h => by
  obtain ⟨ec, ea, eb, pos, rfl, hm, h1, h2, h3⟩ := chk_ife h
  refine ⟨hm, pe_of (pe_ifExp ((hc C ec).2 h1).1 ((ha C ea).1 h2) ((hb C eb).1 h3)) fun σ H Q q => ?_⟩
  obtain ⟨g, ρ, st, er, p⟩ := q
  have p' : Pst B W g H σ ρ ((ev G c ρ st).bind fun x st => match x with | .fz (.bl true) => ev G a ρ st | .fz (.bl false) => ev G b ρ st | _ => .stuck) (kV B Q) := p
  refine ⟨g, ρ, st, er, p'.bind.imp fun v st1 g1 H1 e1 s1 p1 => ?_⟩
  rcases pst_bool p1 with ⟨rfl, p2⟩ | ⟨rfl, p2⟩
  · exact ⟨true, rfl, iteT ⟨g1, ρ, st1, e1, p2⟩⟩
  · exact ⟨false, rfl, iteF ⟨g1, ρ, st1, e1, p2⟩⟩
theorem ok_tru {a : Ex} (ha : OK T G a) : OK T G (.tru a) := by
  intro sc calm B X W C e
  refine ⟨fun h => Bool.noConfusion (chk_tru h).1, fun h => ?_⟩
  obtain ⟨_, h1, h2⟩ := chk_tru h
  refine ⟨pt_of (pt_truth ((ha C e).1 h2) (plainT_ok _ h1)) fun σ H Q q => ?_, fun z => ?_⟩
  · obtain ⟨g, ρ, st, er, p⟩ := q
    have p' : Pst B W g H σ ρ ((ev G a ρ st).bind fun x st => pick (dr st x) fun d => pick (truS d) fun r => Res.ok (Val.fz (D.bl r)) st) (fun v _ _ H' => ∃ b, v = .fz (.bl b) ∧ Q b H') := p
    refine ⟨g, ρ, st, er, p'.bind.imp fun v st1 g1 H1 e1 s1 p1 x rx => ?_⟩
    obtain ⟨d, q1, p1⟩ := p1.pick
    obtain ⟨r, q2, p1⟩ := p1.pick
    obtain ⟨b', hb', q⟩ := p1.ok e1
    cases hb'
    rw [C.K]
    exact ⟨r, tru_pst e1.le (e1.rd rx q1) q2, q⟩
  · cases e <;> first
      | exact Bool.noConfusion (show false = true from z)
      | exact Bool.noConfusion (show false = true from h1)
theorem ok_nil : OKs T G .nil := by
  intro sc calm B X W C es h
  cases es with
  | cons _ _ => exact Bool.noConfusion (show false = true from h)
  | nil => exact pa_of pa_nil fun σ H Q ⟨g, ρ, st, er, p⟩ => (Pst.ok (show Pst B W g H σ ρ (.ok [] st) _ from p) er) [] .nil
theorem ok_cons {a : Ex} {as : Exs} (ha : OK T G a) (hs : OKs T G as) : OKs T G (.cons a as) := by
  intro sc calm B X W C es h
  cases es with
  | nil => exact Bool.noConfusion (show false = true from h)
  | cons ee ees =>
    obtain ⟨a', as', e1, h1, h2, h3⟩ := chks_cons h
    cases e1
    refine pa_of (pa_cons ((ha C ee).1 h2) (hs C ees h3) (star_ok h1)) fun σ H Q ⟨g, ρ, st, er, p⟩ => ?_
    have p' : Pst B W g H σ ρ ((ev G a ρ st).bind fun v st => (evs G as ρ st).bind fun vs st => Res.ok (v :: vs) st) (fun vs _ g' H' => ∀ xs, ValsR B.R B.ex g'.F g'.A xs vs → Q xs H') := p
    refine ⟨g, ρ, st, er, p'.bind.imp fun v st1 g1 H1 e1 s1 p1 x rx => ?_⟩
    exact ⟨g1, ρ, st1, e1, p1.bind.imp fun vs st2 g2 H2 e2 s2 p2 xs rxs => p2.ok e2 (x :: xs) (.cons (rx.up s2.le) rxs)⟩
theorem pst_if {B : Bs} {W : WX} {g : Gh} {H : Hp} {σ : L2.St} {ρ : Slots} {β : Type} {c : Prop} [Decidable c] {r : Res β} {k : β → Store → Gh → Hp → Prop} (p : Pst B W g H σ ρ (if c then r else .stuck) k) : c ∧ Pst B W g H σ ρ r k := by
  by_cases h : c
  · rw [if_pos h] at p; exact ⟨h, p⟩
  · rw [if_neg h] at p; exact p.elim
/-- what is handed on, then -/
theorem pst_frs {B : Bs} {W : WX} {g : Gh} {H : Hp} {σ : L2.St} {ρ : Slots} {st : Store} {β : Type} {vs : List Val} {xs : List V} {f : List D → Store → Res β} {k : β → Store → Gh → Hp → Prop} (e : ER B g H σ ρ st) (r : ValsR B.R B.ex g.F g.A xs vs)
    (p : Pst B W g H σ ρ ((frs B.io.length vs st).bind f) k) : ∃ ds st' F', ER B ⟨F', g.A⟩ H σ ρ st' ∧ Step g H ⟨F', g.A⟩ H ∧ RepL B.R F' xs ds ∧ Pst B W ⟨F', g.A⟩ H σ ρ (f ds st') k := by
  cases q : frs B.io.length vs st with
  | stuck => rw [q] at p; exact p.elim
  | exc x st1 => exact (frs_no_exc q).elim
  | ok ds st' =>
    obtain ⟨F', e', s', r'⟩ := e.frs r q
    have p2 := p.bind
    rw [q] at p2
    exact ⟨ds, st', F', e', s', r', p2 _ _ e' s'⟩
theorem pst_fr {B : Bs} {W : WX} {g : Gh} {H : Hp} {σ : L2.St} {ρ : Slots} {st : Store} {β : Type} {v : Val} {x : V} {f : D → Store → Res β} {k : β → Store → Gh → Hp → Prop} (e : ER B g H σ ρ st) (r : ValR B.R B.ex g.F g.A x v)
    (p : Pst B W g H σ ρ ((fr B.io.length v st).bind f) k) : ∃ d st' F', ER B ⟨F', g.A⟩ H σ ρ st' ∧ Step g H ⟨F', g.A⟩ H ∧ Rep B.R F' x d ∧ Pst B W ⟨F', g.A⟩ H σ ρ (f d st') k := by
  cases q : fr B.io.length v st with
  | stuck => rw [q] at p; exact p.elim
  | exc x st1 => exact (fr_no_exc q).elim
  | ok ds st' =>
    obtain ⟨F', e', s', r'⟩ := e.fr r q
    have p2 := p.bind
    rw [q] at p2
    exact ⟨ds, st', F', e', s', r', p2 _ _ e' s'⟩
theorem ok_tup {es : Exs} (hs : OKs T G es) : OK T G (.tup es) := ok_val fun {sc calm B X W} C m e h => by
  obtain ⟨ees, k, pos, rfl, hm, h1⟩ := chk_tup h
  refine ⟨hm, pe_of (pe_tup (hs C ees h1)) fun σ H Q q => ?_⟩
  refine tA_one (k := fun vs st => (frs G.io vs st).bind fun ds st => if ds.length ≤ LIM then .ok (.fz (.tup ds)) st else .stuck) (fun g H ρ st xs vs er rx p => ?_) q
  rw [C.io] at p
  obtain ⟨ds, st', F', e', s', r', p'⟩ := pst_frs er rx p
  obtain ⟨hz, p'⟩ := pst_if p'
  refine ⟨?_, fun a ha => p'.newt e' r' ha⟩
  rw [r'.length, ← lim_eq]; exact hz
theorem ok_lst {es : Exs} (hs : OKs T G es) : OK T G (.lst es) := ok_val fun {sc calm B X W} C m e h => by
  obtain ⟨ees, pos, rfl, hm, h1⟩ := chk_lst h
  refine ⟨hm, pe_of (pe_lst (hs C ees h1)) fun σ H Q q => ?_⟩
  refine tA_one (k := fun vs st => (frs G.io vs st).bind fun ds st => if ds.length ≤ LIM then Res.ok (Val.loc (List.length (α := Cont) st)) (st ++ [Cont.lst ds]) else .stuck) (fun g H ρ st xs vs er rx p => ?_) q
  rw [C.io] at p
  obtain ⟨ds, st', F', e', s', r', p'⟩ := pst_frs er rx p
  obtain ⟨hz, p'⟩ := pst_if p'
  refine ⟨?_, fun a ha => p'.newl e' r' ha⟩
  rw [r'.length, ← lim_eq]; exact hz
theorem ok_idx {a i : Ex} (ha : OK T G a) (hi : OK T G i) : OK T G (.idx a i) := ok_gen fun {sc calm B X W} C m e h => by
  obtain ⟨ea, ei, pos, rfl, h0, h1, h2⟩ := chk_idx h
  refine ⟨pe_of (pe_ix ix_seq ((ha C ea).1 h1) ((hi C ei).1 h2) (plainIx_ok h0)) fun σ H Q q => ?_, fun _ => rfl⟩
  refine tE_two (k := fun x y st => pick (dr st x) fun dx => pick (dr st y) fun dy => pick (idxS dx dy) fun d => .ok (.fz d) st) (fun g H ρ st x y v w er rx ry p => ?_) q
  obtain ⟨dx, e1, p⟩ := p.pick
  obtain ⟨dy, e2, p⟩ := p.pick
  obtain ⟨d, e3, p⟩ := p.pick
  rw [C.K]
  exact idx_pst er (er.rd rx e1) (er.rd ry e2) e3 fun z rz => p.same er rz
/-- a slice's part -/
def tO (B : Bs) (W : WX) (G : Gam) (lo : Ex) : TO := fun σ H R => ∃ g ρ st, ER B g H σ ρ st ∧ Pst B W g H σ ρ ((ev G lo ρ st).bind fun l st => pick (bndV lo.isNone l) fun b => .ok b st) fun b _ _ H' => R b H'
theorem po_of {X : Cx} {e : Option Expr} {t t' : TO} (h : PO X e t) (i : ∀ σ H Q, t' σ H Q → t σ H Q) : PO X e t' := ⟨fun pins s σ H Q I q => h.run pins s σ H Q I (i σ H Q q)⟩
theorem po_ok {lo : Ex} (hl : OK T G lo) {sc : Scope} {calm : Bool} {B : Bs} {X : Cx} {W : WX} (C : Cxt T sc calm G B X W) {elo : Option Expr} (h : (elo = none ∧ lo = .none_) ∨ ∃ x, elo = some x ∧ chk T sc calm lo false x = true) : PO X elo (tO B W G lo) := by
  rcases h with ⟨rfl, rfl⟩ | ⟨x, rfl, h⟩
  · exact po_of po_none fun σ H Q ⟨g, ρ, st, er, p⟩ => Pst.ok (show Pst B W g H σ ρ (.ok none st) (fun b _ _ H' => Q b H') from p) er
  · refine po_of (po_some ((hl C x).1 h)) fun σ H Q ⟨g, ρ, st, er, p⟩ => ⟨g, ρ, st, er, p.bind.imp fun v st1 g1 H1 e1 s1 p1 y ry => ?_⟩
    obtain ⟨b, q, p1⟩ := p1.pick
    have hn : lo.isNone = false := by
      cases lo <;> first
        | rfl
        | exact absurd h (chk_false True.intro)
    rw [hn] at q
    cases v with
    | loc n => cases q
    | exn z => cases q
    | fz d =>
      cases d with
      | int i =>
        cases q
        cases (show Rep B.R g1.F y (.int i) from ry)
        exact ⟨i, rfl, p1.ok e1⟩
      | _ => cases q
theorem ok_slc {a lo hi : Ex} (ha : OK T G a) (hl : OK T G lo) (hh : OK T G hi) : OK T G (.slc a lo hi) := ok_val fun {sc calm B X W} C m e h => by
  obtain ⟨ea, elo, ehi, p0, pos, rfl, hm, h1, h2, h3⟩ := chk_slc h
  have sl : L2.SlR X (rSlc B.R.K) := by rw [← C.K]; exact sl_any
  refine ⟨hm, pe_of (pe_slice sl ((ha C ea).1 h1) (po_ok hl C h2) (po_ok hh C h3)) fun σ H Q ⟨g, ρ, st, er, p⟩ => ?_⟩
  have p' : Pst B W g H σ ρ ((ev G a ρ st).bind fun x st => ((ev G lo ρ st).bind fun l st => pick (bndV lo.isNone l) fun b => .ok b st).bind fun bl st =>
      ((ev G hi ρ st).bind fun h st => pick (bndV hi.isNone h) fun b => .ok b st).bind fun bh st => pick (dr st x) fun dx => opRes (slcS dx bl bh) st) (kV B Q) := p
  refine ⟨g, ρ, st, er, p'.bind.imp fun v st1 g1 H1 e1 s1 p1 x rx => ?_⟩
  refine ⟨g1, ρ, st1, e1, p1.bind.imp fun bl st2 g2 H2 e2 s2 p2 => ?_⟩
  refine ⟨g2, ρ, st2, e2, p2.bind.imp fun bh st3 g3 H3 e3 s3 p3 => ?_⟩
  obtain ⟨dx, q, p3⟩ := p3.pick
  exact slc_pst e3 (e3.rd (rx.up (s2.le.trans s3.le)) q) p3
theorem evs_length : ∀ {es : Exs} {ρ : Slots} {st st' : Store} {vs : List Val}, evs G es ρ st = .ok vs st' → vs.length = es.len
  | .nil, ρ, st, st', vs, h => by cases h; rfl
  | .cons a as, ρ, st, st', vs, h => by
    obtain ⟨v, st1, e1, h⟩ := Res.bind_ok (show ((ev G a ρ st).bind fun v st => (evs G as ρ st).bind fun vs st => Res.ok (v :: vs) st) = .ok vs st' from h)
    obtain ⟨vs2, st2, e2, h⟩ := Res.bind_ok h
    cases h
    exact congrArg Nat.succ (evs_length e2)
theorem chks_length {sc : Scope} {calm : Bool} : ∀ {es : Exs} {ees : List Expr}, chks T sc calm es ees = true → ees.length = es.len
  | .nil, [], _ => rfl
  | .nil, _ :: _, h => Bool.noConfusion (show false = true from h)
  | .cons _ _, [], h => Bool.noConfusion (show false = true from h)
  | .cons a as, e :: es, h => congrArg Nat.succ (chks_length (b2 (b2 h).2).2)
theorem ValsR.length {R : RC} {E : ExH} {F : Hp} {A : List Addr} : ∀ {xs : List V} {vs : List Val}, ValsR R E F A xs vs → xs.length = vs.length
  | _, _, .nil => rfl
  | _, _, .cons _ t => congrArg Nat.succ (ValsR.length t)
theorem ok_call (j : Nat) {es : Exs} (hs : OKs T G es) : OK T G (.call j es) := ok_gen fun {sc calm B X W} C m e h => by
  obtain ⟨x, p0, ea, ees, pos, rfl, h1, h2, h3, h4, h5⟩ := chk_call h
  refine ⟨?_, fun _ => rfl⟩
  obtain ⟨n1, _, _, _⟩ := seen_ok h3
  obtain ⟨c1, c2⟩ := C.calm h4
  cases q : G.fns[j]? with
  | none => exact ⟨fun pins s σ H Q I ⟨g, ρ, st, er, p⟩ => by
      have p' : Pst B W g H σ ρ (pick G.fns[j]? fun fi => (evs G es ρ st).bind fun vs st => callS G.io fi vs st) (kV B Q) := p
      rw [q] at p'; exact p'.elim⟩
  | some fi =>
    obtain ⟨f, fd, ps, ds, dvs, hm, hk, hb, hv, F, hn, hd⟩ := C.fns j fi x _ q h1
    have hE := chks_cons h5
    obtain ⟨a, as, _, pl, _, h6⟩ := hE
    have PAs := hs C (ea :: ees) h5
    refine pe_of (pe_callSD F c2 (C.glob h2) hm hk hb hv (fun σ => passAt C.tk σ) PAs n1 (star_ok pl) (stars_ok h6)) fun σ H Q ⟨g, ρ, st, er, p⟩ => ?_
    have p' : Pst B W g H σ ρ (pick G.fns[j]? fun fi => (evs G es ρ st).bind fun vs st => callS G.io fi vs st) (kV B Q) := p
    rw [q] at p'
    have p2 : Pst B W g H σ ρ ((evs G es ρ st).bind fun vs st => callS G.io fi vs st) (kV B Q) := p'
    refine ⟨g, ρ, st, er, p2.bindE.imp fun vs st1 g1 H1 e1 s1 ⟨ee, p3⟩ xs rx => ?_⟩
    rw [C.io] at p3
    refine call_pst e1 rx hd ?_ p3
    rw [rx.length, evs_length ee, ← chks_length h5]
    exact hn
theorem ok_bfn (f : Bfn) {es : Exs} (hs : OKs T G es) : OK T G (.bfn f es) := ok_gen fun {sc calm B X W} C m e h => by
  obtain ⟨p0, ea, ees, pos, rfl, h1, h2, h3, h4⟩ := chk_bfn h
  refine ⟨?_, fun _ => rfl⟩
  obtain ⟨a, as, _, pl, _, h6⟩ := chks_cons h4
  have PAs := hs C (ea :: ees) h4
  have gl : Gl X f.nm := C.glob h1
  have cr := bfn_ok (X := X) f (fun z => (C.calm (h3 z)).1)
  have fin : ∀ σ H Q, tE B W (ev G (.bfn f es)) σ H Q → tCB (bfnR X.K f) (tA' B W (evs G es)) σ H Q := fun σ H Q ⟨g, ρ, st, er, p⟩ => by
    have p2 : Pst B W g H σ ρ ((evs G es ρ st).bind fun vs st => pick (vs.mapM (dr st)) fun ds => opRes (bfnS f ds) st) (kV B Q) := p
    refine ⟨g, ρ, st, er, p2.bind.imp fun vs st1 g1 H1 e1 s1 p3 xs rx => ?_⟩
    obtain ⟨ds, q, p3⟩ := p3.pick
    rw [C.K]
    exact bfn_pst e1 f (e1.rds rx q) p3
  have free : ∀ {x : Str}, T.free.contains x = true → X.mg x = none := fun {x} z => C.free x (List.contains_iff_mem.mp z)
  cases f with
  | gcd => exact pe_of (pe_callBfun cr gl (C.gcd h2) PAs (by decide) (star_ok pl) (stars_ok h6)) fin
  | len => exact pe_of (pe_callB cr gl (free h2) (by decide +kernel) PAs (by decide) (by decide) (star_ok pl) (stars_ok h6)) fin
  | abs => exact pe_of (pe_callB cr gl (free h2) (by decide +kernel) PAs (by decide) (by decide) (star_ok pl) (stars_ok h6)) fin
  | min2 => exact pe_of (pe_callB cr gl (free h2) (by decide +kernel) PAs (by decide) (by decide) (star_ok pl) (stars_ok h6)) fin
  | max2 => exact pe_of (pe_callB cr gl (free h2) (by decide +kernel) PAs (by decide) (by decide) (star_ok pl) (stars_ok h6)) fin
  | int => exact pe_of (pe_callTy cr gl (free h2) (by decide +kernel) PAs (by decide) (by decide) (star_ok pl) (stars_ok h6)) fin
  | tuple => exact pe_of (pe_callTy cr gl (free h2) (by decide +kernel) PAs (by decide) (by decide) (star_ok pl) (stars_ok h6)) fin
  | list => exact pe_of (pe_callTy cr gl (free h2) (by decide +kernel) PAs (by decide) (by decide) (star_ok pl) (stars_ok h6)) fin
theorem ok_bitlen {a : Ex} {es : Exs} (ha : OK T G a) : OK T G (.mth .bitlen a es) := ok_val fun {sc calm B X W} C m e h => by
  obtain ⟨eo, ap, cp, rfl, hm, h1, h2, h3, rfl⟩ := chk_mth h
  refine ⟨hm, pe_of (pe_bits ((ha C eo).1 h3) (base_ok h1) h2) fun σ H Q ⟨g, ρ, st, er, p⟩ => ?_⟩
  have p2 : Pst B W g H σ ρ ((ev G a ρ st).bind fun x st => (evs G .nil ρ st).bind fun vs st => pick (dr st x) fun d => pick (vs.mapM (dr st)) fun ds => opRes (mthS .bitlen d ds) st) (kV B Q) := p
  refine ⟨g, ρ, st, er, p2.bind.imp fun v st1 g1 H1 e1 s1 p3 x rx => ?_⟩
  have p4 : Pst B W g1 H1 σ ρ (pick (dr st1 v) fun d => opRes (mthS .bitlen d []) st1) (kV B Q) := p3
  obtain ⟨d, q, p4⟩ := p4.pick
  have r := e1.rd rx q
  cases d <;> first
    | exact p4.elim
    | skip
  obtain rfl := r.int
  exact ⟨_, rfl, Pst.same p4 e1 (.int _)⟩

/-! ### kinds -/
theorem tyn_boot {x : Str} {n : String} (h : (x, n) ∈ tyNames) : bootBuiltins x = some (.type n) ∧ x ≠ "__name__" ∧ (x == ("__debug__" : Str)) = false := by
  have hh : ∀ p ∈ tyNames, bootBuiltins p.1 = some (.type p.2) ∧ p.1 ≠ "__name__" ∧ (p.1 == ("__debug__" : Str)) = false := by decide +kernel
  exact hh (x, n) h
theorem tyn_ok {sc : Scope} {calm : Bool} {B : Bs} {X : Cx} {W : WX} (C : Cxt T sc calm G B X W) {t : TyN} {et : Expr} (h : tynB T sc t et = true) : ∃ n, t = .ty n ∧ PE X et (tC (.ty n)) := by
  cases t with
  | own c => cases et <;> exact Bool.noConfusion (show false = true from h)
  | ty n =>
    cases et <;> first
      | exact Bool.noConfusion (show false = true from h)
      | skip
    rename_i x p
    obtain ⟨h1, h2⟩ := b2 h
    obtain ⟨h2, h3⟩ := b2 h2
    obtain ⟨b1, b2', b3⟩ := tyn_boot (of_decide_eq_true h1)
    exact ⟨n, rfl, pe_bltn (C.glob h3) (C.free _ (List.contains_iff_mem.mp h2)) b1 rfl b2' b3⟩
theorem isi_kit {R : RC} {d : D} {u : String} {exm : Str → Str → Option Bool} (hu : tyS d = some u) : ∀ {ts : List TyN} {b : Bool}, isiS exm d ts = some b → (∀ t ∈ ts, ∃ n, t = TyN.ty n) → PySem.W.kitAny R.K (.type u) (ts.map fun t => match t with | .ty n => Value.type n | .own _ => .none) = some b
  | [], b, h, _ => h
  | t :: ts, b, h, hn => by
    obtain ⟨n, rfl⟩ := hn t List.mem_cons_self
    have h' : (match (match tyS d with | some u => kitB u n | none => none) with | some true => some true | some false => isiS exm d ts | none => none) = some b := h
    rw [hu] at h'
    show (match PySem.W.kitOne R.K (.type u) (.type n) with | some true => some true | some false => PySem.W.kitAny R.K (.type u) (ts.map _) | none => none) = some b
    have e : PySem.W.kitOne R.K (.type u) (.type n) = kitB u n := rfl
    rw [e]
    cases q : kitB u n with
    | none => simp only [q] at h'; cases h'
    | some c =>
      simp only [q] at h' ⊢
      cases c with
      | true => exact h'
      | false => exact isi_kit hu h' fun t ht => hn t (List.mem_cons_of_mem _ ht)
theorem isi_some {exm : Str → Str → Option Bool} {d : D} {n : String} {ts : List TyN} {b : Bool} (h : isiS exm d (.ty n :: ts) = some b) : ∃ u, tyS d = some u := by
  cases q : tyS d with
  | some u => exact ⟨u, rfl⟩
  | none =>
    have h' : (match (match tyS d with | some u => kitB u n | none => none) with | some true => some true | some false => isiS exm d ts | none => none) = some b := h
    rw [q] at h'
    cases h'
def tynV : TyN → V
  | .ty n => .ty n
  | .own _ => .non
theorem tyns_ok {sc : Scope} {calm : Bool} {B : Bs} {X : Cx} {W : WX} (C : Cxt T sc calm G B X W) : ∀ {ts : List TyN} {ets : List Expr}, tynsB T sc ts ets = true → (∀ t ∈ ts, ∃ n, t = TyN.ty n) ∧ PA X ets (fun _ H Q => Q (ts.map tynV) H)
  | [], [], _ => ⟨fun t ht => (by cases ht), pa_of pa_nil fun σ H Q q => q⟩
  | [], _ :: _, h => Bool.noConfusion (show false = true from h)
  | _ :: _, [], h => Bool.noConfusion (show false = true from h)
  | t :: ts, e :: es, h => by
    obtain ⟨h1, h2⟩ := b2 h
    obtain ⟨h2, h3⟩ := b2 h2
    obtain ⟨n, rfl, p⟩ := tyn_ok C h1
    obtain ⟨a1, a2⟩ := tyns_ok C h3
    refine ⟨fun t ht => ?_, pa_of (pa_cons p a2 (star_ok h2)) fun σ H Q q => q⟩
    rcases List.mem_cons.mp ht with rfl | ht
    · exact ⟨n, rfl⟩
    · exact a1 t ht
theorem ok_isi {a : Ex} (ha : OK T G a) (ts : List TyN) (tp : Bool) : OK T G (.isi a ts tp) := ok_gen fun {sc calm B X W} C m e h => by
  obtain ⟨p0, ea, et, pos, rfl, h1, h2, h3, h4, h5, h6⟩ := chk_isi h
  refine ⟨?_, fun _ => rfl⟩
  have gl : Gl X "isinstance" := C.glob h2
  have fr := C.free _ (List.contains_iff_mem.mp h1)
  have hpl : ∀ {env : Env}, (backTo pos (starEach [et] env)).any (·.1) = false := fun {env} => by rw [star_ok h4] <;> rfl
  have start : ∀ {σ : L2.St} {H : Hp} {Q : VK} {t : V → Hp → Prop}, tE B W (ev G (.isi a ts tp)) σ H Q →
      (∀ g H ρ st x d b, ER B g H σ ρ st → RdV B.R g.F H x d → isiS G.exm d ts = some b → Pst B W g H σ ρ (.ok (.fz (.bl b)) st) (kV B Q) → t x H) → tE B W (ev G a) σ H t := fun {σ H Q t} ⟨g, ρ, st, er, p⟩ hk => by
    have p' : Pst B W g H σ ρ ((ev G a ρ st).bind fun x st => pick (dr st x) fun d => pick (isiS G.exm d ts) fun r => Res.ok (Val.fz (D.bl r)) st) (kV B Q) := p
    refine ⟨g, ρ, st, er, p'.bind.imp fun v st1 g1 H1 e1 s1 p1 x rx => ?_⟩
    obtain ⟨d, q1, p1⟩ := p1.pick
    obtain ⟨b, q2, p1⟩ := p1.pick
    exact hk g1 H1 ρ st1 x d b e1 (e1.rd rx q1) q2 p1
  rcases h6 with ⟨t, rfl, h6⟩ | ⟨ets, k, p2, rfl, h8, h9, h6⟩
  · obtain ⟨n, rfl, pt⟩ := tyn_ok C h6
    refine pe_of (pe_callB call_isi gl fr (by decide +kernel) (pa_cons ((ha C ea).1 h5) (pa_cons pt pa_nil (star_ok h4)) (star_ok h3)) (by decide) (by decide) (star_ok h3) hpl) fun σ H Q q => start q fun g H ρ st x d b er r e q => ?_
    obtain ⟨u, hu⟩ := isi_some e
    have kk := isi_kit (R := B.R) hu e (fun t ht => ⟨n, by simpa using ht⟩)
    refine ⟨x, .ty n, .type u, .type n, b, rfl, .ty n, by rw [C.K]; exact r.ty er.le hu, ?_, q.same er (.bl b)⟩
    have kk' : (match PySem.W.kitOne B.R.K (.type u) (.type n) with | some true => some true | some false => some false | none => none) = some b := kk
    rw [C.K]
    cases z : PySem.W.kitOne B.R.K (.type u) (.type n) with
    | none => rw [z] at kk'; cases kk'
    | some c => rw [z] at kk'; cases c <;> exact kk'
  · obtain ⟨a1, a2⟩ := tyns_ok C h6
    refine pe_of (pe_callB call_isiT gl fr (by decide +kernel) (pa_cons ((ha C ea).1 h5) (pa_cons (pe_tup a2) pa_nil (star_ok h4)) (star_ok h3)) (by decide) (by decide) (star_ok h3) hpl) fun σ H Q q => start q fun g H ρ st x d b er r e pq => ?_
    refine ⟨?_, fun p hp => ?_⟩
    · rw [List.length_map, ← lim_eq]
      exact Nat.le_trans h8 (by decide)
    · obtain ⟨er2, s2⟩ := er.lay (o := .tup (ts.map tynV)) hp
      cases ts with
      | nil => exact absurd rfl h9
      | cons t ts =>
        obtain ⟨n, rfl⟩ := a1 t List.mem_cons_self
        obtain ⟨u, hu⟩ := isi_some e
        have kk := isi_kit (R := B.R) hu e a1
        have r2 : RdV B.R (upd g.F p (.tup ((TyN.ty n :: ts).map tynV))) (upd H p (.tup ((TyN.ty n :: ts).map tynV))) x d := by
          have hx : ∀ a, H a ≠ none → upd H p (.tup ((TyN.ty n :: ts).map tynV)) a = H a := fun a ha => upd_ne fun z => ha (by rw [z]; exact hp)
          have fx : ∀ a, H a ≠ none → g.F a = none → upd g.F p (.tup ((TyN.ty n :: ts).map tynV)) a = none := fun a ha hf => by
            rw [upd_ne fun z => ha (by rw [z]; exact hp)]; exact hf
          cases r with
          | rep r => exact .rep (r.mono s2.le.F)
          | lst f h k => exact .lst (fx _ (by rw [h]; intro z; cases z) f) (by rw [hx _ (by rw [h]; intro z; cases z)]; exact h) (k.mono s2.le.F)
          | dct f h k l => exact .dct (fx _ (by rw [h]; intro z; cases z) f) (by rw [hx _ (by rw [h]; intro z; cases z)]; exact h) k (l.mono s2.le.F)
        refine ⟨x, p, _, .type u, (TyN.ty n :: ts).map (fun t => match t with | .ty n => Value.type n | .own _ => .none), b, rfl, upd_same, ?_, by rw [C.K]; exact r2.ty er2.le hu, by rw [C.K]; exact kk, pq.here er2 s2 (.bl b) (Rep.bl b)⟩
        have : ∀ {l : List TyN}, (∀ t ∈ l, ∃ n, t = TyN.ty n) → Paired ClsV (l.map tynV) (l.map (fun t => match t with | .ty n => Value.type n | .own _ => .none)) := fun {l} hl => by
          induction l with
          | nil => exact .nil
          | cons t l ih =>
            obtain ⟨n, rfl⟩ := hl t List.mem_cons_self
            exact .cons (.ty n) (ih fun t ht => hl t (List.mem_cons_of_mem _ ht))
        exact this a1

/-! ### the exception that a suite holds -/
theorem pe_never {X : Cx} {e : Expr} {t : TE} (h : ∀ σ H Q, ¬ t σ H Q) : PE X e t := ⟨fun pins s σ H Q I z => (h σ H Q z).elim⟩
def rIsX (K : PySem.W.Frag) (a : Addr) (cls : Value) (dd : Option Addr) : List V → Hp → VK → Prop := fun xs H Q => ∃ (D : Addr) (c : V) (cv : Value) (b : Bool), cls = .ref D ∧ ExcC K D ∧ (dd = none ∨ ∃ dx fs, dd = some dx ∧ H dx = some (.xd fs)) ∧ xs = [.ref a, c] ∧ ClsV c cv ∧ PySem.W.kitOne K (.ref D) cv = some b ∧ Q (.bl b) H
def rIsXT (K : PySem.W.Frag) (a : Addr) (cls : Value) (dd : Option Addr) : List V → Hp → VK → Prop := fun xs H Q => ∃ (D tp : Addr) (cs : List V) (us : List Value) (b : Bool), cls = .ref D ∧ ExcC K D ∧ (dd = none ∨ ∃ dx fs, dd = some dx ∧ H dx = some (.xd fs)) ∧ xs = [.ref a, .ref tp] ∧ H tp = some (.tup cs) ∧ Paired ClsV cs us ∧ PySem.W.kitAny K (.ref D) us = some b ∧ Q (.bl b) H
theorem inst_x {X : Cx} {a D : Addr} {dd : Option Addr} {oe : Obj} {pins : List (Addr × Obj)} {σ : L2.St} {H : Hp} {s : Shared} (hz : Zc (.ref D) dd oe) (hf : ∃ vs, oe.data = .fields vs) (hp : (a, oe) ∈ X.pn) (I : L2.Inv X pins σ H s) (hd : dd = none ∨ ∃ dx fs, dd = some dx ∧ H dx = some (.xd fs)) : ∃ od, PySem.W.InstAt s.heap a oe D od := by
  obtain ⟨hget, _⟩ := I.pin (a, oe) (List.mem_append.mpr (.inl hp))
  obtain ⟨vs, hv⟩ := hf
  rcases hd with rfl | ⟨dx, fs, rfl, hx⟩
  · refine ⟨none, hget, hz.1, by unfold PySem.W.notCls; rw [hv] <;> rfl, ?_⟩
    rw [hz.2]
    trivial
  · have hx : ObjOk X.prog X.w H s.heap dx (.xd fs) := I.hok dx _ hx
    obtain ⟨mA, hns, hr⟩ := hx
    obtain ⟨od, ho, hl⟩ := lookIn_ns hns
    exact ⟨some od, hget, hz.1, by unfold PySem.W.notCls; rw [hv] <;> rfl, by rw [hz.2]; exact ho⟩
theorem kit_x {K : PySem.W.Frag} {D a : Addr} {oe : Obj} {od : Option Obj} (E : ExcC K D) : PySem.W.KitX K (.ref a) (.ref D) (fun h => PySem.W.InstAt h a oe D od) := by
  obtain ⟨cd, hc, _⟩ := PySem.W.any_some E.hd
  exact PySem.W.kitx_exc (by rw [hc]; rfl) E.hg E.hk E.hs E.ha E.hn E.ht E.hm
theorem call_isX {X : Cx} {a : Addr} {cls : Value} {dd : Option Addr} {oe : Obj} (hz : Zc cls dd oe) (hf : ∃ vs, oe.data = .fields vs) (hp : (a, oe) ∈ X.pn) : CallR X (.builtin "isinstance") (rIsX X.K a cls dd) := by
  intro pins s σ H xs us Q I r h
  obtain ⟨D, c, cv, b, rfl, E, hd, rfl, k, e, q⟩ := h
  obtain ⟨u1, u2, rfl, r1, r2⟩ := vals2 r
  have e2 := k.eq r2
  subst e2
  cases (show u1 = Value.ref a from r1)
  obtain ⟨od, J⟩ := inst_x hz hf hp I hd
  exact PySem.W.kia_one (kit_x E) I.kIn J e (fun z => nomatch z) fun tk => ⟨.bl b, H, I.tok tk, rfl, q⟩
theorem call_isXT {X : Cx} {a : Addr} {cls : Value} {dd : Option Addr} {oe : Obj} (hz : Zc cls dd oe) (hf : ∃ vs, oe.data = .fields vs) (hp : (a, oe) ∈ X.pn) : CallR X (.builtin "isinstance") (rIsXT X.K a cls dd) := by
  intro pins s σ H xs us Q I r h
  obtain ⟨D, tp, cs, ws, b, rfl, E, hd, rfl, hT, k, e, q⟩ := h
  obtain ⟨u1, u2, rfl, r1, r2⟩ := vals2 r
  cases (show u1 = Value.ref a from r1)
  cases (show u2 = Value.ref tp from r2)
  obtain ⟨od, J⟩ := inst_x hz hf hp I hd
  obtain ⟨_, its, rv, o, h1, h2, n, h3⟩ := (show ObjOk X.prog X.w H s.heap tp (.tup cs) from I.hok tp _ hT)
  have e3 := ClsV.all k rv
  subst e3
  obtain ⟨oc, od', dt, sl⟩ := o
  simp only at h2 h3
  subst h2 h3
  exact PySem.W.kia_tup (kit_x E) I.kIn J h1 e (fun z => nomatch z) fun tk => ⟨.bl b, H, I.tok tk, rfl, q⟩
theorem cls_ok {sc : Scope} {calm : Bool} {B : Bs} {X : Cx} {W : WX} (C : Cxt T sc calm G B X W) {c : Str} {e : Expr} (h : clsB T sc c e = true) : ∃ A, X.mg c = some (.ref A) ∧ PE X e (tC (.ref A)) ∧ plainE e = true := by
  cases e <;> first
    | exact Bool.noConfusion (show false = true from h)
    | skip
  rename_i x p
  obtain ⟨h1, h2⟩ := b2 h
  obtain ⟨h2, h3⟩ := b2 h2
  obtain ⟨h3, h4⟩ := b2 h3
  have hx : c = x := of_decide_eq_true h1
  subst hx
  obtain ⟨A, hA⟩ := C.exn c (List.contains_iff_mem.mp h2)
  obtain ⟨n1, _, _, _⟩ := seen_ok h4
  exact ⟨A, hA, pe_glob (v := .ref A) (C.glob h3) hA rfl n1, rfl⟩
theorem clss_ok {sc : Scope} {calm : Bool} {B : Bs} {X : Cx} {W : WX} (C : Cxt T sc calm G B X W) : ∀ {cs : List Str} {es : List Expr}, clssB T sc cs es = true → ∃ As : List Addr, Paired (fun c A => X.mg c = some (.ref A)) cs As ∧ PA X es (fun _ H Q => Q (As.map V.ref) H)
  | [], [], _ => ⟨[], .nil, pa_of pa_nil fun σ H Q q => q⟩
  | [], _ :: _, h => Bool.noConfusion (show false = true from h)
  | _ :: _, [], h => Bool.noConfusion (show false = true from h)
  | c :: cs, e :: es, h => by
    obtain ⟨h1, h2⟩ := b2 h
    obtain ⟨A, hA, p, pl⟩ := cls_ok C h1
    obtain ⟨As, hAs, ps⟩ := clss_ok C h2
    exact ⟨A :: As, .cons hA hAs, pa_of (pa_cons p ps (star_ok pl)) fun σ H Q q => q⟩
theorem isx_any {sc : Scope} {calm : Bool} {B : Bs} {X : Cx} {W : WX} (C : Cxt T sc calm G B X W) {c : Str} {D : Addr} (hD : X.mg c = some (.ref D)) : ∀ {ts : List Str} {As : List Addr} {b : Bool}, Paired (fun c A => X.mg c = some (.ref A)) ts As → isxS G.exm c ts = some b → PySem.W.kitAny X.K (.ref D) (As.map Value.ref) = some b
  | [], _, b, .nil, h => h
  | t :: ts, _, b, .cons (b := A) hA r, h => by
    have h' : (match G.exm c t with | some true => some true | some false => isxS G.exm c ts | none => none) = some b := h
    cases q : G.exm c t with
    | none => rw [q] at h'; cases h'
    | some v =>
      obtain ⟨D', A', e1, e2, e3, _⟩ := C.exm c t v q
      rw [hD] at e1; cases e1
      rw [hA] at e2; cases e2
      rw [q] at h'
      show (match PySem.W.kitOne X.K (.ref D) (.ref A) with | some true => some true | some false => PySem.W.kitAny X.K (.ref D) _ | none => none) = some b
      rw [e3]
      cases v with
      | true => exact h'
      | false => exact isx_any C hD r h'
theorem isx_E {sc : Scope} {calm : Bool} {B : Bs} {X : Cx} {W : WX} (C : Cxt T sc calm G B X W) {c : Str} {D : Addr} (hD : X.mg c = some (.ref D)) {t : Str} {ts : List Str} {b : Bool} (h : isxS G.exm c (t :: ts) = some b) : ExcC X.K D := by
  have h' : (match G.exm c t with | some true => some true | some false => isxS G.exm c ts | none => none) = some b := h
  cases q : G.exm c t with
  | none => rw [q] at h'; cases h'
  | some v =>
    obtain ⟨D', A', e1, e2, e3, _, E⟩ := C.exm c t v q
    rw [hD] at e1; cases e1
    exact E
theorem exn_slot {B : Bs} {g : Gh} {H : Hp} {σ : L2.St} {ρ : Slots} {st : Store} (er : ER B g H σ ρ st) {i : Nat} {x : XD} (q : ρ[i]? = some (some (.exn x))) : ∃ a cls dd, B.ex = some (a, cls, dd) ∧ σ[i]? = some (some (.ref a)) ∧ XR B.R g.F x cls dd := by
  have hi : i < σ.length := by
    rw [er.slen]; exact (List.getElem?_eq_some_iff.mp q).1
  obtain ⟨y, e1, a, cls, dd, e2, e3, r⟩ := er.slots i _ _ (List.getElem?_eq_getElem hi) q
  exact ⟨a, cls, dd, e2, by rw [List.getElem?_eq_getElem hi, e1, e3], r⟩
theorem xd_H {R : RC} {F H : Hp} (l : Le F H) {x : XD} {cls : Value} {dd : Option Addr} (r : XR R F x cls dd) : dd = none ∨ ∃ dx fs, dd = some dx ∧ H dx = some (.xd fs) := by
  obtain ⟨_, ⟨_, h⟩ | ⟨d, fvs, h, e, _⟩⟩ := r
  · exact .inl h
  · rcases l d _ e with q | ⟨z, _⟩
    · exact .inr ⟨d, fvs, h, q⟩
    · cases z
theorem ok_isx (i : Nat) (ts : List Str) (tp : Bool) : OK T G (.isx i ts tp) := ok_gen fun {sc calm B X W} C m e h => by
  obtain ⟨p0, y, py, et, pos, rfl, hc, h1, h2, h3, h4, h5, h6, h7⟩ := chk_isx h
  refine ⟨?_, fun _ => rfl⟩
  have gl : Gl X "isinstance" := C.glob h2
  have fr := C.free _ (List.contains_iff_mem.mp h1)
  obtain ⟨n1, n2, _, _⟩ := seen_ok h5
  have read : ∀ {σ : L2.St} {H : Hp} {Q : VK}, tE B W (ev G (.isx i ts tp)) σ H Q → ∃ g ρ st x b a cls dd, ER B g H σ ρ st ∧ isxS G.exm x.cls ts = some b ∧ Pst B W g H σ ρ (.ok (.fz (.bl b)) st) (kV B Q) ∧ B.ex = some (a, cls, dd) ∧ σ[i]? = some (some (.ref a)) ∧ XR B.R g.F x cls dd := fun {σ H Q} ⟨g, ρ, st, er, p⟩ => by
    have p' : Pst B W g H σ ρ (match ρ[i]? with
      | some (some (.exn x)) => pick (isxS G.exm x.cls ts) fun r => Res.ok (Val.fz (D.bl r)) st
      | _ => .stuck) (kV B Q) := p
    cases q : ρ[i]? with
    | none => simp only [q] at p'; exact p'.elim
    | some o =>
      cases o with
      | none => simp only [q] at p'; exact p'.elim
      | some v =>
        cases v with
        | fz _ => simp only [q] at p'; exact p'.elim
        | loc _ => simp only [q] at p'; exact p'.elim
        | exn x =>
          simp only [q] at p'
          obtain ⟨b, q1, p1⟩ := p'.pick
          obtain ⟨a, cls, dd, e1, e2, e3⟩ := exn_slot er q
          exact ⟨g, ρ, st, x, b, a, cls, dd, er, q1, p1, e1, e2, e3⟩
  cases hex : B.ex with
  | none =>
      refine pe_never fun σ H Q q => ?_
      obtain ⟨g, ρ, st, x, b, a, cls, dd, er, q1, p1, e1, _⟩ := read q
      rw [hex] at e1; cases e1
  | some z =>
    obtain ⟨a, cls, dd⟩ := z
    obtain ⟨oe, hz, hf, hp⟩ := C.exI hc a cls dd hex
    have pv : PE X (.Name y py) (tVar i) := pe_var (i := i) (by rw [C.N]; exact h3) (C.vis h4) n1 n2
    rcases h7 with ⟨t, rfl, h7⟩ | ⟨ets, k, p2, rfl, h8, h9, h7⟩
    · obtain ⟨A, hA, pt, pl⟩ := cls_ok C h7
      refine pe_of (pe_callB (call_isX hz hf hp) gl fr (by decide +kernel) (pa_cons pv (pa_cons pt pa_nil (star_ok h6)) rfl) (by decide) (by decide) rfl (by rw [star_ok h6] <;> rfl)) fun σ H Q q => ?_
      obtain ⟨g, ρ, st, x, b, a', cls', dd', er, q1, p1, e1, e2, xr⟩ := read q
      rw [hex] at e1; cases e1
      obtain ⟨D, hD, rfl⟩ := xr.1
      have hD' : X.mg x.cls = some (.ref D) := by rw [C.mg]; exact hD
      have kk := isx_any C hD' (ts := [t]) (As := [A]) (.cons hA .nil) q1
      refine ⟨.ref a, e2, D, .ref A, .ref A, b, rfl, isx_E C hD' q1, xd_H er.le xr, rfl, .own A, ?_, p1.same er (.bl b)⟩
      have kk' : (match PySem.W.kitOne X.K (.ref D) (.ref A) with | some true => some true | some false => some false | none => none) = some b := kk
      cases z : PySem.W.kitOne X.K (.ref D) (.ref A) with
      | none => rw [z] at kk'; cases kk'
      | some c => rw [z] at kk'; cases c <;> exact kk'
    · obtain ⟨As, hAs, pt⟩ := clss_ok C h7
      have lAs : ∀ {ts : List Str} {As : List Addr}, Paired (fun c A => X.mg c = some (.ref A)) ts As → ts.length = As.length := fun {ts As} p => by
        induction p with
        | nil => rfl
        | cons _ _ ih => exact congrArg Nat.succ ih
      refine pe_of (pe_callB (call_isXT hz hf hp) gl fr (by decide +kernel) (pa_cons pv (pa_cons (pe_tup pt) pa_nil (star_ok h6)) rfl) (by decide) (by decide) rfl (by rw [star_ok h6] <;> rfl)) fun σ H Q q => ?_
      obtain ⟨g, ρ, st, x, b, a', cls', dd', er, q1, p1, e1, e2, xr⟩ := read q
      rw [hex] at e1; cases e1
      refine ⟨.ref a, e2, ?_, fun p hp' => ?_⟩
      · rw [List.length_map, ← lAs hAs, ← lim_eq]
        exact Nat.le_trans h8 (by decide)
      · obtain ⟨er2, s2⟩ := er.lay (o := .tup (As.map V.ref)) hp'
        obtain ⟨D, hD, rfl⟩ := xr.1
        have hD' : X.mg x.cls = some (.ref D) := by rw [C.mg]; exact hD
        have hE : ExcC X.K D := by
          cases ts with
          | nil => exact absurd rfl h9
          | cons t ts => exact isx_E C hD' q1
        have pr : ∀ As : List Addr, Paired ClsV (As.map V.ref) (As.map Value.ref) := fun As => by
          induction As with
          | nil => exact .nil
          | cons A As ih => exact .cons (.own A) ih
        exact ⟨D, p, _, _, b, rfl, hE, xd_H er2.le (xr.mono s2.le.F), rfl, upd_same, pr As, isx_any C hD' hAs q1, p1.here er2 s2 (.bl b) (Rep.bl b)⟩
theorem ok_isv (i : Nat) (n : String) : OK T G (.isv i n) := ok_gen fun {sc calm B X W} C m e h => by
  obtain ⟨p0, y, py, et, pos, rfl, hc, h1, h2, h3, h4, h5, h6, h7⟩ := chk_isv h
  refine ⟨?_, fun _ => rfl⟩
  have gl : Gl X "isinstance" := C.glob h2
  have fr := C.free _ (List.contains_iff_mem.mp h1)
  obtain ⟨n1, n2, _, _⟩ := seen_ok h5
  have read : ∀ {σ : L2.St} {H : Hp} {Q : VK}, tE B W (ev G (.isv i n)) σ H Q → ∃ g ρ st x b a cls dd, ER B g H σ ρ st ∧ G.exv x.cls n = some b ∧ Pst B W g H σ ρ (.ok (.fz (.bl b)) st) (kV B Q) ∧ B.ex = some (a, cls, dd) ∧ σ[i]? = some (some (.ref a)) ∧ XR B.R g.F x cls dd := fun {σ H Q} ⟨g, ρ, st, er, p⟩ => by
    have p' : Pst B W g H σ ρ (match ρ[i]? with
      | some (some (.exn x)) => pick (G.exv x.cls n) fun r => Res.ok (Val.fz (D.bl r)) st
      | _ => .stuck) (kV B Q) := p
    cases q : ρ[i]? with
    | none => simp only [q] at p'; exact p'.elim
    | some o =>
      cases o with
      | none => simp only [q] at p'; exact p'.elim
      | some v =>
        cases v with
        | fz _ => simp only [q] at p'; exact p'.elim
        | loc _ => simp only [q] at p'; exact p'.elim
        | exn x =>
          simp only [q] at p'
          obtain ⟨b, q1, p1⟩ := p'.pick
          obtain ⟨a, cls, dd, e1, e2, e3⟩ := exn_slot er q
          exact ⟨g, ρ, st, x, b, a, cls, dd, er, q1, p1, e1, e2, e3⟩
  cases hex : B.ex with
  | none =>
      refine pe_never fun σ H Q q => ?_
      obtain ⟨g, ρ, st, x, b, a, cls, dd, er, q1, p1, e1, _⟩ := read q
      rw [hex] at e1; cases e1
  | some z =>
    obtain ⟨a, cls, dd⟩ := z
    obtain ⟨oe, hz, hf, hp⟩ := C.exI hc a cls dd hex
    have pv : PE X (.Name y py) (tVar i) := pe_var (i := i) (by rw [C.N]; exact h3) (C.vis h4) n1 n2
    obtain ⟨n', hn', pt⟩ := tyn_ok C h7
    cases hn'
    refine pe_of (pe_callB (call_isX hz hf hp) gl fr (by decide +kernel) (pa_cons pv (pa_cons pt pa_nil (star_ok h6)) rfl) (by decide) (by decide) rfl (by rw [star_ok h6] <;> rfl)) fun σ H Q q => ?_
    obtain ⟨g, ρ, st, x, b, a', cls', dd', er, q1, p1, e1, e2, xr⟩ := read q
    rw [hex] at e1; cases e1
    obtain ⟨D, hD, rfl⟩ := xr.1
    obtain ⟨D', k1, k2, k3⟩ := C.exv _ _ _ q1
    rw [C.mg, hD] at k1
    cases k1
    exact ⟨.ref a, e2, D, .ty n, .type n, b, rfl, k3, xd_H er.le xr, rfl, .ty n, k2, p1.same er (.bl b)⟩
def tXfd (a : Addr) (cls : Value) (d : Option Addr) (K : PySem.W.Frag) (f : Str) (te : TE) : TE := fun σ H Q => te σ H fun x H1 => ∃ C, XfC K C ∧ PySem.W.findIn K (.ref C) f = some none ∧ x = .ref a ∧ cls = .ref C ∧ ∃ (dd : Addr) (fs : List (Str × V)) (v : V), d = some dd ∧ H1 dd = some (.xd fs) ∧ fs.lookup f = some v ∧ Q v H1
theorem pe_xfd {X : Cx} {a : Addr} {oe : Obj} {cls : Value} {d : Option Addr} {e : Expr} {te : TE} {pos : Pos} {n : Str}
    (hz : Zc cls d oe) (hf : ∃ vs, oe.data = .fields vs) (hp : (a, oe) ∈ X.pn) (he : PE X e te) (hb : attributeBase e n X.env (eval e X.env) = eval e X.env) :
    PE X (.Attribute e n pos) (tXfd a cls d X.K n te) := by
  refine ⟨fun pins s σ H Q I h => ?_⟩
  refine attr_of hb (thn (he.run pins s σ H _ I h) fun u s1 hh => ?_)
  obtain ⟨x, H1, I1, rx, C, T, hno, ex, ec, dd, fs, v, ed, ea, l, q⟩ := hh
  subst ex
  obtain rfl : u = Value.ref a := rx
  subst ec
  subst ed
  obtain ⟨ha, _⟩ := I1.pin (a, oe) (List.mem_append_left _ hp)
  obtain ⟨vs, hd⟩ := hf
  have hx : ObjOk X.prog X.w H1 s1.heap dd (.xd fs) := I1.hok dd _ ea
  obtain ⟨mA, hns, hr⟩ := hx
  obtain ⟨od, ho, hl⟩ := lookIn_ns hns
  obtain ⟨u, hu, ru⟩ := RelO.some_of (v := v) (o := mA n) (by rw [← l]; exact hr n)
  have J : PySem.W.InstAt s1.heap a oe C (some od) := ⟨ha, hz.1, by unfold PySem.W.notCls; rw [hd] <;> rfl, by rw [hz.2]; exact ho⟩
  exact HandSPX.exc_get I1.kIn J T.ga T.gg T.exC (PySem.W.findObj_own T.hdC hno rfl (by rw [hl, hu])) (handed_of ru) ⟨v, H1, I1.tok _, ru, q⟩
theorem lookup_zip {F : Hp} {R : RC} {f : Str} : ∀ {fvs : List (Str × V)} {fs : List (Str × D)} {d : D}, fvs.map (·.1) = fs.map (·.1) → RepL R F (fvs.map (·.2)) (fs.map (·.2)) → fs.lookup f = some d → ∃ v, fvs.lookup f = some v ∧ Rep R F v d
  | [], [], _, _, _, h => by cases h
  | [], _ :: _, _, e, _, _ => by cases e
  | _ :: _, [], _, e, _, _ => by cases e
  | (n, v) :: fvs, (n', d') :: fs, d, e, .cons r l, h => by
    obtain ⟨e1, e2⟩ := List.cons.inj e
    have e1' : n = n' := e1
    subst e1'
    by_cases hf : (f == n) = true
    · have : f = n := eq_of_beq hf
      subst this
      simp [List.lookup] at h ⊢
      subst h
      exact r
    · have hf' : (f == n) = false := by simpa using hf
      simp only [List.lookup, hf'] at h ⊢
      exact lookup_zip e2 l h
theorem ok_xfld (i : Nat) (f : Str) : OK T G (.xfld i f) := ok_gen fun {sc calm B X W} C m e h => by
  obtain ⟨y, py, p, rfl, hm, hc, h3, h4, h5, h6⟩ := chk_xfld h
  subst hm
  refine ⟨?_, fun z => by cases z⟩
  obtain ⟨n1, n2, _, _⟩ := seen_ok h5
  have read : ∀ {σ : L2.St} {H : Hp} {Q : VK}, tE B W (ev G (.xfld i f)) σ H Q → ∃ g ρ st x d a cls dd, ER B g H σ ρ st ∧ G.xfl x.cls f = true ∧ x.fs.lookup f = some d ∧ Pst B W g H σ ρ (.ok (.fz d) st) (kV B Q) ∧ B.ex = some (a, cls, dd) ∧ σ[i]? = some (some (.ref a)) ∧ XR B.R g.F x cls dd := fun {σ H Q} ⟨g, ρ, st, er, p⟩ => by
    have p' : Pst B W g H σ ρ (match ρ[i]? with
      | some (some (.exn x)) => if G.xfl x.cls f = true then pick (x.fs.lookup f) fun d => Res.ok (Val.fz d) st else .stuck
      | _ => .stuck) (kV B Q) := p
    cases q : ρ[i]? with
    | none => simp only [q] at p'; exact p'.elim
    | some o =>
      cases o with
      | none => simp only [q] at p'; exact p'.elim
      | some v =>
        cases v with
        | fz _ => simp only [q] at p'; exact p'.elim
        | loc _ => simp only [q] at p'; exact p'.elim
        | exn x =>
          simp only [q] at p'
          obtain ⟨hx, p1⟩ := pst_if p'
          obtain ⟨b, q1, p1⟩ := p1.pick
          obtain ⟨a, cls, dd, e1, e2, e3⟩ := exn_slot er q
          exact ⟨g, ρ, st, x, b, a, cls, dd, er, hx, q1, p1, e1, e2, e3⟩
  cases hex : B.ex with
  | none =>
      refine pe_never fun σ H Q q => ?_
      obtain ⟨g, ρ, st, x, b, a, cls, dd, er, q0, q1, p1, e1, _⟩ := read q
      rw [hex] at e1; cases e1
  | some z =>
    obtain ⟨a, cls, dd⟩ := z
    obtain ⟨oe, hz, hf, hp⟩ := C.exI hc a cls dd hex
    have pv : PE X (.Name y py) (tVar i) := pe_var (i := i) (by rw [C.N]; exact h3) (C.vis h4) n1 n2
    refine pe_of (pe_xfd hz hf hp pv rfl) fun σ H Q q => ?_
    obtain ⟨g, ρ, st, x, d, a', cls', dd', er, q0, q1, p1, e1, e2, xr⟩ := read q
    rw [hex] at e1; cases e1
    obtain ⟨D, hD, rfl⟩ := xr.1
    obtain ⟨D', hD', T, hno⟩ := C.xf _ _ q0
    rw [C.mg, hD] at hD'
    cases hD'
    refine ⟨.ref a, e2, D, T, hno, rfl, rfl, ?_⟩
    rcases xr.2 with ⟨z, _⟩ | ⟨dx, fvs, rfl, hF, k, l⟩
    · rw [z] at q1; cases q1
    · obtain ⟨v, hv, rv⟩ := lookup_zip k l q1
      rcases er.le dx _ hF with hH | ⟨z, _⟩
      · exact ⟨dx, fvs, v, rfl, hH, hv, p1.same er rv⟩
      · cases z
end
end PD

/-! PD12 -/
set_option Elab.async false
set_option linter.all false
set_option maxRecDepth 100000
set_option maxHeartbeats 4000000
/-! PD: what is walked; targets; list comprehensions. -/
namespace PD
open PySem PySem.Spec PyProof.Rows L2

/-- the model's iterator of ours -/
inductive ItOk (R : RC) (E : ExH) (g : Gh) : Iter → L2.It → Prop
  | rng (lo : Int) (n : Nat) : ItOk R E g (.rng lo n) (Itr lo n)
  | lst {a : Addr} {v : Val} : ValR R E g.F g.A (.ref a) v → ItOk R E g (.lst v) (Itl R.K a)
  | tup {a : Addr} {ds : List D} : Rep R g.F (.ref a) (.tup ds) → ItOk R E g (.tup ds) (Itt R.K a)
  | str (s : Str) : ItOk R E g (.str s) (Its s)
end PD
namespace PD
open PySem PySem.Spec PyProof.Rows L2
theorem ItOk.up {R : RC} {E : ExH} {g g' : Gh} {I : Iter} {J : L2.It} (l : g.le g') (h : ItOk R E g I J) : ItOk R E g' I J := by
  cases h with
  | rng lo n => exact .rng lo n
  | lst h => exact .lst (h.up l)
  | tup h => exact .tup (h.mono l.F)
  | str s => exact .str s
def tI (B : Bs) (W : WX) (c : Slots → Store → Res Iter) : TI := fun σ H Rr => ∃ g ρ st, ER B g H σ ρ st ∧ Pst B W g H σ ρ (c ρ st) fun I _ g' H' => ∀ J, ItOk B.R B.ex g' I J → Rr J H'

section
variable {B : Bs} {W : WX} {g : Gh} {H : Hp} {σ : L2.St} {ρ : Slots} {st : Store}
theorem it_go (e : ER B g H σ ρ st) {I : Iter} {J : L2.It} {i n : Nat} {d : D} (h : ItOk B.R B.ex g I J) (hn : I.size st = some n) (hi : i < n) (hd : I.at st i = some d) :
    J.go i H ∧ ∀ x H', J.yld i H x H' → H' = H ∧ Rep B.R g.F x d := by
  have le := e.le
  cases h with
  | rng lo m =>
    cases hn
    cases hd
    refine ⟨hi, fun x H' y => ⟨y.1, ?_⟩⟩
    rw [y.2]; exact .int _
  | @lst a v hv =>
    cases q : dr st v with
    | none => simp only [Iter.size, q] at hn; cases hn
    | some dv =>
      have r := e.rd hv q
      cases dv with
      | lst ds =>
        simp only [Iter.size, q] at hn
        simp only [Iter.at, q] at hd
        obtain ⟨a', xs, e1, s, k⟩ := r.asL le
        cases e1
        obtain ⟨v', hv', rv⟩ := k.get hd
        exact ⟨⟨xs, v', s, hv'⟩, fun x H' y => ⟨y.1, by
          have := y.2 xs s
          rw [hv'] at this; cases this
          exact rv⟩⟩
      | _ => simp only [Iter.size, q] at hn; cases hn
  | @tup a ds hv =>
    cases hn
    cases hv with
    | tup s k =>
      obtain ⟨v', hv', rv⟩ := k.get (show ds[i]? = some d from hd)
      exact ⟨⟨_, v', le.sqT s, hv'⟩, fun x H' y => ⟨y.1, by
        have := y.2 _ (le.sqT s)
        rw [hv'] at this; cases this
        exact rv⟩⟩
  | str s =>
    cases hn
    have hd' : (s.cps[i]?).map (fun c => D.str (sgn c)) = some d := hd
    refine ⟨hi, fun x H' y => ⟨y.1, ?_⟩⟩
    obtain ⟨c, hc, hx⟩ := y.2
    rw [hc] at hd'
    cases hd'
    rw [hx]; exact .str _
theorem it_stop (e : ER B g H σ ρ st) {I : Iter} {J : L2.It} {n : Nat} (h : ItOk B.R B.ex g I J) (hn : I.size st = some n) : J.stop n H := by
  have le := e.le
  cases h with
  | rng lo m => cases hn; exact Nat.le_refl _
  | @lst a v hv =>
    cases q : dr st v with
    | none => simp only [Iter.size, q] at hn; cases hn
    | some dv =>
      have r := e.rd hv q
      cases dv with
      | lst ds =>
        simp only [Iter.size, q] at hn
        obtain ⟨a', xs, e1, s, k⟩ := r.asL le
        cases e1
        cases hn
        exact ⟨xs, s, by rw [k.length]; exact Nat.le_refl _⟩
      | _ => simp only [Iter.size, q] at hn; cases hn
  | @tup a ds hv =>
    cases hn
    cases hv with
    | tup s k => exact ⟨_, le.sqT s, by rw [k.length]; exact Nat.le_refl _⟩
  | str s => cases hn; exact Nat.le_refl _
end

/-! ### a list, a tuple, a text, walked -/
def iSeq (K : PySem.W.Frag) (te : TE) : TI := fun σ H Rr => te σ H fun x H1 => (∃ a, x = .ref a ∧ (∃ xs, SqL K H1 a xs) ∧ Rr (Itl K a) H1) ∨ (∃ a, x = .ref a ∧ (∃ xs, SqT K H1 a xs) ∧ Rr (Itt K a) H1) ∨ (∃ s, x = .str s ∧ Rr (Its s) H1)
theorem pi_seq {X : Cx} {tg l : Expr} {tl : TE} (hl : PE X l tl) : PI X tg l (iSeq X.K tl) := by
  refine ⟨fun pins s σ H R I h => ?_⟩
  refine thn (hl.run pins s σ H _ I h) fun v s1 ⟨x, H1, I1, r1, q1⟩ => ?_
  have new : ∀ {b : Addr} {fp : List Addr}, b ∈ [s1.heap.objs.size] → FpOk X pins H1 b := fun {b _} hb => by
    have e : b = s1.heap.objs.size := by simpa using hb
    subst e
    exact I1.fpOk (Nat.le_refl _) (I1.hok.fresh (Nat.le_refl _))
  rcases q1 with ⟨a, e, ⟨xs, hq⟩, q⟩ | ⟨a, e, ⟨xs, hq⟩, q⟩ | ⟨y, e, q⟩
  · subst e
    cases r1
    obtain ⟨its, rv, p, hz⟩ := I1.list hq
    refine wpAny_pyIter_list p.isList ?_
    exact ⟨s1.heap.objs.size, [s1.heap.objs.size], _, _, H1, rfl, I1.kept (t' := s1.toks) fun b o e => Heap.get?_push_of_some _ e, turn_list a _, ⟨_, Heap.get?_push_size _ rfl, rfl, rfl⟩, fun b hb => new (fp := []) hb, q⟩
  · subst e
    cases r1
    obtain ⟨its, rv, p, hz⟩ := I1.tuple hq
    refine wpAny_pyIter_tuple (show s1.heap.IsTuple a its.toArray from p) ?_
    exact ⟨s1.heap.objs.size, [s1.heap.objs.size], _, _, H1, rfl, I1.kept (t' := s1.toks) fun b o e => Heap.get?_push_of_some _ e, turn_tuple a _, ⟨_, Heap.get?_push_size _ rfl, rfl, rfl⟩, fun b hb => new (fp := []) hb, q⟩
  · subst e
    obtain ⟨t, rfl⟩ := r1
    cases ha : y.cps.all (· < 128)
    · exact wpAny_pyIter_wide ha (pi_one (tk := s1.toks) I1 _ (turn_str _ y t "str_iterator" (.inr rfl)) ⟨_, Heap.get?_push_size _ rfl, rfl, rfl⟩ q)
    · exact wpAny_pyIter_ascii ha (pi_one (tk := s1.toks) I1 _ (turn_str _ y t "str_ascii_iterator" (.inl rfl)) ⟨_, Heap.get?_push_size _ rfl, rfl, rfl⟩ q)

def OKi (T : Tab) (G : Gam) (c : It) : Prop := ∀ {sc : Scope} {calm : Bool} {B : Bs} {X : Cx} {W : WX}, Cxt T sc calm G B X W → ∀ (tg e : Expr), chkI T sc calm c e = true → PI X tg e (tI B W (evI G c)) ∧ plainE e = true
section
variable {T : Tab} {G : Gam}
theorem chkI_rng1 {sc : Scope} {calm : Bool} {a : Ex} {e : Expr} (h : chkI T sc calm (.rng1 a) e = true) : ∃ p ea pos, e = .Call (.Name "range" p) [ea] [] pos ∧ T.free.contains "range" = true ∧ glB sc "range" = true ∧ plainE ea = true ∧ chk T sc calm a false ea = true := by
  cases e with
  | Call g ees kws pos =>
    cases g with
    | Name x p =>
      cases ees with
      | nil => exact Bool.noConfusion (show false = true from h)
      | cons ea ees =>
        cases ees with
        | cons _ _ => exact Bool.noConfusion (show false = true from h)
        | nil =>
          cases kws with
          | cons _ _ => exact Bool.noConfusion (show false = true from h)
          | nil =>
            obtain ⟨k1, q1⟩ := b2 h
            obtain ⟨k2, q2⟩ := b2 q1
            obtain ⟨k3, q3⟩ := b2 q2
            obtain ⟨k4, k5⟩ := b2 q3
            have hx : x = "range" := of_decide_eq_true k1
            subst hx
            exact ⟨p, ea, pos, rfl, k2, k3, k4, k5⟩
    | _ => exact Bool.noConfusion (show false = true from h)
  | _ => exact Bool.noConfusion (show false = true from h)
theorem chkI_rng2 {sc : Scope} {calm : Bool} {a b : Ex} {e : Expr} (h : chkI T sc calm (.rng2 a b) e = true) : ∃ p ea eb pos, e = .Call (.Name "range" p) [ea, eb] [] pos ∧ T.free.contains "range" = true ∧ glB sc "range" = true ∧ plainE ea = true ∧ plainE eb = true ∧ chk T sc calm a false ea = true ∧ chk T sc calm b false eb = true := by
  cases e with
  | Call g ees kws pos =>
    cases g with
    | Name x p =>
      cases ees with
      | nil => exact Bool.noConfusion (show false = true from h)
      | cons ea ees =>
        cases ees with
        | nil => exact Bool.noConfusion (show false = true from h)
        | cons eb ees =>
          cases ees with
          | cons _ _ => exact Bool.noConfusion (show false = true from h)
          | nil =>
            cases kws with
            | cons _ _ => exact Bool.noConfusion (show false = true from h)
            | nil =>
              obtain ⟨k1, q1⟩ := b2 h
              obtain ⟨k2, q2⟩ := b2 q1
              obtain ⟨k3, q3⟩ := b2 q2
              obtain ⟨k4, q4⟩ := b2 q3
              obtain ⟨k5, q5⟩ := b2 q4
              obtain ⟨k6, k7⟩ := b2 q5
              have hx : x = "range" := of_decide_eq_true k1
              subst hx
              exact ⟨p, ea, eb, pos, rfl, k2, k3, k4, k5, k6, k7⟩
    | _ => exact Bool.noConfusion (show false = true from h)
  | _ => exact Bool.noConfusion (show false = true from h)
theorem rng_of {a b : D} {I : Iter} (h : rngS a b = some I) : ∃ i j, a = .int i ∧ b = .int j ∧ (-(2 ^ 62) ≤ i ∧ i < 2 ^ 62 ∧ -(2 ^ 62) ≤ j ∧ j < 2 ^ 62) ∧ I = .rng i (j - i).toNat := by
  cases a <;> cases b <;> first
    | cases h
    | skip
  rename_i i j
  have h' : (if rngOk i && rngOk j then some (Iter.rng i (j - i).toNat) else none) = some I := h
  cases q : rngOk i && rngOk j with
  | false => rw [q] at h'; cases h'
  | true =>
    rw [q] at h'
    cases h'
    obtain ⟨q1, q2⟩ := b2 q
    obtain ⟨q3, q4⟩ := b2 q1
    obtain ⟨q5, q6⟩ := b2 q2
    exact ⟨i, j, rfl, rfl, ⟨of_decide_eq_true q3, of_decide_eq_true q4, of_decide_eq_true q5, of_decide_eq_true q6⟩, rfl⟩
theorem ok_rng1 {a : Ex} (ha : OK T G a) : OKi T G (.rng1 a) := by
  intro sc calm B X W C tg e h
  obtain ⟨p0, ea, pos, rfl, h1, h2, h3, h4⟩ := chkI_rng1 h
  refine ⟨pi_of (pi_range1 (C.glob h2) (C.free _ (List.contains_iff_mem.mp h1)) (pa_cons ((ha C ea).1 h4) pa_nil (star_ok h3)) (star_ok h3)) fun σ H R ⟨g, ρ, st, er, p⟩ => ?_, rfl⟩
  have p' : Pst B W g H σ ρ ((ev G a ρ st).bind fun x st => pick (dr st x) fun d => pick (rngS (.int 0) d) fun I => Res.ok I st) (fun I _ g' H' => ∀ J, ItOk B.R B.ex g' I J → R J H') := p
  refine ⟨g, ρ, st, er, p'.bind.imp fun v st1 g1 H1 e1 s1 p1 x rx => ?_⟩
  obtain ⟨d, q1, p1⟩ := p1.pick
  obtain ⟨I, q2, pp⟩ := p1.pick
  clear p1
  obtain ⟨i, j, e2, e3, ⟨_, _, z1, z2⟩, rfl⟩ := rng_of q2
  cases e2
  subst e3
  obtain rfl := (e1.rd rx q1).int
  refine ⟨j, rfl, z1, z2, ?_⟩
  have := pp.ok e1 _ (.rng 0 (j - 0).toNat)
  simpa using this
theorem ok_rng2 {a b : Ex} (ha : OK T G a) (hb : OK T G b) : OKi T G (.rng2 a b) := by
  intro sc calm B X W C tg e h
  obtain ⟨p0, ea, eb, pos, rfl, h1, h2, h3, h4, h5, h6⟩ := chkI_rng2 h
  have st1 : starEach [ea, eb] X.env = [(false, eval ea X.env), (false, eval eb X.env)] := by rw [star_ok h3, star_ok h4] <;> rfl
  refine ⟨pi_of (pi_range2 (C.glob h2) (C.free _ (List.contains_iff_mem.mp h1)) (pa_cons ((ha C ea).1 h5) (pa_cons ((hb C eb).1 h6) pa_nil (star_ok h4)) (star_ok h3)) st1 (star_ok h4)) fun σ H R ⟨g, ρ, st, er, p⟩ => ?_, rfl⟩
  have p' : Pst B W g H σ ρ ((ev G a ρ st).bind fun x st => (ev G b ρ st).bind fun y st => pick (dr st x) fun d => pick (dr st y) fun e => pick (rngS d e) fun I => Res.ok I st) (fun I _ g' H' => ∀ J, ItOk B.R B.ex g' I J → R J H') := p
  refine ⟨g, ρ, st, er, p'.bind.imp fun v st1 g1 H1 e1 s1 p1 x rx => ?_⟩
  refine ⟨g1, ρ, st1, e1, p1.bind.imp fun w st2 g2 H2 e2 s2 p2 y ry => ?_⟩
  obtain ⟨d, q1, p2⟩ := p2.pick
  obtain ⟨d', q2, p2⟩ := p2.pick
  obtain ⟨I, q3, pp⟩ := p2.pick
  clear p2
  obtain ⟨i, j, e3, e4, z, rfl⟩ := rng_of q3
  subst e3 e4
  obtain rfl := (e2.rd (rx.up s2.le) q1).int
  obtain rfl := (e2.rd ry q2).int
  exact ⟨i, j, rfl, z, pp.ok e2 _ (.rng i (j - i).toNat)⟩
theorem ok_seq {a : Ex} (ha : OK T G a) : OKi T G (.seq a) := by
  intro sc calm B X W C tg e h
  obtain ⟨h0, h1⟩ := b2 h
  refine ⟨pi_of (pi_seq ((ha C e).1 h1)) fun σ H R ⟨g, ρ, st, er, p⟩ => ?_, h0⟩
  have p' : Pst B W g H σ ρ ((ev G a ρ st).bind fun x st => pick (dr st x) fun d => pick (seqI x d) fun I => Res.ok I st) (fun I _ g' H' => ∀ J, ItOk B.R B.ex g' I J → R J H') := p
  refine ⟨g, ρ, st, er, p'.bind.imp fun v st1 g1 H1 e1 s1 p1 x rx => ?_⟩
  obtain ⟨d, q1, p1⟩ := p1.pick
  obtain ⟨I, q2, p1⟩ := p1.pick
  have r := e1.rd rx q1
  rw [C.K]
  cases d <;> first
    | cases q2
    | skip
  · obtain rfl := r.str
    exact .inr (.inr ⟨_, rfl, p1.ok e1 _ (.str _)⟩)
  · cases r.tupRep with
    | tup s k => exact .inr (.inl ⟨_, rfl, ⟨_, e1.le.sqT s⟩, p1.ok e1 _ (.tup (.tup s k))⟩)
  · obtain ⟨a, xs, rfl, s, k⟩ := r.asL e1.le
    exact .inl ⟨a, rfl, ⟨_, s⟩, p1.ok e1 _ (.lst rx)⟩
end

/-! ### targets -/
def tgG (K : PySem.W.Frag) : Tg → TG
  | .nm i => gName i
  | .tp is => gTup K is.length (is.foldr (fun i t => gCons (gName i) t) gNil)
theorem SlotR.putV {R : RC} {E : ExH} {g : Gh} {σ : L2.St} {ρ : Slots} {x : V} {v : Val} (hs : ∀ (i : Nat) (o : Option V) (w : Option Val), σ[i]? = some o → ρ[i]? = some w → SlotR R E g o w) (r : ValR R E g.F g.A x v) (j : Nat) :
    ∀ (i : Nat) (o : Option V) (w : Option Val), (σ.set j (some x))[i]? = some o → (ρ.set j (some v))[i]? = some w → SlotR R E g o w := by
  intro i o w e1 e2
  rcases setAt e1 with ⟨n1, q1⟩ | ⟨n1, q1⟩
  · rcases setAt e2 with ⟨_, q2⟩ | ⟨n2, _⟩
    · exact hs i o w q1 q2
    · exact absurd n2 n1
  · rcases setAt e2 with ⟨n2, _⟩ | ⟨_, q2⟩
    · exact absurd n1 n2
    · rw [← q1, ← q2]; exact ⟨x, rfl, r⟩
theorem ER.slot {B : Bs} {g : Gh} {H : Hp} {σ : L2.St} {ρ : Slots} {st : Store} (e : ER B g H σ ρ st) {σ' : L2.St} {ρ' : Slots} (hl : σ'.length = ρ'.length) (hs : ∀ (i : Nat) (o : Option V) (w : Option Val), σ'[i]? = some o → ρ'[i]? = some w → SlotR B.R B.ex g o w) : ER B g H σ' ρ' st :=
  ⟨e.same0, e.le, e.fresh, e.keep, e.lkd, e.len, e.nodup, e.io, e.iolive, e.own, e.there, e.conts, hl, hs⟩
theorem ER.setV {B : Bs} {g : Gh} {H : Hp} {σ : L2.St} {ρ : Slots} {st : Store} (e : ER B g H σ ρ st) {x : V} {v : Val} (r : ValR B.R B.ex g.F g.A x v) (j : Nat) : ER B g H (σ.set j (some x)) (ρ.set j (some v)) st :=
  e.slot (by rw [List.length_set, List.length_set]; exact e.slen) (SlotR.putV e.slots r j)
theorem wipe_set {σ : L2.St} {i : Nat} {o : Option V} : ∀ {vs : List Nat}, i ∈ vs → wipe (σ.set i o) vs = wipe σ vs
  | v :: vs, h => by
    show (wipe (σ.set i o) vs).set v none = (wipe σ vs).set v none
    by_cases hm : i ∈ vs
    · rw [wipe_set hm]
    · rcases List.mem_cons.mp h with e | h
      · subst e
        have key : ∀ {vs : List Nat}, i ∉ vs → wipe (σ.set i o) vs = (wipe σ vs).set i o := fun {vs} => by
          induction vs with
          | nil => intro _; rfl
          | cons v vs ih =>
            intro h
            have h1 : i ≠ v := fun z => h (by rw [z]; exact List.mem_cons_self)
            show (wipe (σ.set i o) vs).set v none = ((wipe σ vs).set v none).set i o
            rw [ih fun z => h (List.mem_cons_of_mem _ z), List.set_comm _ _ h1]
        rw [key hm, List.set_set]
      · exact absurd h hm
theorem tg_all {B : Bs} {g : Gh} {H : Hp} {st : Store} {Q : L2.St → Hp → Prop} : ∀ {is : List Nat} {ds : List D} {xs : List V} {σ : L2.St} {ρ ρ' : Slots}, ER B g H σ ρ st → RepL B.R g.F xs ds → setAll is ds ρ = some ρ' →
    (∀ σ', ER B g H σ' ρ' st → (∀ vs : List Nat, (∀ i ∈ is, i ∈ vs) → wipe σ' vs = wipe σ vs) → Q σ' H) → (is.foldr (fun i t => gCons (gName i) t) gNil) xs σ H Q
  | [], [], _, σ, ρ, ρ', e, .nil, h, hQ => by cases h; exact ⟨rfl, hQ σ e fun _ _ => rfl⟩
  | [], _ :: _, _, σ, ρ, ρ', e, _, h, hQ => by cases h
  | _ :: _, [], _, σ, ρ, ρ', e, _, h, hQ => by cases h
  | i :: is, d :: ds, _, σ, ρ, ρ', e, .cons (v := x) (vs := xs) r l, h, hQ => ⟨x, xs, rfl, tg_all (e.setV (v := .fz d) r i) l h fun σ' e' hw => hQ σ' e' fun vs hv => (hw vs fun j hj => hv j (List.mem_cons_of_mem _ hj)).trans (wipe_set (hv i List.mem_cons_self))⟩
theorem tg_ok {B : Bs} {g : Gh} {H : Hp} {σ : L2.St} {ρ ρ' : Slots} {st : Store} (e : ER B g H σ ρ st) {t : Tg} {x : V} {v : Val} (r : ValR B.R B.ex g.F g.A x v) (h : asgT t v ρ st = some ρ') {Q : L2.St → Hp → Prop} (hQ : ∀ σ', ER B g H σ' ρ' st → (∀ vs : List Nat, tgIn vs t = true → wipe σ' vs = wipe σ vs) → Q σ' H) : tgG B.R.K t x σ H Q := by
  cases t with
  | nm i =>
    cases h
    exact hQ _ (e.setV r i) fun vs hv => wipe_set (List.contains_iff_mem.mp hv)
  | tp is =>
    cases v with
    | loc n => cases h
    | exn y => cases h
    | fz d =>
      cases d <;> first
        | cases h
        | skip
      rename_i ds
      have h' : setAll is ds ρ = some ρ' := h
      have hlen : ∀ {is : List Nat} {ds : List D} {ρ ρ' : Slots}, setAll is ds ρ = some ρ' → ds.length = is.length := fun {is ds ρ ρ'} => by
        induction is generalizing ds ρ with
        | nil => intro h; cases ds with
          | nil => rfl
          | cons _ _ => cases h
        | cons i is ih => intro h; cases ds with
          | nil => cases h
          | cons d ds => exact congrArg Nat.succ (ih h)
      cases (show Rep B.R g.F x (.tup ds) from r) with
      | tup s k => exact ⟨_, _, rfl, e.le.sqT s, by rw [k.length]; exact hlen h', tg_all e k h' fun σ' e' hw => hQ σ' e' fun vs hv => hw vs fun i hi => List.contains_iff_mem.mp (List.all_eq_true.mp (show is.all vs.contains = true from hv) i hi)⟩
section
variable {X : Cx}
theorem nmB_ok {T : Tab} {sc : Scope} {i : Nat} {e : Expr} (hN : X.N = T.N) (nd : T.N.Nodup) (hsc : ScR sc X.env.scope) (hfn : ∀ x, sc.names.lookup x = some .cell → X.fn x = true) (h : nmB T sc i e = true) : PG X e (gName i) ∧ ∃ x pos, e = .Name x pos := by
  cases e <;> first
    | exact Bool.noConfusion (show false = true from h)
    | skip
  rename_i x pos
  obtain ⟨h1, h2⟩ := b2 h
  rcases Bool.or_eq_true_iff.mp h2 with h2 | h2
  · have hl : X.env.scope.names.lookup x = some .local := locB_ok hsc h2
    exact ⟨pg_name (by rw [hN]; exact nd) (by rw [hN]; exact of_decide_eq_true h1) (.inl hl) (.inr hl), x, pos, rfl⟩
  · have hl := celB_ok h2
    exact ⟨pg_name (by rw [hN]; exact nd) (by rw [hN]; exact of_decide_eq_true h1) (.inr (hsc.cl x hl)) (.inl (hfn x hl)), x, pos, rfl⟩
theorem tgB_ok {T : Tab} {sc : Scope} {t : Tg} {e : Expr} (hN : X.N = T.N) (nd : T.N.Nodup) (hsc : ScR sc X.env.scope) (hfn : ∀ x, sc.names.lookup x = some .cell → X.fn x = true) (hc : X.calm = true) (h : tgB T sc t e = true) : PG X e (tgG X.K t) := by
  cases t with
  | nm i => exact (nmB_ok hN nd hsc hfn (show nmB T sc i e = true by cases e <;> exact h)).1
  | tp is =>
    cases e <;> first
      | exact Bool.noConfusion (show false = true from h)
      | skip
    rename_i es k pos
    obtain ⟨h1, h2⟩ := b2 h
    have hl : is.length = es.length := of_decide_eq_true h1
    have key : ∀ {is : List Nat} {es : List Expr}, is.length = es.length → ((is.zip es).all fun p => nmB T sc p.1 p.2) = true →
        PGs X es (is.foldr (fun i t => gCons (gName i) t) gNil) ∧ (assignEach es X.env).length = es.length ∧ (assignEach es X.env).findIdx? (·.1) = none := by
      intro is
      induction is with
      | nil =>
        intro es hl _
        cases es with
        | nil => exact ⟨pgs_nil, rfl, rfl⟩
        | cons _ _ => cases hl
      | cons i is ih =>
        intro es hl h
        cases es with
        | nil => cases hl
        | cons e es =>
          obtain ⟨h3, h4⟩ := b2 (show (nmB T sc i e && (is.zip es).all fun p => nmB T sc p.1 p.2) = true from h)
          obtain ⟨p1, p2, p3⟩ := ih (Nat.succ.inj hl) h4
          obtain ⟨pg, x, pos, rfl⟩ := nmB_ok hN nd hsc hfn h3
          refine ⟨pgs_cons pg p1 rfl, ?_, ?_⟩
          · show (assignEach es X.env).length + 1 = es.length + 1
            rw [p2]
          · show ((false, _) :: assignEach es X.env).findIdx? (·.1) = none
            rw [List.findIdx?_cons]
            simp [p3]
    obtain ⟨p1, p2, p3⟩ := key hl h2
    exact pg_tup hc p1 (by rw [p2, hl]) p3
end
end PD

/-! PD13 -/
set_option Elab.async false
set_option linter.all false
set_option maxRecDepth 100000
set_option maxHeartbeats 4000000
/-! PD: list comprehensions, and all expressions. -/
namespace PD
open PySem PySem.Spec PyProof.Rows L2
section
variable {B : Bs} {W : WX} {g g1 : Gh} {H H1 : Hp} {σ : L2.St} {ρ : Slots} {st : Store}
theorem Step.away (s : Step g H g1 H1) {p : Addr} {o : HO} (h : H p = some o) (hA : p ∉ g.A) (hF : g.F p = none) : H1 p = some o ∧ p ∉ g1.A ∧ g1.F p = none := by
  refine ⟨s.frame p o h hA, fun z => ?_, ?_⟩
  · rcases s.freshA p z with q | q
    · exact hA q
    · rw [h] at q; cases q
  · cases q : g1.F p with
    | none => rfl
    | some u =>
      rcases s.freshF p (by rw [q]; intro z; cases z) with z | z | z
      · exact absurd hF z
      · rw [h] at z; cases z
      · exact absurd z hA
/-- a cell that is none of ours changes -/
theorem ER.other (r : ER B g H σ ρ st) {p : Addr} {o : HO} (hA : p ∉ g.A) (hF : g.F p = none) (h0 : B.H0 p = none) (hl : p ∉ B.lk) : ER B g (upd H p o) σ ρ st where
  same0 := r.same0
  le := fun a u e => by
    have ha : a ≠ p := fun z => by rw [z, hF] at e; cases e
    rw [upd_ne ha]; exact r.le a u e
  fresh := r.fresh
  keep := fun b u e h1 h2 => by
    have hb : b ≠ p := fun z => by rw [z, h0] at e; cases e
    rw [upd_ne hb]; exact r.keep b u e h1 h2
  lkd := fun b hb => by
    obtain ⟨h1, ob, u, h2, h3⟩ := r.lkd b hb
    have hne : b ≠ p := fun z => hl (by rw [← z]; exact hb)
    exact ⟨h1, ob, u, by rw [upd_ne hne]; exact h2, h3⟩
  len := r.len
  nodup := r.nodup
  io := r.io
  iolive := r.iolive
  own := r.own
  there := fun i a e => by
    have ha : a ≠ p := fun z => hA (by rw [← z]; exact List.mem_of_getElem? e)
    rw [upd_ne ha]; exact r.there i a e
  conts := fun i a c e1 e2 => by
    have ha : a ≠ p := fun z => hA (by rw [← z]; exact List.mem_of_getElem? e1)
    exact (r.conts i a c e1 e2).F (Same.refl _) (fun hc => (r.conts i a c e1 e2).out hc) (fun _ => upd_ne ha)
  slen := r.slen
  slots := r.slots
theorem Step.other (s : Step g H g1 H1) {p : Addr} {o : HO} (h : H p = none) : Step g H g1 (upd H1 p o) :=
  ⟨s.le, fun b u e hb => by
    have : b ≠ p := fun z => by rw [z, h] at e; cases e
    rw [upd_ne this]; exact s.frame b u e hb, s.freshF, s.freshA⟩

theorem SlotR.wiped {R : RC} {E : ExH} (hs : ∀ (i : Nat) (o : Option V) (w : Option Val), σ[i]? = some o → ρ[i]? = some w → SlotR R E g o w) : ∀ (vs : List Nat) (i : Nat) (o : Option V) (w : Option Val), (wipe σ vs)[i]? = some o → (wipeS ρ vs)[i]? = some w → SlotR R E g o w
  | [], i, o, w, e1, e2 => hs i o w e1 e2
  | v :: vs, i, o, w, e1, e2 => by
    rcases setAt (show ((wipeS ρ vs).set v none)[i]? = some w from e2) with ⟨n, q⟩ | ⟨_, q⟩
    · rcases setAt (show ((wipe σ vs).set v none)[i]? = some o from e1) with ⟨_, q1⟩ | ⟨n1, _⟩
      · exact SlotR.wiped hs vs i o w q1 q
      · exact absurd n1 n
    · rw [← q]; trivial
theorem wipeS_length : ∀ vs : List Nat, (wipeS ρ vs).length = ρ.length
  | [] => rfl
  | v :: vs => by
    show ((wipeS ρ vs).set v none).length = _
    rw [List.length_set, wipeS_length vs]
theorem wipe_wipe : ∀ (vs : List Nat), wipe (wipe σ vs) vs = wipe σ vs := by
  have key : ∀ (ws vs : List Nat), (∀ v ∈ vs, v ∈ ws) → wipe (wipe σ vs) ws = wipe σ ws := fun ws vs => by
    induction vs with
    | nil => intro _; rfl
    | cons v vs ih =>
      intro h
      show wipe ((wipe σ vs).set v none) ws = _
      rw [wipe_set (h v List.mem_cons_self), ih fun u hu => h u (List.mem_cons_of_mem _ hu)]
  exact fun vs => key vs vs fun _ h => h
theorem Res.nox_ok {α β : Type} {r : Res α} {f : α → Store → Res β} (h : r.nox.bind f ≠ .stuck) : ∃ a st1, r = .ok a st1 ∧ r.nox.bind f = f a st1 := by
  cases r with
  | ok a st1 => exact ⟨a, st1, rfl, rfl⟩
  | exc x st1 => exact absurd rfl h
  | stuck => exact absurd rfl h
theorem pst_stuck {α : Type} {r : Res α} {k : α → Store → Gh → Hp → Prop} (p : Pst B W g H σ ρ r k) : r ≠ .stuck := fun z => by rw [z] at p; exact p
theorem bind_stuck {α β : Type} {r : Res α} {f : α → Store → Res β} (h : r.bind f ≠ .stuck) : r ≠ .stuck := fun z => h (by rw [z] <;> rfl)
end
theorem fold_ok {e : Expr} {env : Env} (h : plainE e = true) : ∀ x, foldedSetIterable e env x = pure x := by
  intro x
  cases e <;> first
    | rfl
    | exact Bool.noConfusion (show false = true from h)
theorem pts_of {X : Cx} {es : List Expr} {t t' : TT} (h : PTs X es t) (i : ∀ σ H Q, t' σ H Q → t σ H Q) : PTs X es t' := ⟨fun pins s σ H Q I q => h.run pins s σ H Q I (i σ H Q q)⟩
section
variable {T : Tab} {G : Gam}
theorem relabel_ok {env : Env} {scope : Scope} : ScR scope (relabel scope env) := by
  have key : ∀ (names : List (Str × NameKind)) (x : Str), (names.map fun (n, k) => if (k == NameKind.free && env.scope.kind == .function && env.kindOf n == some .cell) then (n, NameKind.cell) else (n, k)).lookup x =
      (match names.lookup x with
        | some k => some (if (k == NameKind.free && env.scope.kind == .function && env.kindOf x == some .cell) then .cell else k)
        | none => none) := fun names x => by
    induction names with
    | nil => rfl
    | cons p r ih =>
      obtain ⟨n, k⟩ := p
      rw [List.map_cons]
      by_cases hx : (x == n) = true
      · have e : x = n := eq_of_beq hx
        subst e
        have e1 : List.lookup x ((x, k) :: r) = some k := by simp [List.lookup]
        rw [e1]
        by_cases hc : (k == NameKind.free && env.scope.kind == .function && env.kindOf x == some .cell) = true
        · simp only [hc, if_true]
          simp [List.lookup]
        · simp only [hc]
          simp [List.lookup]
      · have hx' : (x == n) = false := by simpa using hx
        have e1 : List.lookup x ((n, k) :: r) = List.lookup x r := by simp [List.lookup, hx']
        rw [e1, ← ih]
        by_cases hc : (k == NameKind.free && env.scope.kind == .function && env.kindOf n == some .cell) = true
        · simp only [hc, if_true]
          simp [List.lookup, hx']
        · simp only [hc]
          simp [List.lookup, hx']
  have key' : ∀ x, (relabel scope env).names.lookup x = (match scope.names.lookup x with
        | some k => some (if (k == NameKind.free && env.scope.kind == .function && env.kindOf x == some .cell) then .cell else k)
        | none => none) := fun x => key scope.names x
  refine ⟨fun x h => by rw [key', h]; rfl, fun x h => ?_, fun x h => ?_, fun x h => ?_⟩
  · rw [key', h]; rfl
  · rcases h with h | h
    · rw [key', h]; exact .inl rfl
    · rw [key', h]
      by_cases hc : (NameKind.free == NameKind.free && env.scope.kind == .function && env.kindOf x == some .cell) = true
      · exact .inl (by simp only [hc, if_true])
      · exact .inr (by simp only [hc]; rfl)
  · rw [key', h]; rfl
theorem blk_re {N : List Str} {sc sc' scope : Scope} {own : List (Str × Nat)} (r : ScR sc sc') (h : BlkOk N sc scope own) : BlkOk N sc' scope own :=
  ⟨h.kind, h.uniq, h.ix, fun y hy e => r.cf _ (h.free y hy e), h.own⟩
theorem Cxt.blk {sc scope : Scope} {calm : Bool} {B : Bs} {X : Cx} {W : WX} (C : Cxt T sc calm G B X W) (hc : calm = true) (s : Shared) (H : Hp) (D : Addr) (cl : List (Str × Addr)) (fp : List Addr) : Cxt T scope calm G B (X.blk s H scope (compEnvC scope cl D X.env) fp) (fun _ _ _ _ => False) :=
  ⟨C.K, C.mg, C.N, (fun x h => by show (scope.names.lookup x == some NameKind.cell) = true; rw [h]; rfl), relabel_ok, C.nd, (fun h => by rw [hc] at h; cases h), C.calm, C.units, takes0, C.io, C.con, C.fns, C.free, C.exn, C.exm, C.xf, C.gcd, C.exv⟩
theorem lc_read {own : List Nat} {tg : Tg} {it : It} {c elt : Ex} {sc : Scope} {calm : Bool} {B : Bs} {X : Cx} {W : WX} (C : Cxt T sc calm G B X W) (k4 : tgIn own tg = true) {σ : L2.St} {H : Hp} {Q : VK} (h : tE B W (ev G (.lc own tg it c elt)) σ H Q) :
    tLc (tI B W (evI G it)) (tgG X.K tg) (tT B (fun _ _ _ _ => False) (ev G c)) (tE B (fun _ _ _ _ => False) (ev G elt)) own σ H Q := by
  obtain ⟨g, ρ, st, er, p⟩ := h
  have p' : Pst B W g H σ ρ ((evI G it ρ st).bind fun I st => pick (I.size st) fun n => if n ≤ LIM then
      (lcLoop I (fun d st => pick (asgT tg (.fz d) (wipeS ρ own) st) fun ρ' => (ev G c ρ' st).nox.bind fun b st => lcTurn b ((ev G elt ρ' st).nox.bind fun v st => lcPut G.io v st) (.ok [] st)) n 0 [] st).bind lcEnd else .stuck) (kV B Q) := p
  refine ⟨g, ρ, st, er, p'.bind.imp fun I st1 g1 H1 e1 s1 p1 J hJ => ?_⟩
  obtain ⟨n, hn, p1⟩ := p1.pick
  obtain ⟨hz, p1⟩ := pst_if p1
  intro a ha
  obtain ⟨f1, f2, f3, f4⟩ := e1.fresh0 ha
  generalize hbody : (fun d st => pick (asgT tg (.fz d) (wipeS ρ own) st) fun ρ' => (ev G c ρ' st).nox.bind fun b st => lcTurn b ((ev G elt ρ' st).nox.bind fun v st => lcPut G.io v st) (.ok [] st)) = body at p1
  refine ⟨fun i m H => ∃ g2 st2 acc xs, ER B g2 H σ ρ st2 ∧ Step g1 H1 g2 H ∧ H a = some (.lst xs) ∧ RepL B.R g2.F xs acc ∧ g2.F a = none ∧ a ∉ g2.A ∧ i ≤ n ∧ m = n - i ∧ acc.length ≤ i ∧ Pst B W g1 H1 σ ρ ((lcLoop I body (n - i) i acc st2).bind lcEnd) (kV B Q),
    ⟨n, g1, st1, [], [], e1.other f2 f1 f3 f4, (Step.refl g1 H1).other ha, upd_same, .nil, f1, f2, Nat.zero_le _, rfl, Nat.le_refl _, p1⟩, ?_⟩
  rintro i m H2 ⟨g2, st2, acc, xs, e2, s2, ha2, k2', f5, f6, hin, rfl, hacc, p2⟩
  by_cases hlt : i < n
  · obtain ⟨k, hk⟩ : ∃ k, n - i = k + 1 := ⟨n - i - 1, by omega⟩
    rw [hk] at p2
    have p3 : Pst B W g1 H1 σ ρ ((if I.size st2 = some (i + (k + 1)) then pick (I.at st2 i) fun d => (body d st2).bind fun ds st' => lcLoop I body k (i + 1) (acc ++ ds) st' else .stuck).bind lcEnd) (kV B Q) := p2
    by_cases hsz : I.size st2 = some (i + (k + 1))
    · rw [if_pos hsz] at p3
      cases hd : I.at st2 i with
      | none => rw [hd] at p3; exact p3.elim
      | some d =>
        rw [hd] at p3
        have p4 : Pst B W g1 H1 σ ρ (((body d st2).bind fun ds st' => lcLoop I body k (i + 1) (acc ++ ds) st').bind lcEnd) (kV B Q) := p3
        obtain ⟨go, yl⟩ := it_go e2 (hJ.up s2.le) hsz (by omega) hd
        refine .inr ⟨go, fun H' => ∃ g2 st2 acc xs, ER B g2 H' σ ρ st2 ∧ Step g1 H1 g2 H' ∧ H' a = some (.lst xs) ∧ RepL B.R g2.F xs acc ∧ g2.F a = none ∧ a ∉ g2.A ∧ i + 1 ≤ n ∧ acc.length ≤ i + 1 ∧ Pst B W g1 H1 σ ρ ((lcLoop I body (n - (i + 1)) (i + 1) acc st2).bind lcEnd) (kV B Q),
          fun H' ⟨g2, st2, acc, xs, z1, z2, z3, z4, z5, z6, z7, z8, z9⟩ => ⟨n - (i + 1), by omega, g2, st2, acc, xs, z1, z2, z3, z4, z5, z6, z7, rfl, z8, z9⟩, fun x H' y => ?_⟩
        obtain ⟨rfl, rx⟩ := yl x H' y
        have hk' : n - (i + 1) = k := by omega
        have body1 : body d st2 = pick (asgT tg (.fz d) (wipeS ρ own) st2) fun ρ' => (ev G c ρ' st2).nox.bind fun b st => lcTurn b ((ev G elt ρ' st).nox.bind fun v st => lcPut G.io v st) (.ok [] st) := by rw [← hbody]
        have nst : body d st2 ≠ .stuck := bind_stuck (bind_stuck (pst_stuck p4))
        rw [body1] at nst
        cases hasg : asgT tg (.fz d) (wipeS ρ own) st2 with
        | none => rw [hasg] at nst; exact absurd rfl nst
        | some ρ' =>
          rw [hasg] at nst body1
          have ew : ER B g2 H' (wipe σ own) (wipeS ρ own) st2 := e2.slot (by rw [wipe_length, wipeS_length]; exact e2.slen) (SlotR.wiped e2.slots own)
          rw [C.K]
          refine tg_ok ew (v := .fz d) rx hasg fun σ2 e3 hw => ⟨?_, ?_⟩
          · rw [hw own k4, wipe_wipe]
          -- the test
          obtain ⟨b, st3, q1, q2⟩ := Res.nox_ok (show (ev G c ρ' st2).nox.bind (fun b st => lcTurn b ((ev G elt ρ' st).nox.bind fun v st => lcPut G.io v st) (.ok [] st)) ≠ .stuck from nst)
          have body2 : body d st2 = lcTurn b ((ev G elt ρ' st3).nox.bind fun v st => lcPut G.io v st) (.ok [] st3) := body1.trans q2
          refine ⟨g2, ρ', st2, e3, ?_⟩
          rw [q1]
          intro g3 H3 e4 s4
          -- back to the comprehension's own state
          have back : ∀ {g4 : Gh} {H4 : Hp} {st4 : Store}, ER B g4 H4 σ2 ρ' st4 → g2.le g4 → ER B g4 H4 σ ρ st4 := fun {g4 H4 st4} e l => e.slot e2.slen fun i o w h1 h2 => (e2.slots i o w h1 h2).up l
          obtain ⟨a1, a2, a3⟩ := s4.away ha2 f6 f5
          have nst2 : body d st2 ≠ .stuck := bind_stuck (bind_stuck (pst_stuck p4))
          rw [body2] at nst2 p4
          have nb : b = .fz (.bl true) ∨ b = .fz (.bl false) := by
            cases b with
            | loc _ => exact absurd rfl nst2
            | exn _ => exact absurd rfl nst2
            | fz d' => cases d' with
              | bl v => cases v <;> simp
              | _ => exact absurd rfl nst2
          rcases nb with rfl | rfl
          · refine ⟨true, rfl, iteT ?_⟩
            obtain ⟨v, st4, q3, q4⟩ := Res.nox_ok (show (ev G elt ρ' st3).nox.bind (fun v st => lcPut G.io v st) ≠ .stuck from nst2)
            have p5 : Pst B W g1 H1 σ ρ (((lcPut G.io v st4).bind fun ds st' => lcLoop I body k (i + 1) (acc ++ ds) st').bind lcEnd) (kV B Q) := by
              have e : lcTurn (.fz (.bl true)) ((ev G elt ρ' st3).nox.bind fun v st => lcPut G.io v st) (.ok [] st3) = lcPut G.io v st4 := q4
              rw [e] at p4
              exact p4
            refine ⟨g3, ρ', st3, e4, ?_⟩
            rw [q3]
            intro g4 H4 e5 s5 y ry
            obtain ⟨b1, b2', b3⟩ := s5.away a1 a2 a3
            have nst3 : lcPut G.io v st4 ≠ .stuck := bind_stuck (bind_stuck (pst_stuck p5))
            cases q5 : fr G.io v st4 with
            | stuck => exact absurd (show lcPut G.io v st4 = .stuck by unfold lcPut; rw [q5] <;> rfl) nst3
            | exc z1 z2 => exact (fr_no_exc q5).elim
            | ok d' st5 =>
              have ep : lcPut G.io v st4 = .ok [d'] st5 := by unfold lcPut; rw [q5] <;> rfl
              rw [ep] at p5
              obtain ⟨F5, e6, s6, r6⟩ := e5.fr ry (by rw [← C.io]; exact q5)
              obtain ⟨c1, c2, c3⟩ := s6.away b1 b2' b3
              have S : Step g2 H' ⟨F5, g4.A⟩ H4 := (s4.trans s5).trans s6
              refine ⟨xs, b1, ?_, ⟨F5, g4.A⟩, st5, acc ++ [d'], xs ++ [y], (back e6 S.le).other c2 c3 f3 f4, (s2.trans S).other ha, upd_same, (k2'.mono S.le.F).append (.cons r6 .nil), c3, c2, by omega, by rw [List.length_append]; simp only [List.length_cons, List.length_nil]; omega, ?_⟩
              · rw [k2'.length, ← lim_eq]; omega
              · rw [hk']; exact p5
          · refine ⟨false, rfl, iteF ?_⟩
            have p5 : Pst B W g1 H1 σ ρ (((Res.ok ([] : List D) st3).bind fun ds st' => lcLoop I body k (i + 1) (acc ++ ds) st').bind lcEnd) (kV B Q) := p4
            have p6 : Pst B W g1 H1 σ ρ ((lcLoop I body k (i + 1) (acc ++ []) st3).bind lcEnd) (kV B Q) := p5
            rw [List.append_nil] at p6
            exact ⟨g3, st3, acc, xs, back e4 s4.le, s2.trans s4, a1, k2'.mono s4.le.F, a3, a2, by omega, by omega, by rw [hk']; exact p6⟩
    · rw [if_neg hsz] at p3; exact p3.elim
  · have hin' : i = n := by omega
    subst hin'
    rw [Nat.sub_self] at p2
    have p3 : Pst B W g1 H1 σ ρ ((if I.size st2 = some i then Res.ok acc st2 else .stuck).bind lcEnd) (kV B Q) := p2
    by_cases hsz : I.size st2 = some i
    · rw [if_pos hsz] at p3
      have p4 : Pst B W g1 H1 σ ρ (.ok (.loc st2.length) (st2 ++ [.lst acc])) (kV B Q) := p3
      refine .inl ⟨it_stop e2 (hJ.up s2.le) hsz, ?_⟩
      refine p4 ⟨g2.F, g2.A ++ [a]⟩ H2 (e2.adopt ha2 k2' f6 f5 f3) ⟨⟨s2.le.F, s2.le.A.trans (List.prefix_append _ _)⟩, s2.frame, s2.freshF, fun b hb => ?_⟩ (.ref a) ⟨a, ?_, rfl⟩
      · rcases List.mem_append.mp hb with q | q
        · exact s2.freshA b q
        · have : b = a := by simpa using q
          exact .inr (by rw [this]; exact ha)
      · rw [← e2.len]; simp
    · rw [if_neg hsz] at p3; exact p3.elim
/-- the parts of a list comprehension -/
theorem lc_parts {own : List Nat} {tg : Tg} {it : It} {c elt : Ex} (hi : OKi T G it) (hc : OK T G c) (he : OK T G elt) {sc scope : Scope} {calm : Bool} {B : Bs} {X : Cx} {W : WX} (C : Cxt T sc calm G B X W) {eelt etg eit : Expr} {ifs : List Expr}
    (k1 : calm = true) (k2 : ownB T sc scope own = true) (k3 : tgB T scope tg etg = true) (k5 : chkI T sc calm it eit = true) (k6 : (ifs = [] ∧ c = .lit (.bl true)) ∨ ∃ ec, ifs = [ec] ∧ chk T scope calm c true ec = true) (k7 : chk T scope calm elt false eelt = true) :
    X.calm = true ∧ X.N.Nodup ∧ PI X etg eit (tI B W (evI G it)) ∧ plainE eit = true ∧ BlkOk X.N X.env.scope scope (own.map fun i => ((T.N.getD i Str.empty), i)) ∧ (own.map fun i => ((T.N.getD i Str.empty), i)).map (·.2) = own ∧
    (∀ (s : Shared) (H : Hp) (D : Addr) (cl : List (Str × Addr)) (fp : List Addr), PG (X.blk s H scope (compEnvC scope cl D X.env) fp) etg (tgG X.K tg)) ∧
    (∀ (s : Shared) (H : Hp) (D : Addr) (cl : List (Str × Addr)) (fp : List Addr), PTs (X.blk s H scope (compEnvC scope cl D X.env) fp) ifs (tT B (fun _ _ _ _ => False) (ev G c))) ∧
    (∀ (s : Shared) (H : Hp) (D : Addr) (cl : List (Str × Addr)) (fp : List Addr), PE (X.blk s H scope (compEnvC scope cl D X.env) fp) eelt (tE B (fun _ _ _ _ => False) (ev G elt))) := by
  obtain ⟨cm, room⟩ := C.calm k1
  obtain ⟨hI, pl⟩ := hi C etg eit k5
  have blk : BlkOk X.N X.env.scope scope (own.map fun i => ((T.N.getD i Str.empty), i)) := by
    rw [C.N]; exact blk_re C.sc (blkOk_by k2)
  have vs : (own.map fun i => ((T.N.getD i Str.empty), i)).map (·.2) = own := by
    rw [List.map_map]
    exact (List.map_congr_left fun i _ => rfl).trans (List.map_id own)
  have pg : ∀ (s : Shared) (H : Hp) (D : Addr) (cl : List (Str × Addr)) (fp : List Addr), PG (X.blk s H scope (compEnvC scope cl D X.env) fp) etg (tgG X.K tg) := fun s H D cl fp =>
    tgB_ok (X := X.blk s H scope (compEnvC scope cl D X.env) fp) C.N C.nd relabel_ok (fun x h => by show (scope.names.lookup x == some NameKind.cell) = true; rw [h]; rfl) cm k3
  have pt : ∀ (s : Shared) (H : Hp) (D : Addr) (cl : List (Str × Addr)) (fp : List Addr), PTs (X.blk s H scope (compEnvC scope cl D X.env) fp) ifs (tT B (fun _ _ _ _ => False) (ev G c)) := fun s H D cl fp => by
    rcases k6 with ⟨rfl, rfl⟩ | ⟨ec, rfl, k6⟩
    · refine pts_of pts_nil fun σ H Q ⟨g, ρ, st, er, p⟩ => ?_
      obtain ⟨b, hb, q⟩ := Pst.ok (show Pst B _ g H σ ρ (.ok (Val.fz (PD.D.bl true)) st) (fun v _ _ H' => ∃ b, v = Val.fz (PD.D.bl b) ∧ Q b H') from p) er
      cases hb
      exact q
    · exact pts_one ((hc (C.blk k1 s H D cl fp) ec).2 k6).1
  exact ⟨cm, by rw [C.N]; exact C.nd, hI, pl, blk, vs, pg, pt, fun s H D cl fp => (he (C.blk k1 s H D cl fp) eelt).1 k7⟩
theorem ok_lc (own : List Nat) (tg : Tg) {it : It} {c elt : Ex} (hi : OKi T G it) (hc : OK T G c) (he : OK T G elt) : OK T G (.lc own tg it c elt) := ok_val fun {sc calm B X W} C m e h => by
  obtain ⟨eelt, etg, eit, ifs, scope, pos, rfl, hm, k1, k2, k3, k4, k5, k6, k7⟩ := chk_lc h
  obtain ⟨cm, nd, hI, pl, blk, vs, pg, pt, pe⟩ := lc_parts hi hc he C k1 k2 k3 k5 k6 k7
  refine ⟨hm, pe_of (pe_lc cm nd hI blk pg pt pe (fold_ok pl)) fun σ H Q q => ?_⟩
  rw [vs]
  exact lc_read C k4 q
mutual
theorem ev_ok : ∀ c : Ex, OK T G c
  | .var i => ok_var i
  | .lit d => ok_lit d
  | .glo j => ok_glo j
  | .none_ => fun C e => ⟨fun h => absurd h (chk_false True.intro), fun h => absurd h (chk_false True.intro)⟩
  | .bin o a b => ok_bin o (ev_ok a) (ev_ok b)
  | .cmp o a b => ok_cmp o (ev_ok a) (ev_ok b)
  | .chain o o' a b c => ok_chain o o' (ev_ok a) (ev_ok b) (ev_ok c)
  | .neg a => ok_neg (ev_ok a)
  | .not_ a => ok_not (ev_ok a)
  | .and_ a b => ok_and (ev_ok a) (ev_ok b)
  | .or_ a b => ok_or (ev_ok a) (ev_ok b)
  | .ife c a b => ok_ife (ev_ok c) (ev_ok a) (ev_ok b)
  | .tru a => ok_tru (ev_ok a)
  | .tup es => ok_tup (evs_ok es)
  | .lst es => ok_lst (evs_ok es)
  | .idx a i => ok_idx (ev_ok a) (ev_ok i)
  | .slc a lo hi => ok_slc (ev_ok a) (ev_ok lo) (ev_ok hi)
  | .call j es => ok_call j (evs_ok es)
  | .bfn f es => ok_bfn f (evs_ok es)
  | .mth .bitlen a es => ok_bitlen (ev_ok a)
  | .isi a ts tp => ok_isi (ev_ok a) ts tp
  | .isx i ts tp => ok_isx i ts tp
  | .xfld i f => ok_xfld i f
  | .isv i n => ok_isv i n
  | .pop i => fun C e => ⟨fun h => absurd h (chk_false True.intro), fun h => absurd h (chk_false True.intro)⟩
  | .lc own tg it c elt => ok_lc own tg (evI_ok it) (ev_ok c) (ev_ok elt)
theorem evs_ok : ∀ es : Exs, OKs T G es
  | .nil => ok_nil
  | .cons a as => ok_cons (ev_ok a) (evs_ok as)
theorem evI_ok : ∀ it : It, OKi T G it
  | .rng1 a => ok_rng1 (ev_ok a)
  | .rng2 a b => ok_rng2 (ev_ok a) (ev_ok b)
  | .seq a => ok_seq (ev_ok a)
end
end
end PD

/-! PD14 -/
set_option Elab.async false
set_option linter.all false
set_option maxRecDepth 100000
set_option maxHeartbeats 4000000
/-! PD: statements. -/
namespace PD
open PySem PySem.Spec PyProof.Rows L2

/-! ### the check -/
def notComp : Expr → Bool
  | .ListComp _ _ _ _ => false
  | .SetComp _ _ _ _ => false
  | .DictComp _ _ _ _ _ => false
  | _ => true
def notTup : Expr → Bool
  | .Tuple _ _ _ => false
  | _ => true
def isTupE : Expr → Bool
  | .Tuple _ _ _ => true
  | _ => false
/-- name = [..] is a statement of its own where the name is a local one of the block, on the same line, and no name of the comprehension -/
def lcOwn (sc : Scope) (x : Str) (p : Pos) (e : Expr) (scope : Scope) : Bool := locB sc x && ((p.line == e.pos.line) && !(scope.names.any fun q => q.1 == x && (q.2 == .local || q.2 == .cell)))
def asB (T : Tab) (sc : Scope) : Option Nat → Option Str → Bool
  | none, none => true
  | some i, some y => decide (T.N[i]? = some y) && locB sc y
  | _, _ => false
/-- an except clause's test: a class, or a tuple of classes -/
def tstB (T : Tab) (sc : Scope) (cs : List Str) (tp : Bool) (e : Expr) : Bool := match tp, cs, e with
  | false, [c], e => clsB T sc c e
  | true, cs, .Tuple es _ _ => clssB T sc cs es && decide (cs.length ≤ 1000)
  | _, _, _ => false
mutual
def chkSt (T : Tab) (exc : List Str) (sc : Scope) (calm : Bool) : St → Stmt → Bool
  | .asg t e, .Assign [tg] v _ => (calm || (match t with
      | .nm _ => notComp v
      | _ => false)) && (tgB T sc t tg && (chk T sc calm e false v && (match t, tg, v with
      | .nm _, .Name x p, .ListComp a b scope d => lcOwn sc x p (.ListComp a b scope d) scope || celB sc x
      | .nm _, .Name _ _, v => notComp v
      | .tp _, _, v => notComp v && notTup v
      | _, _, _ => false)))
  | .six i k e, .Assign [.Subscript (.Name x _) ek _] v _ => decide (T.N[i]? = some x) && (visB sc x && (PD.seen x && (notComp v && (chk T sc calm e false v && (plainE ek && chk T sc calm k false ek)))))
  | .app i e, .Expr (.Call (.Attribute (.Name x _) m ap) [ee] [] cp) _ => decide (T.N[i]? = some x) && (visB sc x && (PD.seen x && (decide (m = "append") && ((ap.endLine == cp.line) && (plainE ee && chk T sc calm e false ee)))))
  | .exp e, .Expr v _ => notComp v && chk T sc calm e false v
  | .if_ c a b, .If ec ea eb _ => chk T sc calm c true ec && (chkSs T exc sc calm a ea && chkSs T exc sc calm b eb)
  | .whl c b, .While ec eb [] _ => calm && (chk T sc calm c true ec && chkSs T exc sc calm b eb)
  | .for_ t it b, .For tg ei eb [] _ => calm && (tgB T sc t tg && (chkI T sc calm it ei && chkSs T exc sc calm b eb))
  | .ret e, .Return (some v) _ => chk T sc calm e false v
  | .retl e, .Return (some v) _ => chk T sc calm e false v
  | .dead, _ => true
  | .retn, .Return none _ => true
  | .pass, .Pass _ => true
  | .brk, .Break _ => true
  | .cnt, .Continue _ => true
  | .rais c, .Raise (some (.Call (.Name x _) [.Constant (.str _) _ _] [] _)) none _ => calm && (decide (c = x) && (exc.contains x && (glB sc x && PD.seen x)))
  | .raisf c f e, .Raise (some (.Call (.Name x _) [ea] [] _)) none _ => calm && (decide (c = x) && (T.raf.contains (c, f) && (T.free.contains "super" && (glB sc x && (PD.seen x && (plainE ea && chk T sc calm e false ea))))))
  | .try_ b hs, .Try eb (eh :: ehs) [] [] _ => calm && (chkSs T exc sc calm b eb && chkHs T exc sc hs (eh :: ehs))
  | _, _ => false
def chkSs (T : Tab) (exc : List Str) (sc : Scope) (calm : Bool) : Sts → List Stmt → Bool
  | .nil, [] => true
  | .cons s ss, t :: ts => chkSt T exc sc calm s t && chkSs T exc sc calm ss ts
  | _, _ => false
def chkHs (T : Tab) (exc : List Str) (sc : Scope) : Hds → List ExceptHandler → Bool
  | .nil, [] => true
  | .cons cs tp as_ b hs, .ExceptHandler (some e) n (b0 :: bs) _ :: rest => tstB T sc cs tp e && (asB T sc as_ n && (chkSs T exc sc false b (b0 :: bs) && chkHs T exc sc hs rest))
  | _, _ => false
end

/-! ### what must hold behind a statement -/
def SPst (B : Bs) (W : WX) (g : Gh) (Z : Ends) : SR → Prop
  | .nx ρ st => ∀ g' H σ, g.le g' → ER B g' H σ ρ st → Z.nx σ H
  | .bk ρ st => ∀ g' H σ, g.le g' → ER B g' H σ ρ st → Z.bk σ H
  | .ct ρ st => ∀ g' H σ, g.le g' → ER B g' H σ ρ st → Z.ct σ H
  | .rt d st => ∀ g' H σ ρ x, g.le g' → ER B g' H σ ρ st → Rep B.R g'.F x d → Z.rt x H
  | .rtl ds st => ∀ g' H σ ρ a xs, g.le g' → ER B g' H σ ρ st → g'.F a = none → B.H0 a = none → H a = some (.lst xs) → RepL B.R g'.F xs ds → Z.rt (.ref a) H
  | .exc x ρ st => ∀ g' H σ cls dd, g.le g' → ER B g' H σ ρ st → XR B.R g'.F x cls dd → W cls dd σ H
  | .stuck => False
def tS (B : Bs) (W : WX) (c : Slots → Store → SR) : TS := fun Z σ H => ∃ g ρ st, ER B g H σ ρ st ∧ SPst B W g Z (c ρ st)
section
variable {B : Bs} {W : WX} {g g' : Gh} {Z : Ends}
theorem SPst.le {r : SR} (h : SPst B W g Z r) (l : g.le g') : SPst B W g' Z r := by
  cases r with
  | nx ρ st => exact fun g2 H σ l2 e => h g2 H σ (l.trans l2) e
  | bk ρ st => exact fun g2 H σ l2 e => h g2 H σ (l.trans l2) e
  | ct ρ st => exact fun g2 H σ l2 e => h g2 H σ (l.trans l2) e
  | rt d st => exact fun g2 H σ ρ x l2 e r => h g2 H σ ρ x (l.trans l2) e r
  | rtl ds st => exact fun g2 H σ ρ a xs l2 e => h g2 H σ ρ a xs (l.trans l2) e
  | exc x ρ st => exact fun g2 H σ cls dd l2 e r => h g2 H σ cls dd (l.trans l2) e r
  | stuck => exact h
theorem SPst.nx {ρ : Slots} {st : Store} {H : Hp} {σ : L2.St} (h : SPst B W g Z (.nx ρ st)) (e : ER B g H σ ρ st) : Z.nx σ H := h g H σ (Gh.le.refl g) e
theorem SPst.pick {α : Type} {o : Option α} {f : α → SR} (h : SPst B W g Z (pickS o f)) : ∃ a, o = some a ∧ SPst B W g Z (f a) := by
  cases o with
  | none => exact h.elim
  | some a => exact ⟨a, rfl, h⟩
/-- an expression, then -/
theorem SPst.ev {α : Type} {r : Res α} {ρ : Slots} {H : Hp} {σ : L2.St} {f : α → Store → SR} (h : SPst B W g Z (r.sr ρ f)) : Pst B W g H σ ρ r (fun a st1 g1 H1 => SPst B W g1 Z (f a st1)) := by
  cases r with
  | ok a st1 => exact fun g1 H1 e1 s1 => SPst.le (show SPst B W g Z (f a st1) from h) s1.le
  | exc x st1 => exact fun g1 H1 cls dd e1 s1 xr => h g1 H1 σ cls dd s1.le e1 xr
  | stuck => exact h
/-- what is handed on, then -/
theorem SPst.fr {v : Val} {ρ : Slots} {st : Store} {H : Hp} {σ : L2.St} {x : V} {f : D → Store → SR} (e : ER B g H σ ρ st) (r : ValR B.R B.ex g.F g.A x v) (h : SPst B W g Z ((fr B.io.length v st).sr ρ f)) :
    ∃ d st' F', ER B ⟨F', g.A⟩ H σ ρ st' ∧ Step g H ⟨F', g.A⟩ H ∧ Rep B.R F' x d ∧ SPst B W ⟨F', g.A⟩ Z (f d st') := by
  cases q : PD.fr B.io.length v st with
  | stuck => rw [q] at h; exact h.elim
  | exc x st1 => exact (fr_no_exc q).elim
  | ok d st' =>
    obtain ⟨F', e', s', r'⟩ := e.fr r q
    rw [q] at h
    exact ⟨d, st', F', e', s', r', SPst.le (show SPst B W g Z (f d st') from h) s'.le⟩
end

structure CxtS (T : Tab) (exc : List Str) (sc : Scope) (cm : Bool) (G : Gam) (B : Bs) (X : Cx) (W : WX) : Prop extends Cxt T sc cm G B X W where
  po : cm = true → PassesOwn (model X.prog X.w) X.A X.env X.xe
  bk : X.env.blockKind = .function
  stk : cm = true → X.stack = X.env :: X.outer ∧ X.env.frame = some X.env.locals ∧ B.ex = none
  raf : ∀ p ∈ T.raf, ∃ C fI, PySem.SupX.SupTxt X.prog X.K X.mg C fI p.1 p.2
  exc_ : ∀ x ∈ exc, ∃ C, X.mg x = some (.ref C) ∧ PySem.W.excIn X.K C [.type "ValueError", .type "Exception", .type "BaseException", .type "object"] "ValueError.__new__" = true ∧ PySem.W.keepIn X.K (.ref C) = true ∧
    PySem.W.subIn X.K (.ref C) (.type "BaseException") = some true ∧ PySem.W.typeIn X.K (.ref C) = some (.type "type")

section
variable {X : Cx}
theorem ps_of {st : Stmt} {t t' : TS} (h : PS X st t) (i : ∀ Z σ H, t' Z σ H → t Z σ H) : PS X st t' := ⟨fun pins s σ H Z I q => h.run pins s σ H Z I (i Z σ H q)⟩
theorem pss_of {st : List Stmt} {t t' : TS} (h : PSs X st t) (i : ∀ Z σ H, t' Z σ H → t Z σ H) : PSs X st t' := ⟨fun pins s σ H Z I q => h.run pins s σ H Z I (i Z σ H q)⟩
end
def OKS (T : Tab) (exc : List Str) (G : Gam) (s : St) : Prop := ∀ {sc : Scope} {calm : Bool} {B : Bs} {X : Cx} {W : WX}, CxtS T exc sc calm G B X W → ∀ t : Stmt, chkSt T exc sc calm s t = true → PS X t (tS B W (ex G s))
def OKSs (T : Tab) (exc : List Str) (G : Gam) (s : Sts) : Prop := ∀ {sc : Scope} {calm : Bool} {B : Bs} {X : Cx} {W : WX}, CxtS T exc sc calm G B X W → ∀ t : List Stmt, chkSs T exc sc calm s t = true → PSs X t (tS B W (exs G s))

section
variable {T : Tab} {exc : List Str} {G : Gam}
theorem swap_no {v : Expr} {t : Option Expr} {n : Nat} {env : Env} (h : notComp v = true) : swapsWith v t n env = pure false := by
  cases v <;> first
    | rfl
    | exact Bool.noConfusion (show false = true from h)
theorem swap_lc {X : Cx} {sc : Scope} (hb : X.env.blockKind = .function) (hs : ScR sc X.env.scope) {x : Str} {p : Pos} {a : Expr} {gs : List Comprehension} {scope : Scope} {d : Pos} (h : lcOwn sc x p (.ListComp a gs scope d) scope = true) :
    swapsWith (.ListComp a gs scope d) (some (.Name x p)) p.line X.env = pure true ∧ X.env.scope.names.lookup x = some .local := by
  obtain ⟨h1, h2⟩ := b2 h
  obtain ⟨h2, h3⟩ := b2 h2
  have hl := locB_ok hs h1
  refine ⟨?_, hl⟩
  show (pure (X.env.blockKind == .function && X.env.kindOf x == some .local && p.line == (Expr.ListComp a gs scope d).pos.line && !(scope.names.any fun (n, k) => n == x && (k == .local || k == .cell))) : Sem Bool) = pure true
  have e1 : (X.env.blockKind == ScopeKind.function) = true := by rw [hb]; rfl
  have e2 : (X.env.kindOf x == some NameKind.local) = true := by
    have : X.env.kindOf x = some .local := hl
    rw [this]; rfl
  rw [e1, e2, h2]
  rw [show (scope.names.any fun (n, k) => n == x && (k == .local || k == .cell)) = (scope.names.any fun q => q.1 == x && (q.2 == .local || q.2 == .cell)) from rfl]
  rw [h3]
  rfl
theorem sok_asg (t : Tg) (e : Ex) : OKS T exc G (.asg t e) := by
  intro sc calm B X W C s h
  cases s with
  | Assign ts v pos =>
    cases ts with
    | nil => exact Bool.noConfusion (show false = true from h)
    | cons tg ts =>
      cases ts with
      | cons _ _ => exact Bool.noConfusion (show false = true from h)
      | nil =>
        obtain ⟨k1, q1⟩ := b2 h
        obtain ⟨k2, q2⟩ := b2 q1
        obtain ⟨k3, k4⟩ := b2 q2
        have read : ∀ (Z : Ends) (σ : L2.St) (H : Hp), tS B W (ex G (.asg t e)) Z σ H → tE B W (ev G e) σ H (fun x H1 => tgG X.K t x σ H1 Z.nx) := fun Z σ H ⟨g, ρ, st, er, p⟩ => by
          have p' : SPst B W g Z ((ev G e ρ st).sr ρ fun v st => pickS (asgT t v ρ st) fun ρ => .nx ρ st) := p
          refine ⟨g, ρ, st, er, p'.ev.imp fun v st1 g1 H1 e1 s1 p1 x rx => ?_⟩
          obtain ⟨ρ', q, p1⟩ := p1.pick
          rw [C.K]
          exact tg_ok e1 rx q fun σ' e2 _ => p1.nx e2
        cases t with
        | nm i =>
          obtain ⟨_, x, p, rfl⟩ := nmB_ok (i := i) C.N C.nd C.sc C.fn (show nmB T sc i tg = true by cases tg <;> exact k2)
          obtain ⟨n1, n2⟩ := b2 (show (decide (T.N[i]? = some x) && (locB sc x || celB sc x)) = true from k2)
          have hL : Loc X.env.scope x ∧ (X.fn x = true ∨ X.env.scope.names.lookup x = some .local) := by
            rcases Bool.or_eq_true_iff.mp n2 with n2 | n2
            · exact ⟨.inl (locB_ok C.sc n2), .inr (locB_ok C.sc n2)⟩
            · exact ⟨.inr (C.sc.cl x (celB_ok n2)), .inl (C.fn x (celB_ok n2))⟩
          by_cases hv : notComp v = true
          · exact ps_of (ps_set (i := i) (by rw [C.N]; exact C.nd) (by rw [C.N]; exact of_decide_eq_true n1) hL.1 ((ev_ok e C.toCxt v).1 k3) (swap_no hv) hL.2) fun Z σ H q => read Z σ H q
          · cases v <;> first
              | exact absurd rfl hv
              | skip
            · rename_i a gs scope d
              cases e <;> first
                | (exfalso; cases gs <;> exact Bool.noConfusion (show false = true from k3))
                | skip
              rename_i own tg it c elt
              obtain ⟨eelt, etg, eit, ifs, scope', pos', e0, hm, j1, j2, j3, j4, j5, j6, j7⟩ := chk_lc k3
              cases e0
              obtain ⟨cm, room⟩ := C.calm j1
              obtain ⟨_, nd, hI, pl, blk, vs, pg', pt, pe⟩ := lc_parts (evI_ok it) (ev_ok c) (ev_ok elt) C.toCxt j1 j2 j3 j5 j6 j7
              rcases Bool.or_eq_true_iff.mp (show (lcOwn sc x p (.ListComp a [⟨etg, eit, ifs, 0⟩] scope d) scope || celB sc x) = true from k4) with k4 | k4
              rotate_left
              · have kk : X.env.kindOf x = some .cell := C.sc.cl x (celB_ok k4)
                exact ps_of (ps_set (i := i) (by rw [C.N]; exact C.nd) (by rw [C.N]; exact of_decide_eq_true n1) hL.1 ((ev_ok (.lc own tg it c elt) C.toCxt _).1 k3) (by
                  show (pure (X.env.blockKind == .function && X.env.kindOf x == some .local && p.line == (Expr.ListComp a [⟨etg, eit, ifs, 0⟩] scope d).pos.line && !(scope.names.any fun (n, k) => n == x && (k == .local || k == .cell))) : Sem Bool) = pure false
                  have e2 : (X.env.kindOf x == some NameKind.local) = false := by rw [kk]; rfl
                  rw [e2, Bool.and_false, Bool.false_and, Bool.false_and]) hL.2) fun Z σ H q => read Z σ H q
              obtain ⟨sw, hl⟩ := swap_lc (X := X) C.bk C.sc k4
              refine ps_of (ps_setLc (i := i) cm nd (by rw [C.N]; exact of_decide_eq_true n1) hl sw hI blk pg' pt pe (fold_ok pl)) fun Z σ H q => ?_
              rw [vs]
              exact lc_read C.toCxt j4 (read Z σ H q)
            · exact Bool.noConfusion (show false = true from k4)
            · exact Bool.noConfusion (show false = true from k4)
        | tp is =>
          cases tg <;> first
            | exact Bool.noConfusion (show false = true from k2)
            | skip
          rename_i es k p
          obtain ⟨hv, ht⟩ := b2 (show (notComp v && notTup v) = true from k4)
          have kc : calm = true := by simpa using (show (calm || false) = true from k1)
          obtain ⟨cm, room⟩ := C.calm kc
          have pg := tgB_ok (t := .tp is) (e := Expr.Tuple es k p) C.N C.nd C.sc C.fn cm k2
          have hs : swapsWithSole [Expr.Tuple es k p] v pos.line X.env = pure false := by
            show swapsWith v (some (Expr.Tuple es k p)) pos.line X.env = pure false
            exact swap_no hv
          have hw : swappedStores [Expr.Tuple es k p] v X.env = pure none := by
            cases v <;> first
              | rfl
              | exact Bool.noConfusion (show false = true from ht)
          exact ps_of (ps_asg ((ev_ok e C.toCxt v).1 k3) pg hs hw rfl) fun Z σ H q => read Z σ H q
  | _ => exact Bool.noConfusion (show false = true from h)
theorem chkSt_six {sc : Scope} {calm : Bool} {i : Nat} {k e : Ex} {s : Stmt} (h : chkSt T exc sc calm (.six i k e) s = true) : ∃ x p1 ek p2 v pos, s = .Assign [.Subscript (.Name x p1) ek p2] v pos ∧ T.N[i]? = some x ∧ visB sc x = true ∧ PD.seen x = true ∧ notComp v = true ∧ chk T sc calm e false v = true ∧ plainE ek = true ∧ chk T sc calm k false ek = true := by
  cases s with
  | Assign ts v pos =>
    cases ts with
    | nil => exact Bool.noConfusion (show false = true from h)
    | cons tg ts =>
      cases tg with
      | Subscript o ek p2 =>
        cases o with
        | Name x p1 =>
          cases ts with
          | cons _ _ => exact Bool.noConfusion (show false = true from h)
          | nil =>
            obtain ⟨k1, q1⟩ := b2 h
            obtain ⟨k2, q2⟩ := b2 q1
            obtain ⟨k3, q3⟩ := b2 q2
            obtain ⟨k4, q4⟩ := b2 q3
            obtain ⟨k5, q5⟩ := b2 q4
            obtain ⟨k6, k7⟩ := b2 q5
            exact ⟨x, p1, ek, p2, v, pos, rfl, of_decide_eq_true k1, k2, k3, k4, k5, k6, k7⟩
        | _ => cases ts <;> exact Bool.noConfusion (show false = true from h)
      | _ => cases ts <;> exact Bool.noConfusion (show false = true from h)
  | _ => exact Bool.noConfusion (show false = true from h)
theorem ER.varAt {B : Bs} {g : Gh} {H : Hp} {σ : L2.St} {ρ : Slots} {st : Store} (er : ER B g H σ ρ st) {i : Nat} {v : Val} (q : ρ[i]? = some (some v)) : ∃ x, σ[i]? = some (some x) ∧ ValR B.R B.ex g.F g.A x v := by
  have hi : i < σ.length := by
    rw [er.slen]; exact (List.getElem?_eq_some_iff.mp q).1
  obtain ⟨x, e1, r⟩ := er.slots i _ _ (List.getElem?_eq_getElem hi) q
  exact ⟨x, by rw [List.getElem?_eq_getElem hi, e1], r⟩
theorem assign_sub {o ek : Expr} {p : Pos} {env : Env} {v : Value} (h : plainE ek = true) : assign (.Subscript o ek p) env v = (do
      let ov ← holding [v] (eval o env)
      let iv ← holding [v, ov] (eval ek env)
      standAt p
      holding [v, ov, iv] (setItem ov iv v)
      release [v, ov, iv] []) := by
  cases ek <;> first
    | rfl
    | exact Bool.noConfusion (show false = true from h)
theorem sok_six (i : Nat) (k e : Ex) : OKS T exc G (.six i k e) := by
  intro sc calm B X W C s h
  obtain ⟨x, p1, ek, p2, v, pos, rfl, k1, k2, k3, k4, k5, k6, k7⟩ := chkSt_six h
  obtain ⟨n1, n2, _, _⟩ := seen_ok k3
  have pgs : PG X (.Subscript (.Name x p1) ek p2) (gSub (tVar i) (tE B W (ev G k)) rSetL) := pg_sub (pe_var (i := i) (by rw [C.N]; exact k1) (C.vis k2) n1 n2) ((ev_ok k C.toCxt ek).1 k7) set_list (fun _ => assign_sub k6)
  have hs : swapsWithSole [Expr.Subscript (.Name x p1) ek p2] v pos.line X.env = pure false := by
    show swapsWith v (some (Expr.Subscript (.Name x p1) ek p2)) pos.line X.env = pure false
    exact swap_no k4
  refine ps_of (ps_asg ((ev_ok e C.toCxt v).1 k5) pgs hs rfl rfl) fun Z σ H ⟨g, ρ, st, er, p⟩ => ?_
  have p' : SPst B W g Z ((ev G e ρ st).sr ρ fun v st => match ρ[i]? with
    | some (some (.loc n)) => (ev G k ρ st).sr ρ fun y st => (fr G.io v st).sr ρ fun d st => (match dr st y, st[n]? with
      | some (.int j), some (.lst ds) => pickS (ixN ds.length j) fun m => .nx ρ (st.set n (.lst (ds.set m d)))
      | _, _ => .stuck)
    | _ => .stuck) := p
  refine ⟨g, ρ, st, er, p'.ev.imp fun w st1 g1 H1 e1 s1 p1 xv rv => ?_⟩
  cases q : ρ[i]? with
  | none => simp only [q] at p1; exact p1.elim
  | some o =>
    cases o with
    | none => simp only [q] at p1; exact p1.elim
    | some vi =>
      cases vi with
      | fz _ => simp only [q] at p1; exact p1.elim
      | exn _ => simp only [q] at p1; exact p1.elim
      | loc n =>
        simp only [q] at p1
        obtain ⟨xo, hx, rx⟩ := e1.varAt q
        refine ⟨xo, hx, g1, ρ, st1, e1, p1.ev.imp fun y st2 g2 H2 e2 s2 p2 yv ry => ?_⟩
        rw [C.io] at p2
        obtain ⟨d, st3, F3, e3, s3, r3, p3⟩ := p2.fr e2 (rv.up s2.le)
        cases q1 : dr st3 y with
        | none => simp only [q1] at p3; exact p3.elim
        | some dy =>
          cases q2 : st3[n]? with
          | none => simp only [q1, q2] at p3; cases dy <;> exact p3.elim
          | some c =>
            cases dy with
            | int j =>
              cases c with
              | lst ds =>
                simp only [q1, q2] at p3
                obtain ⟨m, q3, p4⟩ := p3.pick
                obtain ⟨a, hA, rfl⟩ := rx.up (s2.le.trans s3.le)
                obtain rfl := (e3.rd (ry.up s3.le) q1).int
                obtain ⟨_, xs, hxs, k⟩ := e3.conts n a _ hA q2
                refine ⟨a, xs, j, m, rfl, rfl, hxs, by rw [k.length]; exact q3, ?_⟩
                obtain ⟨e4, s4⟩ := e3.put (c := .lst (ds.set m d)) (o := .lst (xs.set m xv)) hA q2 rfl rfl fun H' hH => ⟨(e3.conts n a _ hA q2).out rfl, _, hH, k.set m r3⟩
                exact p4 _ _ _ (Gh.le.refl _) e4
              | _ => simp only [q1, q2] at p3; exact p3.elim
            | _ => simp only [q1, q2] at p3; exact p3.elim
theorem chkSt_app {sc : Scope} {calm : Bool} {i : Nat} {e : Ex} {s : Stmt} (h : chkSt T exc sc calm (.app i e) s = true) : ∃ x p1 ap ee cp pos, s = .Expr (.Call (.Attribute (.Name x p1) "append" ap) [ee] [] cp) pos ∧ T.N[i]? = some x ∧ visB sc x = true ∧ PD.seen x = true ∧ (ap.endLine == cp.line) = true ∧ plainE ee = true ∧ chk T sc calm e false ee = true := by
  cases s with
  | Expr v pos =>
    cases v with
    | Call f es kws cp =>
      cases f with
      | Attribute o m ap =>
        cases o with
        | Name x p1 =>
          cases es with
          | nil => exact Bool.noConfusion (show false = true from h)
          | cons ee es =>
            cases es with
            | cons _ _ => exact Bool.noConfusion (show false = true from h)
            | nil =>
              cases kws with
              | cons _ _ => exact Bool.noConfusion (show false = true from h)
              | nil =>
                obtain ⟨k1, q1⟩ := b2 h
                obtain ⟨k2, q2⟩ := b2 q1
                obtain ⟨k3, q3⟩ := b2 q2
                obtain ⟨k4, q4⟩ := b2 q3
                obtain ⟨k5, q5⟩ := b2 q4
                obtain ⟨k6, k7⟩ := b2 q5
                have hm : m = "append" := of_decide_eq_true k4
                subst hm
                exact ⟨x, p1, ap, ee, cp, pos, rfl, of_decide_eq_true k1, k2, k3, k5, k6, k7⟩
        | _ => cases es <;> exact Bool.noConfusion (show false = true from h)
      | _ => cases es <;> exact Bool.noConfusion (show false = true from h)
    | _ => exact Bool.noConfusion (show false = true from h)
  | _ => exact Bool.noConfusion (show false = true from h)
theorem sok_app (i : Nat) (e : Ex) : OKS T exc G (.app i e) := by
  intro sc calm B X W C s h
  obtain ⟨x, p1, ap, ee, cp, pos, rfl, k1, k2, k3, k4, k5, k6⟩ := chkSt_app h
  obtain ⟨n1, n2, _, _⟩ := seen_ok k3
  have hfew : ((backTo cp (starEach (ee :: []) X.env)).all (fun x => !x.1) && (backToKw cp (keywordEach [] X.env)).all (fun x => x.1.isSome) && decide ((ee :: []).length + ([] : List Keyword).length + (if ([] : List Keyword).isEmpty then 0 else 1) < 30)) = true := by
    rw [star_ok k5] <;> rfl
  refine ps_of (ps_expr (pe_bm PySem.F.plainAttrs_list PySem.F.slot_list_append PySem.F.type_list_append mt_append (pe_var (i := i) (by rw [C.N]; exact k1) (C.vis k2) n1 n2)
    (pa_cons ((ev_ok e C.toCxt ee).1 k6) pa_nil (star_ok k5)) rfl hfew k4 (star_ok k5) rfl) rfl) fun Z σ H ⟨g, ρ, st, er, p⟩ => ?_
  have p' : SPst B W g Z (match ρ[i]? with
    | some (some (.loc n)) => (match st[n]? with
      | some (.lst _) => (ev G e ρ st).sr ρ fun v st => (fr G.io v st).sr ρ fun d st => (match st[n]? with
        | some (.lst ds) => if ds.length < LIM then .nx ρ (st.set n (.lst (ds ++ [d]))) else .stuck
        | _ => .stuck)
      | _ => .stuck)
    | _ => .stuck) := p
  cases q : ρ[i]? with
  | none => simp only [q] at p'; exact p'.elim
  | some o =>
    cases o with
    | none => simp only [q] at p'; exact p'.elim
    | some vi =>
      cases vi with
      | fz _ => simp only [q] at p'; exact p'.elim
      | exn _ => simp only [q] at p'; exact p'.elim
      | loc n =>
        simp only [q] at p'
        obtain ⟨xo, hx, rx⟩ := er.varAt q
        refine ⟨xo, hx, ?_⟩
        obtain ⟨a, hA, rfl⟩ := id rx
        cases q0 : st[n]? with
        | none => simp only [q0] at p'; exact p'.elim
        | some c0 =>
          cases c0 with
          | lst ds0 =>
            simp only [q0] at p'
            obtain ⟨_, xs0, hxs0, _⟩ := er.conts n a _ hA q0
            refine ⟨.inl ⟨rfl, xs0, SqL.of hxs0⟩, g, ρ, st, er, p'.ev.imp fun w st1 g1 H1 e1 s1 p1 xv rv => ?_⟩
            rw [C.io] at p1
            obtain ⟨d, st3, F3, e3, s3, r3, p3⟩ := p1.fr e1 rv
            cases q2 : st3[n]? with
            | none => simp only [q2] at p3; exact p3.elim
            | some c =>
              cases c with
              | lst ds =>
                simp only [q2] at p3
                by_cases hz : ds.length < LIM
                · rw [if_pos hz] at p3
                  obtain ⟨a', hA', e'⟩ := rx.up (s1.le.trans s3.le)
                  cases e'
                  obtain ⟨_, xs, hxs, k⟩ := e3.conts n a _ hA' q2
                  refine ⟨a, xs, xv, rfl, rfl, hxs, by rw [k.length, ← lim_eq]; exact hz, ?_⟩
                  obtain ⟨e4, s4⟩ := e3.put (c := .lst (ds ++ [d])) (o := .lst (xs ++ [xv])) hA' q2 rfl rfl fun H' hH => ⟨(e3.conts n a _ hA' q2).out rfl, _, hH, k.append (.cons r3 .nil)⟩
                  exact p3 _ _ _ (Gh.le.refl _) e4
                · rw [if_neg hz] at p3; exact p3.elim
              | _ => simp only [q2] at p3; exact p3.elim
          | _ => simp only [q0] at p'; exact p'.elim
theorem sok_exp (e : Ex) : OKS T exc G (.exp e) := by
  intro sc calm B X W C s h
  cases s with
  | Expr v pos =>
    obtain ⟨k1, k2⟩ := b2 (show (notComp v && chk T sc calm e false v) = true from h)
    refine ps_of (ps_expr ((ev_ok e C.toCxt v).1 k2) (swap_no k1)) fun Z σ H ⟨g, ρ, st, er, p⟩ => ?_
    have p' : SPst B W g Z ((ev G e ρ st).sr ρ fun _ st => .nx ρ st) := p
    exact ⟨g, ρ, st, er, p'.ev.imp fun w st1 g1 H1 e1 s1 p1 xv rv => p1.nx e1⟩
  | _ => exact Bool.noConfusion (show false = true from h)
theorem spst_bool {B : Bs} {W : WX} {g : Gh} {Z : Ends} {x : Val} {kt kf : SR} (p : SPst B W g Z (match x with | .fz (.bl true) => kt | .fz (.bl false) => kf | _ => .stuck)) : (x = .fz (.bl true) ∧ SPst B W g Z kt) ∨ (x = .fz (.bl false) ∧ SPst B W g Z kf) := by
  split at p
  · exact .inl ⟨rfl, p⟩
  · exact .inr ⟨rfl, p⟩
  · exact p.elim
theorem sok_if (c : Ex) {a b : Sts} (ha : OKSs T exc G a) (hb : OKSs T exc G b) : OKS T exc G (.if_ c a b) := by
  intro sc calm B X W C s h
  cases s with
  | If ec ea eb pos =>
    obtain ⟨k1, q1⟩ := b2 (show (chk T sc calm c true ec && (chkSs T exc sc calm a ea && chkSs T exc sc calm b eb)) = true from h)
    obtain ⟨k2, k3⟩ := b2 q1
    refine ps_of (ps_if ((ev_ok c C.toCxt ec).2 k1).1 (ha C ea k2) (hb C eb k3)) fun Z σ H ⟨g, ρ, st, er, p⟩ => ?_
    have p' : SPst B W g Z ((ev G c ρ st).sr ρ fun x st => match x with
      | .fz (.bl true) => exs G a ρ st
      | .fz (.bl false) => exs G b ρ st
      | _ => .stuck) := p
    refine ⟨g, ρ, st, er, p'.ev.imp fun w st1 g1 H1 e1 s1 p1 => ?_⟩
    rcases spst_bool p1 with ⟨rfl, p2⟩ | ⟨rfl, p2⟩
    · exact ⟨true, rfl, iteT ⟨g1, ρ, st1, e1, p2⟩⟩
    · exact ⟨false, rfl, iteF ⟨g1, ρ, st1, e1, p2⟩⟩
  | _ => exact Bool.noConfusion (show false = true from h)
theorem sok_ret (e : Ex) : OKS T exc G (.ret e) := by
  intro sc calm B X W C s h
  cases s with
  | Return v pos =>
    cases v with
    | none => exact Bool.noConfusion (show false = true from h)
    | some v =>
      refine ps_of (ps_ret ((ev_ok e C.toCxt v).1 h)) fun Z σ H ⟨g, ρ, st, er, p⟩ => ?_
      have p' : SPst B W g Z ((ev G e ρ st).sr ρ fun v st => (fr G.io v st).sr ρ fun d st => .rt d st) := p
      refine ⟨g, ρ, st, er, p'.ev.imp fun w st1 g1 H1 e1 s1 p1 xv rv => ?_⟩
      rw [C.io] at p1
      obtain ⟨d, st3, F3, e3, s3, r3, p3⟩ := p1.fr e1 rv
      exact p3 _ _ _ _ _ (Gh.le.refl _) e3 r3
  | _ => exact Bool.noConfusion (show false = true from h)
theorem sok_retl (e : Ex) : OKS T exc G (.retl e) := by
  intro sc calm B X W C s h
  cases s with
  | Return v pos =>
    cases v with
    | none => exact Bool.noConfusion (show false = true from h)
    | some v =>
      refine ps_of (ps_ret ((ev_ok e C.toCxt v).1 h)) fun Z σ H ⟨g, ρ, st, er, p⟩ => ?_
      have p' : SPst B W g Z ((ev G e ρ st).sr ρ fun v st => match v with
        | .loc n => if G.io ≤ n then (match st[n]? with
          | some (.lst ds) => .rtl ds st
          | _ => .stuck) else .stuck
        | _ => .stuck) := p
      refine ⟨g, ρ, st, er, p'.ev.imp fun w st1 g1 H1 e1 s1 p1 xv rv => ?_⟩
      cases w with
      | fz _ => exact p1.elim
      | exn _ => exact p1.elim
      | loc n =>
        simp only at p1
        by_cases hn : G.io ≤ n
        · rw [if_pos hn] at p1
          cases q : st1[n]? with
          | none => simp only [q] at p1; exact p1.elim
          | some c =>
            cases c with
            | lst ds =>
              simp only [q] at p1
              obtain ⟨a, hA, rfl⟩ := rv
              obtain ⟨hF, xs, hxs, k⟩ := e1.conts n a _ hA q
              exact p1 _ _ _ _ a xs (Gh.le.refl _) e1 hF (e1.own n a (by rw [← C.io]; exact hn) hA) hxs k
            | _ => simp only [q] at p1; exact p1.elim
        · rw [if_neg hn] at p1; exact p1.elim
  | _ => exact Bool.noConfusion (show false = true from h)
theorem ps_never {X : Cx} {t : Stmt} {q : TS} (h : ∀ Z σ H, ¬ q Z σ H) : PS X t q := ⟨fun pins s σ H Z I z => (h Z σ H z).elim⟩
theorem sok_dead : OKS T exc G .dead := by
  intro sc calm B X W C t h
  exact ps_never fun Z σ H ⟨g, ρ, st, er, p⟩ => (show SPst B W g Z .stuck from p)
theorem sok_small {s : St} (hs : s = .retn ∨ s = .pass ∨ s = .brk ∨ s = .cnt) : OKS T exc G s := by
  intro sc calm B X W C t h
  rcases hs with rfl | rfl | rfl | rfl
  · cases t with
    | Return v pos =>
      cases v with
      | some _ => exact Bool.noConfusion (show false = true from h)
      | none => exact ps_of ps_retN fun Z σ H ⟨g, ρ, st, er, p⟩ => (show SPst B W g Z (.rt .non st) from p) g H σ ρ .non (Gh.le.refl g) er .non
    | _ => exact Bool.noConfusion (show false = true from h)
  · cases t with
    | Pass pos => exact ps_of ps_pass fun Z σ H ⟨g, ρ, st, er, p⟩ => (show SPst B W g Z (.nx ρ st) from p) g H σ (Gh.le.refl g) er
    | _ => exact Bool.noConfusion (show false = true from h)
  · cases t with
    | Break pos => exact ps_of ps_break fun Z σ H ⟨g, ρ, st, er, p⟩ => (show SPst B W g Z (.bk ρ st) from p) g H σ (Gh.le.refl g) er
    | _ => exact Bool.noConfusion (show false = true from h)
  · cases t with
    | Continue pos => exact ps_of ps_continue fun Z σ H ⟨g, ρ, st, er, p⟩ => (show SPst B W g Z (.ct ρ st) from p) g H σ (Gh.le.refl g) er
    | _ => exact Bool.noConfusion (show false = true from h)
theorem sok_rais (c : Str) : OKS T exc G (.rais c) := by
  intro sc calm B X W C t h
  cases t with
  | Raise v cs pos =>
    cases v with
    | none => exact Bool.noConfusion (show false = true from h)
    | some v =>
      cases v with
      | Call f es kws p =>
        cases f with
        | Name x p1 =>
          cases es with
          | nil => exact Bool.noConfusion (show false = true from h)
          | cons e es =>
            cases e with
            | Constant k kk p2 =>
              cases k with
              | str m =>
                cases es with
                | cons _ _ => exact Bool.noConfusion (show false = true from h)
                | nil =>
                  cases kws with
                  | cons _ _ => exact Bool.noConfusion (show false = true from h)
                  | nil =>
                    cases cs with
                    | some _ => exact Bool.noConfusion (show false = true from h)
                    | none =>
                      obtain ⟨k1, q1⟩ := b2 h
                      obtain ⟨k2, q2⟩ := b2 q1
                      obtain ⟨k3, q3⟩ := b2 q2
                      obtain ⟨k4, k5⟩ := b2 q3
                      have hx : c = x := of_decide_eq_true k2
                      subst hx
                      obtain ⟨cm, room⟩ := C.calm k1
                      obtain ⟨A, hm, hE, hk, hs, ht⟩ := C.exc_ c (List.contains_iff_mem.mp k3)
                      obtain ⟨n1, _, _, _⟩ := seen_ok k5
                      refine ps_of (ps_raise cm C.tk (pmk_own PySem.F.excBase_ValueError hE hm hk (raises_own hs ht) (C.glob k4) n1)) fun Z σ H ⟨g, ρ, st, er, p⟩ => ?_
                      exact (show SPst B W g Z (.exc ⟨c, []⟩ ρ st) from p) g H σ (.ref A) none (Gh.le.refl g) er ⟨⟨A, by rw [← C.mg]; exact hm, rfl⟩, .inl ⟨rfl, rfl⟩⟩
              | _ => exact Bool.noConfusion (show false = true from h)
            | _ => exact Bool.noConfusion (show false = true from h)
        | _ => cases es <;> exact Bool.noConfusion (show false = true from h)
      | _ => exact Bool.noConfusion (show false = true from h)
  | _ => exact Bool.noConfusion (show false = true from h)
theorem sok_raisf (c f : Str) (e : Ex) : OKS T exc G (.raisf c f e) := by
  intro sc calm B X W C t h
  cases t with
  | Raise v cs pos =>
    cases v with
    | none => exact Bool.noConfusion (show false = true from h)
    | some v =>
      cases v with
      | Call g es kws p =>
        cases g with
        | Name x p1 =>
          cases es with
          | nil => exact Bool.noConfusion (show false = true from h)
          | cons ea es =>
            cases es with
            | cons _ _ => exact Bool.noConfusion (show false = true from h)
            | nil =>
              cases kws with
              | cons _ _ => exact Bool.noConfusion (show false = true from h)
              | nil =>
                cases cs with
                | some _ => exact Bool.noConfusion (show false = true from h)
                | none =>
                  obtain ⟨k1, q1⟩ := b2 (show (calm && (decide (c = x) && (T.raf.contains (c, f) && (T.free.contains "super" && (glB sc x && (PD.seen x && (plainE ea && chk T sc calm e false ea))))))) = true from h)
                  obtain ⟨k2, q2⟩ := b2 q1
                  obtain ⟨k3, q3⟩ := b2 q2
                  obtain ⟨k4, q4⟩ := b2 q3
                  obtain ⟨k5, q5⟩ := b2 q4
                  obtain ⟨k6, q6⟩ := b2 q5
                  obtain ⟨k7, k8⟩ := b2 q6
                  have hx : c = x := of_decide_eq_true k2
                  subst hx
                  obtain ⟨cm, room⟩ := C.calm k1
                  obtain ⟨A, fI, S⟩ := C.raf (c, f) (List.contains_iff_mem.mp k3)
                  obtain ⟨n1, _, _, _⟩ := seen_ok k6
                  refine ps_of (ps_raise cm C.tk (pmk_sup S (C.free _ (List.contains_iff_mem.mp k4)) room (pa_cons ((ev_ok e C.toCxt ea).1 k8) pa_nil (star_ok k7)) (C.glob k5) n1 (star_ok k7))) fun Z σ H ⟨g, ρ, st, er, p⟩ => ?_
                  have p' : SPst B W g Z ((ev G e ρ st).sr ρ fun v st => (fr G.io v st).sr ρ fun d st => .exc ⟨c, [(f, d)]⟩ ρ st) := p
                  refine ⟨g, ρ, st, er, p'.ev.imp fun w st1 g1 H1 e1 s1 p1 xv rv => ?_⟩
                  rw [C.io] at p1
                  obtain ⟨d, st3, F3, e3, s3, r3, p3⟩ := p1.fr e1 rv
                  refine ⟨xv, rfl, fun a ha => ?_⟩
                  obtain ⟨e4, s4⟩ := e3.lay (o := .xd [(f, xv)]) ha
                  exact p3 _ _ _ (.ref A) (some a) s4.le e4 ⟨⟨A, by rw [← C.mg]; exact S.gC, rfl⟩, .inr ⟨a, [(f, xv)], rfl, upd_same, rfl, .cons (r3.mono s4.le.F) .nil⟩⟩
        | _ => cases es <;> exact Bool.noConfusion (show false = true from h)
      | _ => exact Bool.noConfusion (show false = true from h)
  | _ => exact Bool.noConfusion (show false = true from h)
theorem sok_nil : OKSs T exc G .nil := by
  intro sc calm B X W C t h
  cases t with
  | nil => exact pss_of pss_nil fun Z σ H ⟨g, ρ, st, er, p⟩ => (show SPst B W g Z (.nx ρ st) from p) g H σ (Gh.le.refl g) er
  | cons _ _ => exact Bool.noConfusion (show false = true from h)
theorem sok_cons {s : St} {ss : Sts} (hs : OKS T exc G s) (hss : OKSs T exc G ss) : OKSs T exc G (.cons s ss) := by
  intro sc calm B X W C t h
  cases t with
  | nil => exact Bool.noConfusion (show false = true from h)
  | cons t ts =>
    obtain ⟨k1, k2⟩ := b2 (show (chkSt T exc sc calm s t && chkSs T exc sc calm ss ts) = true from h)
    refine pss_of (pss_cons (hs C t k1) (hss C ts k2)) fun Z σ H ⟨g, ρ, st, er, p⟩ => ?_
    have p' : SPst B W g Z ((ex G s ρ st).bind fun ρ st => exs G ss ρ st) := p
    refine ⟨g, ρ, st, er, ?_⟩
    cases q : ex G s ρ st with
    | nx ρ' st' =>
      rw [q] at p'
      exact fun g' H' σ' l e => ⟨g', ρ', st', e, SPst.le (show SPst B W g Z (exs G ss ρ' st') from p') l⟩
    | bk ρ' st' => rw [q] at p'; exact p'
    | ct ρ' st' => rw [q] at p'; exact p'
    | rt d st' => rw [q] at p'; exact p'
    | rtl d st' => rw [q] at p'; exact p'
    | exc x ρ' st' => rw [q] at p'; exact p'
    | stuck => rw [q] at p'; exact p'
end
end PD

/-! PD15 -/
set_option Elab.async false
set_option linter.all false
set_option maxRecDepth 100000
set_option maxHeartbeats 4000000
/-! PD: loops. -/
namespace PD
open PySem PySem.Spec PyProof.Rows L2
section
variable {T : Tab} {exc : List Str} {G : Gam}
theorem spst_if {B : Bs} {W : WX} {g : Gh} {Z : Ends} {c : Prop} [Decidable c] {r : SR} (p : SPst B W g Z (if c then r else .stuck)) : c ∧ SPst B W g Z r := by
  by_cases h : c
  · rw [if_pos h] at p; exact ⟨h, p⟩
  · rw [if_neg h] at p; exact p.elim
theorem sok_for (t : Tg) (it : It) {b : Sts} (hb : OKSs T exc G b) : OKS T exc G (.for_ t it b) := by
  intro sc calm B X W C s h
  cases s with
  | For etg eit eb orelse pos =>
    cases orelse with
    | cons _ _ => exact Bool.noConfusion (show false = true from h)
    | nil =>
      obtain ⟨k1, q1⟩ := b2 (show (calm && (tgB T sc t etg && (chkI T sc calm it eit && chkSs T exc sc calm b eb))) = true from h)
      obtain ⟨k2, q2⟩ := b2 q1
      obtain ⟨k3, k4⟩ := b2 q2
      obtain ⟨cm, room⟩ := C.calm k1
      obtain ⟨hI, pl⟩ := evI_ok it C.toCxt etg eit k3
      refine ps_of (ps_for (C.po k1) cm hI (tgB_ok C.N C.nd C.sc C.fn cm k2) (hb C eb k4) (fold_ok pl)) fun Z σ H ⟨g, ρ, st, er, p⟩ => ?_
      have p' : SPst B W g Z ((evI G it ρ st).sr ρ fun I st => pickS (I.size st) fun n => forLoop I (fun d ρ st => pickS (asgT t (.fz d) ρ st) fun ρ => exs G b ρ st) n 0 ρ st) := p
      refine ⟨g, ρ, st, er, p'.ev.imp fun I st1 g1 H1 e1 s1 p1 J hJ => ?_⟩
      obtain ⟨n, hn, p1⟩ := p1.pick
      generalize hbody : (fun (d : D) (ρ : Slots) (st : Store) => pickS (asgT t (.fz d) ρ st) fun ρ => exs G b ρ st) = body at p1
      refine ⟨fun i m σ H => ∃ g2 ρ2 st2, ER B g2 H σ ρ2 st2 ∧ g1.le g2 ∧ i ≤ n ∧ m = n - i ∧ SPst B W g2 Z (forLoop I body (n - i) i ρ2 st2), ⟨n, g1, ρ, st1, e1, Gh.le.refl _, Nat.zero_le _, rfl, p1⟩, ?_⟩
      rintro i m σ2 H2 ⟨g2, ρ2, st2, e2, l2, hin, rfl, p2⟩
      by_cases hlt : i < n
      · obtain ⟨k, hk⟩ : ∃ k, n - i = k + 1 := ⟨n - i - 1, by omega⟩
        rw [hk] at p2
        obtain ⟨hsz, p3⟩ := spst_if (show SPst B W g2 Z (if I.size st2 = some (i + (k + 1)) then pickS (I.at st2 i) fun d => match body d ρ2 st2 with
          | .nx ρ' st' => forLoop I body k (i + 1) ρ' st'
          | .ct ρ' st' => forLoop I body k (i + 1) ρ' st'
          | .bk ρ' st' => .nx ρ' st'
          | r => r else .stuck) from p2)
        obtain ⟨d, hd, p4⟩ := p3.pick
        obtain ⟨go, yl⟩ := it_go e2 (hJ.up l2) hsz (by omega) hd
        have hk' : n - (i + 1) = k := by omega
        refine .inr ⟨go, fun σ' H' => ∃ g3 ρ3 st3, ER B g3 H' σ' ρ3 st3 ∧ g1.le g3 ∧ SPst B W g3 Z (forLoop I body (n - (i + 1)) (i + 1) ρ3 st3), fun σ' H' ⟨g3, ρ3, st3, z1, z2, z3⟩ => ⟨n - (i + 1), by omega, g3, ρ3, st3, z1, z2, by omega, rfl, z3⟩, fun x H' y => ?_⟩
        obtain ⟨rfl, rx⟩ := yl x H' y
        have hb1 : body d ρ2 st2 = pickS (asgT t (.fz d) ρ2 st2) fun ρ => exs G b ρ st2 := by rw [← hbody]
        cases hasg : asgT t (.fz d) ρ2 st2 with
        | none =>
          rw [hb1, hasg] at p4
          exact p4.elim
        | some ρ3 =>
          rw [hb1, hasg] at p4
          rw [C.K]
          refine tg_ok e2 (v := .fz d) rx hasg fun σ3 e3 _ => ⟨g2, ρ3, st2, e3, ?_⟩
          have p5 : SPst B W g2 Z (match exs G b ρ3 st2 with
            | .nx ρ' st' => forLoop I body k (i + 1) ρ' st'
            | .ct ρ' st' => forLoop I body k (i + 1) ρ' st'
            | .bk ρ' st' => .nx ρ' st'
            | r => r) := p4
          rw [hk']
          cases q : exs G b ρ3 st2 with
          | nx ρ4 st4 => rw [q] at p5; exact fun g4 H4 σ4 l4 e4 => ⟨g4, ρ4, st4, e4, l2.trans l4, SPst.le p5 l4⟩
          | ct ρ4 st4 => rw [q] at p5; exact fun g4 H4 σ4 l4 e4 => ⟨g4, ρ4, st4, e4, l2.trans l4, SPst.le p5 l4⟩
          | bk ρ4 st4 => rw [q] at p5; exact p5
          | rt d4 st4 => rw [q] at p5; exact p5
          | rtl d4 st4 => rw [q] at p5; exact p5
          | exc x4 ρ4 st4 => rw [q] at p5; exact p5
          | stuck => rw [q] at p5; exact p5.elim
      · have hin' : i = n := by omega
        subst hin'
        rw [Nat.sub_self] at p2
        obtain ⟨hsz, p3⟩ := spst_if (show SPst B W g2 Z (if I.size st2 = some i then .nx ρ2 st2 else .stuck) from p2)
        exact .inl ⟨it_stop e2 (hJ.up l2) hsz, p3.nx e2⟩
  | _ => exact Bool.noConfusion (show false = true from h)

theorem whileN_up {c : Slots → Store → Res Val} {body : Slots → Store → SR} : ∀ {n : Nat} {ρ : Slots} {st : Store} {r : SR}, whileN c body n ρ st = some r → ∀ k, whileN c body (n + k) ρ st = some r
  | 0, _, _, _, h, _ => by cases h
  | n + 1, ρ, st, r, h, k => by
    have e : n + 1 + k = (n + k) + 1 := by omega
    rw [e]
    unfold whileN at h ⊢
    cases q : c ρ st with
    | stuck => rw [q] at h; exact h
    | exc x st1 => rw [q] at h; exact h
    | ok v st1 =>
      rw [q] at h
      cases v with
      | loc _ => exact h
      | exn _ => exact h
      | fz d =>
        cases d with
        | bl b =>
          cases b with
          | false => exact h
          | true =>
            simp only at h ⊢
            cases q2 : body ρ st1 with
            | nx ρ2 st2 => simp only [q2] at h ⊢; exact whileN_up h k
            | ct ρ2 st2 => simp only [q2] at h ⊢; exact whileN_up h k
            | bk ρ2 st2 => simp only [q2] at h ⊢; exact h
            | rt d st2 => simp only [q2] at h ⊢; exact h
            | rtl d st2 => simp only [q2] at h ⊢; exact h
            | exc x ρ2 st2 => simp only [q2] at h ⊢; exact h
            | stuck => simp only [q2] at h ⊢; exact h
        | _ => exact h
theorem whileS_eq {c : Slots → Store → Res Val} {body : Slots → Store → SR} {ρ : Slots} {st : Store} {n : Nat} {r : SR} (h : whileN c body n ρ st = some r) : whileS c body ρ st = r := by
  have hx : ∃ n r, whileN c body n ρ st = some r := ⟨n, r, h⟩
  unfold whileS
  rw [dif_pos hx]
  have h2 := (Classical.choose_spec hx).choose_spec
  generalize (Classical.choose_spec hx).choose = r2 at *
  generalize Classical.choose hx = n2 at *
  have a := whileN_up h n2
  have b := whileN_up h2 n
  rw [Nat.add_comm] at b
  rw [a] at b
  exact (Option.some.inj b).symm
theorem sok_whl (c : Ex) {b : Sts} (hb : OKSs T exc G b) : OKS T exc G (.whl c b) := by
  intro sc calm B X W C s h
  cases s with
  | While ec eb orelse pos =>
    cases orelse with
    | cons _ _ => exact Bool.noConfusion (show false = true from h)
    | nil =>
      obtain ⟨k1, q1⟩ := b2 (show (calm && (chk T sc calm c true ec && chkSs T exc sc calm b eb)) = true from h)
      obtain ⟨k2, k3⟩ := b2 q1
      refine ps_of (ps_while (C.po k1) ((ev_ok c C.toCxt ec).2 k2).1 (hb C eb k3)) fun Z σ H ⟨g, ρ, st, er, p⟩ => ?_
      have p' : SPst B W g Z (whileS (ev G c) (exs G b) ρ st) := p
      have hx : ∃ n r, whileN (ev G c) (exs G b) n ρ st = some r := by
        cases Classical.em (∃ n r, whileN (ev G c) (exs G b) n ρ st = some r) with
        | inl h => exact h
        | inr h =>
          unfold whileS at p'
          rw [dif_neg h] at p'
          exact p'.elim
      obtain ⟨n, r, hn⟩ := hx
      rw [whileS_eq hn] at p'
      refine ⟨fun m σ H => ∃ g ρ st r, ER B g H σ ρ st ∧ whileN (ev G c) (exs G b) m ρ st = some r ∧ SPst B W g Z r, ⟨n, g, ρ, st, r, er, hn, p'⟩, ?_⟩
      clear hn p' p er
      rintro m σ2 H2 ⟨g2, ρ2, st2, r2, e2, hm, p2⟩
      cases m with
      | zero => cases hm
      | succ m =>
        refine ⟨g2, ρ2, st2, e2, ?_⟩
        unfold whileN at hm
        cases q : ev G c ρ2 st2 with
        | stuck => rw [q] at hm; cases hm; exact p2
        | exc x st3 =>
          rw [q] at hm; cases hm
          exact fun g3 H3 cls dd e3 s3 xr => p2 g3 H3 _ cls dd s3.le e3 xr
        | ok v st3 =>
          rw [q] at hm
          intro g3 H3 e3 s3
          have bad : some SR.stuck = some r2 → False := fun z => by cases z; exact p2
          cases v with
          | loc _ => exact (bad hm).elim
          | exn _ => exact (bad hm).elim
          | fz d =>
            cases d with
            | bl bv =>
              refine ⟨bv, rfl, ?_⟩
              cases bv with
              | false =>
                have hm' : some (SR.nx ρ2 st3) = some r2 := hm
                cases hm'
                rw [if_neg (by decide)]
                exact (SPst.le p2 s3.le).nx e3
              | true =>
                rw [if_pos rfl]
                refine ⟨fun σ' H' => ∃ g ρ st r, ER B g H' σ' ρ st ∧ whileN (ev G c) (exs G b) m ρ st = some r ∧ SPst B W g Z r, fun σ' H' z => ⟨m, Nat.lt_succ_self m, z⟩, g3, ρ2, st3, e3, ?_⟩
                simp only at hm
                have p3 := SPst.le p2 s3.le
                cases q2 : exs G b ρ2 st3 with
                | nx ρ4 st4 => simp only [q2] at hm; exact fun g4 H4 σ4 l4 e4 => ⟨g4, ρ4, st4, r2, e4, hm, SPst.le p3 l4⟩
                | ct ρ4 st4 => simp only [q2] at hm; exact fun g4 H4 σ4 l4 e4 => ⟨g4, ρ4, st4, r2, e4, hm, SPst.le p3 l4⟩
                | bk ρ4 st4 => simp only [q2] at hm; cases hm; exact p3
                | rt d st4 => simp only [q2] at hm; cases hm; exact p3
                | rtl d st4 => simp only [q2] at hm; cases hm; exact p3
                | exc x ρ4 st4 => simp only [q2] at hm; cases hm; exact p3
                | stuck => simp only [q2] at hm; cases hm; exact p3.elim
            | _ => exact (bad hm).elim
  | _ => exact Bool.noConfusion (show false = true from h)
end
end PD

/-! PD16 -/
set_option Elab.async false
set_option linter.all false
set_option maxRecDepth 100000
set_option maxHeartbeats 4000000
/-! PD: several except clauses, some with a name. -/
namespace PD
open PySem PySem.Spec PyProof.Rows L2
/-! ### a tuple of classes -/
section
variable {M : Model} {K : PySem.W.Frag}
theorem forIn_pass {A : Around} {E : Value → Shared → Prop} {B : Value → PUnit → Sem (ForInStep PUnit)} {s : Shared} : ∀ (cs : List Value) {Q : PUnit → Shared → Prop}, (∀ c ∈ cs, ∀ Q' : ForInStep PUnit → Shared → Prop, Q' (.yield ⟨⟩) s → wpAny M A (B c ⟨⟩) Q' E s) → Q ⟨⟩ s → wpAny M A (forIn cs PUnit.unit B) Q E s
  | [], Q, _, q => by rw [List.forIn_nil]; exact wpAny_pure q
  | c :: cs, Q, hB, q => by
    rw [List.forIn_cons]
    refine wpAny_bind (hB c (List.mem_cons_self ..) _ ?_)
    exact forIn_pass cs (fun c' hc' => hB c' (List.mem_cons_of_mem _ hc')) q
theorem forIn_find {A : Around} {E : Value → Shared → Prop} {β : Type} {B : Value → (Option β × Unit) → Sem (ForInStep (Option β × Unit))} {s : Shared} {y : β} {cls : Value} : ∀ (cs : List Value) {b : Bool} {Q : (Option β × Unit) → Shared → Prop}, PySem.W.exmAny K cls cs = some b →
    (∀ c b1, PySem.W.exmOne K cls c = some b1 → ∀ Q' : ForInStep (Option β × Unit) → Shared → Prop, Q' (if b1 then .done (some y, ()) else .yield (none, ())) s → wpAny M A (B c (none, ())) Q' E s) → Q (if b then (some y, ()) else (none, ())) s → wpAny M A (forIn cs ((none, ()) : (Option β × Unit)) B) Q E s
  | [], b, Q, h, _, q => by
    cases h
    rw [List.forIn_nil]
    exact wpAny_pure q
  | c :: cs, b, Q, h, hB, q => by
    obtain ⟨b1, d1, h1, h2, rfl⟩ := PySem.W.exmAny_cons h
    rw [List.forIn_cons]
    refine wpAny_bind (hB c b1 h1 _ ?_)
    cases b1 with
    | true => exact wpAny_pure q
    | false => exact forIn_find cs h2 hB q
theorem exmAny_mem {cls : Value} : ∀ {cs : List Value} {b : Bool}, PySem.W.exmAny K cls cs = some b → ∀ c ∈ cs, ∃ b1, PySem.W.exmOne K cls c = some b1
  | c :: cs, b, h, x, hx => by
    obtain ⟨b1, d1, h1, h2, rfl⟩ := PySem.W.exmAny_cons h
    rcases List.mem_cons.mp hx with rfl | hx
    · exact ⟨b1, h1⟩
    · exact exmAny_mem h2 x hx
/-- an exception meets a tuple of classes -/
theorem exm_tupN {cs : List Value} {cls : Value} {tp e : Addr} {b : Bool} {h : Heap} (X : K.In h) (LT : PySem.W.Looks M h (typeOf (.ref e)) cls) (hp : h.get? tp = some { cls := .type "tuple", data := .seq cs.toArray }) (hx : PySem.W.exmAny K cls cs = some b) :
    PySem.W.Looks M h (excMatches (.ref e) (.ref tp)) b := by
  intro A Q E s k₀ q
  obtain ⟨hh, g, d, tk, os⟩ := s
  have k : ∀ b o, h.get? b = some o → hh.get? b = some o := k₀
  have LT0 : PySem.W.Looks M h (isInstance (.ref tp) (.type "tuple")) true := ((PySem.W.Looks.ld hp).andThen .now).andThen (PySem.W.Looks.of_pure isSubtype_tuple_tuple)
  have LT := LT.keeps k
  have LT0 := LT0.keeps k
  have hp' := k _ _ hp
  unfold excMatches
  refine wpAny_bind (LT0.at ?_)
  dsimp only
  rw [if_pos rfl]
  first
    | refine wpAny_bind (wpAny_seqItems hp' rfl ?_)
    | refine wpAny_bind (wpAny_bind (wpAny_seqItems hp' rfl (wpAny_pure ?_)))
  dsimp only [Option.getD_some, Option.getD]
  try refine wpAny_bind (wpAny_pure ?_)
  refine wpAny_bind (forIn_pass _ (fun c hc Q' q' => ?_) ?_)
  · obtain ⟨b1, h1⟩ := exmAny_mem hx c (by simpa using hc)
    obtain ⟨e1, _⟩ := PySem.W.exm_cls (M := M) X h1
    have e1 := e1.keeps k
    refine wpAny_bind (e1.at ?_)
    simp only [Bool.not_true, Bool.false_eq_true, if_false]
    first
      | exact wpAny_pure q'
      | exact wpAny_bind (wpAny_pure (wpAny_pure q'))
  refine wpAny_bind (LT.at ?_)
  refine wpAny_bind (forIn_find (K := K) (cls := cls) (y := true) _ hx (fun c b1 h1 Q' q' => ?_) ?_)
  · obtain ⟨_, S1⟩ := PySem.W.exm_cls (M := M) X h1
    have S1 := S1.keeps k
    refine wpAny_bind (S1.at ?_)
    cases b1 <;> (simp only [Bool.false_eq_true, if_false, if_true] at q' ⊢; first | exact wpAny_pure q' | exact wpAny_bind (wpAny_pure (wpAny_pure q')))
  cases b <;> exact wpAny_pure q
end
abbrev ClT := List Value × (Option Nat × (Addr → Value → Option Addr → TS))
def wMix (K : PySem.W.Frag) (Wout : WX) (D : Ends) : List ClT → WX
  | [] => Wout
  | (c, none, ts) :: r => fun cls d σ H => ∃ b, PySem.W.exmAny K cls c = some b ∧ (b = true → ∀ a, H a = none → ts a cls d D σ H) ∧ (b = false → wMix K Wout D r cls d σ H)
  | (c, some i, ts) :: r => fun cls d σ H => ∃ b, PySem.W.exmAny K cls c = some b ∧ (b = true → ∀ a, H a = none → ts a cls d { nx := fun σ' H' => D.nx (σ'.set i none) H', rt := D.rt, bk := fun σ' H' => D.bk (σ'.set i none) H', ct := fun σ' H' => D.ct (σ'.set i none) H' } (σ.set i (some (.ref a))) H) ∧ (b = false → wMix K Wout D r cls d σ H)
abbrev SuOk (X : Cx) (suite : List Stmt) (ts : Addr → Value → Option Addr → TS) : Prop := ∀ (a : Addr) (oe : Obj) (cls : Value) (d : Option Addr) (pn : List (Addr × Obj)), Zc cls d oe → (∃ vs, oe.data = .fields vs) → PSs (X.suite a ((a, oe) :: pn)) suite (ts a cls d)
/-- names of classes, a clause's test -/
inductive NamesL (X : Cx) : List Expr → List Value → Prop
  | nil : NamesL X [] []
  | cons {x : Str} {c : Value} {np : Pos} {es : List Expr} {cs : List Value} : Names X x c → NamesL X es cs → NamesL X (.Name x np :: es) (c :: cs)
theorem NamesL.suite {X : Cx} {a : Addr} {pn : List (Addr × Obj)} : ∀ {es : List Expr} {cs : List Value}, NamesL X es cs → NamesL (X.suite a pn) es cs
  | _, _, .nil => .nil
  | _, _, .cons h r => .cons h r.suite
inductive TestOf (X : Cx) : Expr → List Value → Prop
  | one {x : Str} {c : Value} {np : Pos} : Names X x c → TestOf X (.Name x np) [c]
  | tup {es : List Expr} {cs : List Value} {x1} {pos : Pos} : NamesL X es cs → cs.length ≤ sizeLine → TestOf X (.Tuple es x1 pos) cs
inductive HdsMix (X : Cx) : List ExceptHandler → List ClT → Prop
  | nil : HdsMix X [] []
  | cons {t : Expr} {c : List Value} {ts : Addr → Value → Option Addr → TS} {b₀ : Stmt} {suite : List Stmt} {pos' : Pos} {hds : List ExceptHandler} {l : List ClT} (hc : TestOf X t c)
      (hsu : SuOk X (b₀ :: suite) ts) (r : HdsMix X hds l) :
      HdsMix X (.ExceptHandler (some t) none (b₀ :: suite) pos' :: hds) ((c, none, ts) :: l)
  | consA {t : Expr} {n : Str} {i : Nat} {c : List Value} {ts : Addr → Value → Option Addr → TS} {b₀ : Stmt} {suite : List Stmt} {pos' : Pos} {hds : List ExceptHandler} {l : List ClT} (hc : TestOf X t c)
      (hi : X.N[i]? = some n) (hln : X.env.kindOf n = some .local) (hsu : SuOk X (b₀ :: suite) ts) (r : HdsMix X hds l) :
      HdsMix X (.ExceptHandler (some t) (some n) (b₀ :: suite) pos' :: hds) ((c, some i, ts) :: l)
theorem exmAny_one {K : PySem.W.Frag} {cls c : Value} {b : Bool} (h : PySem.W.exmAny K cls [c] = some b) : PySem.W.exmOne K cls c = some b := by
  obtain ⟨b1, d1, h1, h2, rfl⟩ := PySem.W.exmAny_cons h
  cases h2
  rw [Bool.or_false]
  exact h1
/-- the names are read one behind another, and nothing is changed -/
theorem namesL_run {X : Cx} {pins : List (Addr × Obj)} {σ : L2.St} {H : Hp} {s : Shared} (I : Inv X pins σ H s) {pos : Pos} {E : Value → Shared → Prop} : ∀ {es : List Expr} {cs : List Value}, NamesL X es cs → ∀ {Q : List Value → Shared → Prop}, Q cs s → wpAny (model X.prog X.w) X.A (spliced (backTo pos (starEach es X.env))) Q E s
  | _, _, .nil, Q, q => Calls.spliced_nil q
  | _, _, .cons (x := x) (c := c) (np := np) (es := es) (cs := cs) hc r, Q, q => by
    have hs : starEach (.Name x np :: es) X.env = (false, eval (.Name x np) X.env) :: starEach es X.env := by rfl
    rw [hs]
    show wpAny _ _ (spliced ((false, eval (.Name x np) X.env) :: backTo pos (starEach es X.env))) _ _ s
    refine Calls.spliced_cons ?_
    have rest : wpAny (model X.prog X.w) X.A (spliced (backTo pos (starEach es X.env))) (fun vs s₂ => Q (c :: vs) s₂) E s := namesL_run I r q
    obtain ⟨hg, hdbg, hm | ⟨hm, hv, hnn⟩⟩ := hc
    · exact ld_glob I hg hm rest hdbg
    · exact ld_blt I hg hm hv rest hnn hdbg
section
variable {X : Cx} {body : List Stmt} {h₀ : ExceptHandler} {hds : List ExceptHandler} {l : List ClT} {pos : Pos} {tb : WX → TS} {Wout : WX}
theorem ps_try_mix (hs : X.stack = X.env :: X.outer) (hf : X.env.frame = some X.env.locals) (hN : X.N.Nodup) (tk : Takes X Wout)
    (hb : ∀ (W : WX) (pn : List (Addr × Obj)) (xe : Value → Shared → Prop), Takes (X.tr pn xe) W → PassesOwn (model X.prog X.w) X.A X.env xe → PSs (X.tr pn xe) body (tb W))
    (hh : HdsMix X (h₀ :: hds) l) : PS X (.Try body (h₀ :: hds) [] [] pos) (fun D σ H => tb (wMix X.K Wout D l) D σ H) := by
  refine ⟨fun pins s σ H D I h => ?_⟩
  have ok := I.ok
  have hfr : X.A.frames = some (X.env :: X.outer) := by rw [ok.frames, hs]
  refine wpAny_Try_except ?_
  refine wpAny_mono ((hb (wMix X.K Wout D l) (X.pn ++ pins) (fun e s₁ => wpAny (model X.prog X.w) X.A (noteFrame e X.env) (fun _ s₂ => wpAny (model X.prog X.w) X.A (setFlight e none) (fun _ s₃ =>
    wpAny (model X.prog X.w) X.A (handleBy e X.env (h₀ :: hds)) (SP X pins D) X.xe s₃) X.xe s₂) X.xe s₁) (fun u s' xx => ?_) PassesOwn.looking).run [] s σ H D (I.toTry _) h) (fun f s1 hsp => ?_) (fun e s1 he => he)
  · obtain ⟨a, B, sI, pins', σ', H', cls, d, rfl, J', nb, up, sky, na, os, ag, w⟩ := xx
    have J : Inv X pins σ' H' sI := J'.ofTry ok
    have sky' : Sky B (X.env :: X.outer) a (Zc cls d) X.env.locals s'.heap := by rw [← hs]; exact sky
    show wpAny (model X.prog X.w) X.A (noteFrame (.ref a) X.env) _ _ _
    refine Sky.land Zc.steady hfr hf sky' fun h3 fl3 up3 => ?_
    have up3 := up.trans up3
    clear sky sky'
    have notFr : ∀ {h : Heap} {o : Obj} {vs : Array Value}, h.FunFrames B (X.env :: X.outer) → h.get? a = some o → o.data = .fields vs → a ∉ L2.frs (X.env :: X.outer) := fun {h o vs} ff e dd hm => by
      obtain ⟨_, o', e', hnf⟩ := ff.mem hm
      rw [e] at e'; cases e'
      exact hnf _ dd
    -- what holds at every heap of the clauses
    have at_ : ∀ h : Heap, HandSPX.FlyingZ B (X.env :: X.outer) a (Zc cls d) h → sI.heap.UpToSlots h → Inv X pins σ' H' { s' with heap := h } ∧ a ≠ X.env.locals ∧ a ∉ X.fs ∧
        PySem.W.Looks (model X.prog X.w) h (typeOf (.ref a)) cls ∧ ∃ oe vs, h.get? a = some oe ∧ Zc cls d oe ∧ oe.data = .fields vs ∧ Inv (X.suite a ((a, oe) :: (X.pn ++ pins))) [] σ' H' { s' with heap := h } := fun h fl u => by
      have J3 : Inv X pins σ' H' { s' with heap := h } := J.landed nb fl.1 u os ag
      obtain ⟨oe3, vs3, he3, hz3, hd3⟩ := fl.there
      have nfr := notFr fl.2.2.1 he3 hd3
      have nL : a ≠ X.env.locals := fun z => nfr (List.mem_filterMap.mpr ⟨X.env, List.mem_cons_self, by rw [hf, z]⟩)
      have nF : a ∉ X.fs := fun hm => by
        obtain ⟨e, he, q⟩ := List.mem_filterMap.mp hm
        exact nfr (List.mem_filterMap.mpr ⟨e, List.mem_cons_of_mem _ he, q⟩)
      exact ⟨J3, nL, nF, fun A Q E s k q => wpAny_typeOf_ref (k _ _ he3) (by rw [hz3.1]; exact q), oe3, vs3, he3, hz3, hd3, J3.suite he3 hd3 na nL nF⟩
    have flKeep : ∀ {h h' : Heap}, (∀ b o, h.get? b = some o → h'.get? b = some o) → HandSPX.FlyingZ B (X.env :: X.outer) a (Zc cls d) h → HandSPX.FlyingZ B (X.env :: X.outer) a (Zc cls d) h' := fun {h h'} k fl => by
      obtain ⟨f1, f2, f3, oe, vs, T, oT, ts, g1, g2, g3, g4, g5, g6, g7, g8, g9⟩ := fl
      exact ⟨fun b o e => k b o (f1 b o e), f2, f3.of_keeps fun b o e _ => ⟨o, k b o e, rfl⟩, oe, vs, T, oT, ts, k _ _ g1, g2, g3, g4, g5, g6, k _ _ g7, g8, g9⟩
    have test : ∀ {t : Expr} {cs : List Value} {bv : Bool} {pos' : Pos} {R : Except Value Flow → Shared → Prop}, TestOf X t cs → PySem.W.exmAny X.K cls cs = some bv → ∀ h : Heap, HandSPX.FlyingZ B (X.env :: X.outer) a (Zc cls d) h → sI.heap.UpToSlots h →
        (∀ h' : Heap, HandSPX.FlyingZ B (X.env :: X.outer) a (Zc cls d) h' → sI.heap.UpToSlots h' → R (.ok (if bv then .brk else .next)) { s' with heap := h' }) →
        codeAny (model X.prog X.w) (X.A.mark (some (.ref a))) (.handlers (.ref a) [.ExceptHandler (some t) none [] pos'] X.env) R { s' with heap := h } := fun {t cs bv pos' R} hc hb h fl u q => by
      obtain ⟨J3, nL, nF, LT, oe3, vs3, he3, hz3, hd3, S3⟩ := at_ h fl u
      refine codeAny_handlers_test ?_
      cases hc with
      | @one x c np hc =>
        have LM := PySem.W.exm_one (M := model X.prog X.w) (J3.kIn) LT (exmAny_one hb)
        have fin : wpAny (model X.prog X.w) (X.A.mark (some (.ref a))) (excMatches (.ref a) c) (fun b s₂ => R (.ok (if b then .brk else .next)) s₂) (notedBy (model X.prog X.w) (X.A.mark (some (.ref a))) X.env fun x s₂ => R (.error x) s₂) { s' with heap := h } := LM.here (q h fl u)
        obtain ⟨hg, hdbg, hm | ⟨hm, hv, hnn⟩⟩ := hc
        · exact ld_glob (X := X.suite a ((a, oe3) :: (X.pn ++ pins))) S3 hg hm fin hdbg
        · exact ld_blt (X := X.suite a ((a, oe3) :: (X.pn ++ pins))) S3 hg hm hv fin hnn hdbg
      | @tup es cs x1 ps hn hlen =>
        have kp : ∀ b o, h.get? b = some o → (h.push { cls := .type "tuple", data := .seq cs.toArray }).get? b = some o := fun b o e => Heap.get?_push_of_some _ e
        have fl' := flKeep kp fl
        have u' := u.trans (Heap.UpToSlots.of_keeps kp)
        obtain ⟨J4, _, _, LT4, _⟩ := at_ _ fl' u'
        have LM := exm_tupN (M := model X.prog X.w) (J4.kIn) LT4 (tp := h.objs.size) (Heap.get?_push_size _ rfl) hb
        refine wpAny_Tuple_spliced ?_
        have hn' : NamesL (X.suite a ((a, oe3) :: (X.pn ++ pins))) es cs := hn.suite
        refine namesL_run (X := X.suite a ((a, oe3) :: (X.pn ++ pins))) S3 hn' ⟨hlen, ?_⟩
        exact LM.here (q _ fl' u')
    have go : ∀ {hds' : List ExceptHandler} {l' : List ClT}, HdsMix X hds' l' → wMix X.K Wout D l' cls d σ' H' → ∀ h3 : Heap, HandSPX.FlyingZ B (X.env :: X.outer) a (Zc cls d) h3 → sI.heap.UpToSlots h3 →
        wpAny (model X.prog X.w) X.A (handleBy (.ref a) X.env hds') (SP X pins D) X.xe { s' with heap := h3 } := by
      intro hds' l' hk
      induction hk with
      | nil =>
        intro w h3 fl3 up3
        refine wpAny_handleBy_nil ?_
        obtain ⟨k1, k2, k3, oe, vs, T, oT, ts', he, hz, hd, h1, hr⟩ := id fl3
        unfold PySem.passOn
        refine wpAny_bind (wpAny_field he hd h1 ?_)
        rw [if_neg (show ¬ ((Value.ref T == Value.none) = true) from by simp)]
        have fin : wpAny (model X.prog X.w) X.A (setFlight (.ref a) X.env.frame) (fun _ s4 => wpAny (model X.prog X.w) X.A (throw (.ref a) : Sem Flow) (SP X pins D) X.xe s4) X.xe { s' with heap := h3 } := by
          rw [hf]
          refine HandSPX.setFlight_upZ fl3 fun h4 hh4 up4 => wpAny_throw (tk _ _ ?_)
          exact ⟨a, B, sI, pins, σ', H', cls, d, rfl, J, nb, up3.trans up4, .inr (.inr (by rw [hs]; exact hh4)), na, os, ag, w⟩
        first
          | exact wpAny_bind (wpAny_pure (wpAny_bind fin))
          | exact wpAny_bind fin
      | @cons t c ts b₀ suite pos' hds2 l2 hc hsu r ih =>
        intro w h3 fl3 up3
        obtain ⟨b, hb1, hyes, hno⟩ := w
        obtain ⟨_, nL, nF, _⟩ := at_ h3 fl3 up3
        refine wpAny_handleBy_cons (test hc hb1 h3 fl3 up3 fun h3 fl3 up3 => ?_) (by intro q; cases q)
        cases b with
        | true =>
          refine codeAny_handlers_suite ?_
          refine HandSPX.lands_againZ fl3 fun h4 fl4 up4 => ?_
          have J4 : Inv X pins σ' H' { s' with heap := h4 } := J.landed nb fl4.1 (up3.trans up4) os ag
          obtain ⟨oe4, vs4, he4, hz4, hd4⟩ := fl4.there
          have S4 := J4.suite he4 hd4 na nL nF
          refine wpAny_mono ((hsu a oe4 cls d (X.pn ++ pins) hz4 ⟨_, hd4⟩).run [] _ _ H' _ S4 (hyes rfl a na)) (fun f s6 hsp => ?_) (fun _ _ z => False.elim z)
          cases f with
          | next =>
            obtain ⟨σ6, H6, S6, q6⟩ := hsp
            exact ⟨_, _, S6.unsuite ok, q6⟩
          | brk =>
            obtain ⟨σ6, H6, S6, q6⟩ := hsp
            exact ⟨_, _, S6.unsuite ok, q6⟩
          | cont =>
            obtain ⟨σ6, H6, S6, q6⟩ := hsp
            exact ⟨_, _, S6.unsuite ok, q6⟩
          | ret u =>
            obtain ⟨v6, σ6, H6, S6, r6, q6⟩ := hsp
            exact ⟨_, _, _, S6.unsuite ok, r6, q6⟩
        | false =>
          show wpAny _ X.A (handleBy (.ref a) X.env hds2) _ _ _
          exact ih (hno rfl) h3 fl3 up3
      | @consA t n i c ts b₀ suite pos' hds2 l2 hc hi hln hsu r ih =>
        intro w h3 fl3 up3
        obtain ⟨b, hb1, hyes, hno⟩ := w
        have hloc : Loc X.env.scope n := .inl hln
        obtain ⟨_, nL, nF, _⟩ := at_ h3 fl3 up3
        refine wpAny_handleBy_cons (test hc hb1 h3 fl3 up3 fun h3 fl3 up3 => ?_) (by intro q; cases q)
        cases b with
        | true =>
          refine codeAny_handlers_suite_as ?_
          refine HandSPX.lands_againZ fl3 fun h4 fl4 up4 => ?_
          have J4 : Inv X pins σ' H' { s' with heap := h4 } := J.landed nb fl4.1 (up3.trans up4) os ag
          obtain ⟨oe4, vs4, he4, hz4, hd4⟩ := fl4.there
          have S4 := J4.suite he4 hd4 na nL nF
          refine store_ok (X := X.suite a ((a, oe4) :: (X.pn ++ pins))) (v := .ref a) S4 hN hi hloc rfl (fun s5 S5 => ?_) (.inr hln)
          refine wpAny_mono ((hsu a oe4 cls d (X.pn ++ pins) hz4 ⟨_, hd4⟩).run [] s5 _ H' _ S5 (hyes rfl a na)) (fun f s6 hsp => ?_) (fun _ _ z => False.elim z)
          have end_ : ∀ {σ6 : L2.St} {H6 : Hp} {Q : Shared → Prop}, Inv (X.suite a ((a, oe4) :: (X.pn ++ pins))) [] σ6 H6 s6 → (∀ s7, Inv X pins (σ6.set i none) H6 s7 → Q s7) →
              wpAny (model X.prog X.w) X.A (do bindName X.env n .none; unbindBehindTheSuite X.env n pos') (fun _ s7 => Q s7) X.xe s6 := fun {σ6 H6 Q} S6 hq => gone_ok (S6.unsuite ok) hN hi hln hq
          cases f with
          | next =>
            obtain ⟨σ6, H6, S6, q6⟩ := hsp
            exact end_ S6 fun s7 J7 => ⟨_, _, J7, q6⟩
          | brk =>
            obtain ⟨σ6, H6, S6, q6⟩ := hsp
            exact end_ S6 fun s7 J7 => ⟨_, _, J7, q6⟩
          | cont =>
            obtain ⟨σ6, H6, S6, q6⟩ := hsp
            exact end_ S6 fun s7 J7 => ⟨_, _, J7, q6⟩
          | ret u =>
            obtain ⟨v6, σ6, H6, S6, r6, q6⟩ := hsp
            exact end_ S6 fun s7 J7 => ⟨_, _, _, J7, r6, q6⟩
        | false =>
          show wpAny _ X.A (handleBy (.ref a) X.env hds2) _ _ _
          exact ih (hno rfl) h3 fl3 up3
    exact go hh w h3 fl3 up3
  · cases f with
    | next =>
      obtain ⟨σ', H', J', q⟩ := hsp
      exact wpAny_execs_nil ⟨σ', H', J'.ofTry ok, q⟩
    | brk =>
      obtain ⟨σ', H', J', q⟩ := hsp
      exact ⟨σ', H', J'.ofTry ok, q⟩
    | cont =>
      obtain ⟨σ', H', J', q⟩ := hsp
      exact ⟨σ', H', J'.ofTry ok, q⟩
    | ret u =>
      obtain ⟨v, σ', H', J', r, q⟩ := hsp
      exact ⟨v, σ', H', J'.ofTry ok, r, q⟩
end
end PD

/-! PD17 -/
set_option Elab.async false
set_option linter.all false
set_option maxRecDepth 100000
set_option maxHeartbeats 4000000
/-! PD: try. -/
namespace PD
open PySem PySem.Spec PyProof.Rows L2
abbrev Bs.exd (B : Bs) (x : ExH) : Bs := { B with ex := x }
section
variable {B : Bs} {W : WX} {g : Gh} {H : Hp} {σ : L2.St} {ρ : Slots} {st : Store}
theorem ER.exd {x : ExH} (e : ER B g H σ ρ st) (h : ∀ (i : Nat) (o : Option V) (v : Option Val), σ[i]? = some o → ρ[i]? = some v → SlotR B.R x g o v) : ER (B.exd x) g H σ ρ st :=
  ⟨e.same0, e.le, e.fresh, e.keep, e.lkd, e.len, e.nodup, e.io, e.iolive, e.own, e.there, e.conts, e.slen, h⟩
theorem ER.unexd {x : ExH} (e : ER (B.exd x) g H σ ρ st) (h : ∀ (i : Nat) (o : Option V) (v : Option Val), σ[i]? = some o → ρ[i]? = some v → SlotR B.R B.ex g o v) : ER B g H σ ρ st :=
  ⟨e.same0, e.le, e.fresh, e.keep, e.lkd, e.len, e.nodup, e.io, e.iolive, e.own, e.there, e.conts, e.slen, h⟩
theorem slot_up {R : RC} {x : ExH} {g : Gh} {o : Option V} {v : Option Val} (h : SlotR R none g o v) : SlotR R x g o v := by
  cases v with
  | none => trivial
  | some v =>
    obtain ⟨y, e, r⟩ := h
    refine ⟨y, e, ?_⟩
    cases v with
    | fz d => exact r
    | loc n => exact r
    | exn q =>
      obtain ⟨_, _, _, z, _⟩ := r
      cases z
theorem noExn_at : ∀ {ρ : Slots} {i : Nat} {q : XD}, noExn ρ = true → ρ[i]? ≠ some (some (.exn q))
  | [], i, q, _, h => by simp at h
  | o :: ρ, 0, q, h, e => by
    have e' : o = some (.exn q) := by simpa using e
    subst e'
    cases h
  | o :: ρ, i + 1, q, h, e => by
    have h' : noExn ρ = true := by
      cases o with
      | none => exact h
      | some v => cases v <;> first | exact h | cases h
    exact noExn_at h' (by simpa using e)
theorem slot_down {R : RC} {x y : ExH} {g : Gh} {o : Option V} {v : Option Val} (h : SlotR R x g o v) (n : ∀ q, v ≠ some (.exn q)) : SlotR R y g o v := by
  cases v with
  | none => trivial
  | some v =>
    obtain ⟨z, e, r⟩ := h
    refine ⟨z, e, ?_⟩
    cases v with
    | fz d => exact r
    | loc n => exact r
    | exn q => exact absurd rfl (n q)
theorem ER.leave {x : ExH} {as_ : Option Nat} (e : ER (B.exd x) g H σ ρ st) (h : noExn (goneH as_ ρ) = true) : ER B g H (match as_ with | none => σ | some i => σ.set i none) (goneH as_ ρ) st := by
  cases as_ with
  | none => exact e.unexd fun i o v h1 h2 => slot_down (e.slots i o v h1 h2) fun q z => noExn_at (ρ := ρ) (i := i) (q := q) h (by rw [h2, z])
  | some i =>
    have e2 : ER (B.exd x) g H (σ.set i none) (ρ.set i none) st := e.slot (by rw [List.length_set, List.length_set]; exact e.slen) fun j o w h1 h2 => by
      rcases setAt h1 with ⟨n1, q1⟩ | ⟨n1, q1⟩
      · rcases setAt h2 with ⟨_, q2⟩ | ⟨n2, _⟩
        · exact e.slots j o w q1 q2
        · exact absurd n2 n1
      · rcases setAt h2 with ⟨n2, _⟩ | ⟨_, q2⟩
        · exact absurd n1 n2
        · rw [← q2]; trivial
    exact e2.unexd fun j o v h1 h2 => slot_down (e2.slots j o v h1 h2) fun q z => noExn_at (ρ := ρ.set i none) (i := j) (q := q) h (by rw [h2, z])
theorem ER.blank {x : ExH} (e : ER (B.exd x) g H σ ρ st) : ER B g H σ (List.replicate ρ.length none) st :=
  ⟨e.same0, e.le, e.fresh, e.keep, e.lkd, e.len, e.nodup, e.io, e.iolive, e.own, e.there, e.conts, by rw [List.length_replicate]; exact e.slen, fun i o v h1 h2 => by
    have : v = none := by
      rw [List.getElem?_replicate] at h2
      split at h2
      · cases h2; rfl
      · cases h2
    rw [this]; trivial⟩
end
abbrev endsH (as_ : Option Nat) (D : Ends) : Ends := match as_ with
  | none => D
  | some i => { nx := fun σ' H' => D.nx (σ'.set i none) H', rt := D.rt, bk := fun σ' H' => D.bk (σ'.set i none) H', ct := fun σ' H' => D.ct (σ'.set i none) H' }
/-- the suite's end -/
theorem suite_end {B : Bs} {W : WX} {g : Gh} {Z : Ends} {x : ExH} {as_ : Option Nat} {r : SR} (h : SPst B W g Z (endH as_ r)) : SPst (B.exd x) (fun _ _ _ _ => False) g (endsH as_ Z) r := by
  cases r with
  | nx ρ st =>
    obtain ⟨hn, p⟩ := spst_if (show SPst B W g Z (if noExn (goneH as_ ρ) = true then .nx (goneH as_ ρ) st else .stuck) from h)
    intro g' H σ l e
    have e2 := e.leave hn
    cases as_ with
    | none => exact p g' H _ l e2
    | some i => exact p g' H _ l e2
  | bk ρ st =>
    obtain ⟨hn, p⟩ := spst_if (show SPst B W g Z (if noExn (goneH as_ ρ) = true then .bk (goneH as_ ρ) st else .stuck) from h)
    intro g' H σ l e
    have e2 := e.leave hn
    cases as_ with
    | none => exact p g' H _ l e2
    | some i => exact p g' H _ l e2
  | ct ρ st =>
    obtain ⟨hn, p⟩ := spst_if (show SPst B W g Z (if noExn (goneH as_ ρ) = true then .ct (goneH as_ ρ) st else .stuck) from h)
    intro g' H σ l e
    have e2 := e.leave hn
    cases as_ with
    | none => exact p g' H _ l e2
    | some i => exact p g' H _ l e2
  | rt d st =>
    intro g' H σ ρ y l e rep
    have p := (show SPst B W g Z (.rt d st) from h) g' H σ _ y l e.blank rep
    cases as_ with
    | none => exact p
    | some i => exact p
  | rtl ds st =>
    intro g' H σ ρ a xs l e f1 f2 f3 rep
    have p := (show SPst B W g Z (.rtl ds st) from h) g' H σ _ a xs l e.blank f1 f2 f3 rep
    cases as_ with
    | none => exact p
    | some i => exact p
  | exc y ρ st => exact h.elim
  | stuck => exact h.elim
section
variable {T : Tab} {exc : List Str} {G : Gam}
theorem CxtS.tr {sc : Scope} {calm : Bool} {B : Bs} {X : Cx} {W W' : WX} (C : CxtS T exc sc calm G B X W) (hc : calm = true) {pn : List (Addr × Obj)} {xe : Value → Shared → Prop} (tk : Takes (X.tr pn xe) W') (po : PassesOwn (model X.prog X.w) X.A X.env xe) : CxtS T exc sc calm G B (X.tr pn xe) W' :=
  ⟨⟨C.K, C.mg, C.N, C.fn, C.sc, C.nd, (fun z => by rw [hc] at z; cases z), C.calm, C.units, tk, C.io, C.con, C.fns, C.free, C.exn, C.exm, C.xf, C.gcd, C.exv⟩, fun _ => po, C.bk, C.stk, C.raf, C.exc_⟩
theorem CxtS.suite {sc : Scope} {calm : Bool} {B : Bs} {X : Cx} {W : WX} (C : CxtS T exc sc calm G B X W) {a : Addr} {oe : Obj} {cls : Value} {d : Option Addr} {pn : List (Addr × Obj)} (hz : Zc cls d oe) (hf : ∃ vs, oe.data = .fields vs) :
    CxtS T exc sc false G (B.exd (some (a, cls, d))) (X.suite a ((a, oe) :: pn)) (fun _ _ _ _ => False) :=
  ⟨⟨C.K, C.mg, C.N, C.fn, C.sc, C.nd, (fun _ a' cls' d' e => by cases e; exact ⟨oe, hz, hf, List.mem_cons_self⟩), (fun z => by cases z), C.units, takes0, C.io, C.con, C.fns, C.free, C.exn, C.exm, C.xf, C.gcd, C.exv⟩, (fun z => by cases z), C.bk, (fun z => by cases z), C.raf, C.exc_⟩
def OKH (T : Tab) (exc : List Str) (G : Gam) (hs : Hds) : Prop := ∀ {sc : Scope} {B : Bs} {X : Cx} {W : WX}, CxtS T exc sc true G B X W → ∀ ehs : List ExceptHandler, chkHs T exc sc hs ehs = true →
  ∃ l, HdsMix X ehs l ∧ ∀ (x : XD) (ρ : Slots) (st : Store) (g : Gh) (Z : Ends), SPst B W g Z (exh G hs x ρ st) → ∀ g' H σ cls dd, g.le g' → ER B g' H σ ρ st → XR B.R g'.F x cls dd → wMix X.K W Z l cls dd σ H
theorem sok_hnil : OKH T exc G .nil := by
  intro sc B X W C ehs h
  cases ehs with
  | cons _ _ => exact Bool.noConfusion (show false = true from h)
  | nil => exact ⟨[], .nil, fun x ρ st g Z p g' H σ cls dd l e xr => (show SPst B W g Z (.exc x ρ st) from p) g' H σ cls dd l e xr⟩
/-- a clause's test -/
theorem clsX1_ok {sc : Scope} {B : Bs} {X : Cx} {W : WX} {calm : Bool} (C : CxtS T exc sc calm G B X W) {c : Str} {te : Expr} (k1 : clsB T sc c te = true) :
    ∃ (A : Addr) (p : Pos), te = .Name c p ∧ X.mg c = some (.ref A) ∧ Names X c (.ref A) := by
  have bad : ∀ {p : Prop}, (false = true) → p := fun z => Bool.noConfusion z
  cases te <;> first
    | exact bad k1
    | skip
  rename_i x p
  obtain ⟨j1, j2⟩ := b2 k1
  obtain ⟨j2, j3⟩ := b2 j2
  obtain ⟨j3, j4⟩ := b2 j3
  have hx : c = x := of_decide_eq_true j1
  subst hx
  obtain ⟨A, hA⟩ := C.exn c (List.contains_iff_mem.mp j2)
  obtain ⟨n1, _, _, _⟩ := seen_ok j4
  exact ⟨A, p, rfl, hA, C.glob j3, n1, .inl hA⟩
/-- what the classes' addresses say -/
inductive AddrsOf (X : Cx) : List Str → List Value → Prop
  | nil : AddrsOf X [] []
  | cons {c : Str} {cs : List Str} {A : Addr} {vs : List Value} : X.mg c = some (.ref A) → AddrsOf X cs vs → AddrsOf X (c :: cs) (.ref A :: vs)
theorem AddrsOf.length {X : Cx} : ∀ {cs : List Str} {vs : List Value}, AddrsOf X cs vs → vs.length = cs.length
  | _, _, .nil => rfl
  | _, _, .cons _ r => congrArg Nat.succ r.length
theorem clssX_ok {sc : Scope} {B : Bs} {X : Cx} {W : WX} {calm : Bool} (C : CxtS T exc sc calm G B X W) : ∀ {cs : List Str} {es : List Expr}, clssB T sc cs es = true → ∃ vs, NamesL X es vs ∧ AddrsOf X cs vs
  | [], [], _ => ⟨[], .nil, .nil⟩
  | [], _ :: _, h => Bool.noConfusion (show false = true from h)
  | _ :: _, [], h => Bool.noConfusion (show false = true from h)
  | c :: cs, e :: es, h => by
    obtain ⟨h1, h2⟩ := b2 (show (clsB T sc c e && clssB T sc cs es) = true from h)
    obtain ⟨A, p, rfl, hA, hn⟩ := clsX1_ok C h1
    obtain ⟨vs, n2, a2⟩ := clssX_ok C h2
    exact ⟨_, .cons hn n2, .cons hA a2⟩
theorem tst_ok {sc : Scope} {B : Bs} {X : Cx} {W : WX} {calm : Bool} (C : CxtS T exc sc calm G B X W) {cs : List Str} {tp : Bool} {te : Expr} (h : tstB T sc cs tp te = true) : ∃ vs, TestOf X te vs ∧ AddrsOf X cs vs := by
  have bad : ∀ {p : Prop}, (false = true) → p := fun z => Bool.noConfusion z
  cases tp with
  | false =>
    cases cs with
    | nil => exact bad h
    | cons c cs =>
      cases cs with
      | cons _ _ => exact bad h
      | nil =>
        obtain ⟨A, p, rfl, hA, hn⟩ := clsX1_ok C (show clsB T sc c te = true from h)
        exact ⟨_, .one hn, .cons hA .nil⟩
  | true =>
    cases te <;> first
      | exact bad h
      | skip
    rename_i es x1 p
    obtain ⟨h1, h2⟩ := b2 (show (clssB T sc cs es && decide (cs.length ≤ 1000)) = true from h)
    obtain ⟨vs, n1, a1⟩ := clssX_ok C h1
    exact ⟨vs, .tup n1 (by rw [a1.length, sizeLine_eq]; have := of_decide_eq_true h2; omega), a1⟩
theorem hit_any {sc : Scope} {B : Bs} {X : Cx} {W : WX} {calm : Bool} (C : CxtS T exc sc calm G B X W) {x : Str} {D : Addr} (hD : X.mg x = some (.ref D)) : ∀ {cs : List Str} {vs : List Value} {b : Bool}, AddrsOf X cs vs → hitS G.exm x cs = some b → PySem.W.exmAny X.K (.ref D) vs = some b
  | _, _, b, .nil, h => h
  | _, _, b, .cons (c := c) (cs := cs) (A := A) (vs := vs) hA r, h => by
    have h' : (match G.exm x c, hitS G.exm x cs with
      | some b, some d => some (b || d)
      | _, _ => none) = some b := h
    cases q2 : G.exm x c with
    | none => rw [q2] at h'; cases h'
    | some b1 =>
      cases q3 : hitS G.exm x cs with
      | none => rw [q2, q3] at h'; cases h'
      | some d1 =>
        rw [q2, q3] at h'
        cases h'
        obtain ⟨D2, C2, e1, e2, _, e3, _⟩ := C.exm _ _ _ q2
        rw [hD] at e1; cases e1
        rw [hA] at e2; cases e2
        have ih := hit_any C hD r q3
        show (match PySem.W.exmOne X.K (.ref D) (.ref A), PySem.W.exmAny X.K (.ref D) vs with
          | some b, some d => some (b || d)
          | _, _ => none) = _
        rw [e3, ih]
theorem sok_hcons (cs : List Str) (tp : Bool) (as_ : Option Nat) {b : Sts} {hs : Hds} (hb : OKSs T exc G b) (hh : OKH T exc G hs) : OKH T exc G (.cons cs tp as_ b hs) := by
  intro sc B X W C ehs h
  have bad : ∀ {p : Prop}, (false = true) → p := fun z => Bool.noConfusion z
  cases ehs with
  | nil => exact bad h
  | cons eh rest =>
    cases eh with
    | ExceptHandler te n body pos =>
      cases te with
      | none => exact bad h
      | some te =>
        cases body with
        | nil => exact bad h
        | cons b0 bs =>
          obtain ⟨k1, q1⟩ := b2 (show (tstB T sc cs tp te && (asB T sc as_ n && (chkSs T exc sc false b (b0 :: bs) && chkHs T exc sc hs rest))) = true from h)
          obtain ⟨k2, q2⟩ := b2 q1
          obtain ⟨k3, k4⟩ := b2 q2
          obtain ⟨vs, tst, ads⟩ := tst_ok C k1
          obtain ⟨l, hl, hq⟩ := hh C rest k4
          have hexn : B.ex = none := (C.stk rfl).2.2
          have su : SuOk X (b0 :: bs) (fun a cls dd => tS (B.exd (some (a, cls, dd))) (fun _ _ _ _ => False) (exs G b)) := fun a oe cls d pn hz hf => hb (C.suite hz hf) (b0 :: bs) k3
          have core : ∀ (x : XD) (ρ : Slots) (st : Store) (g : Gh) (Z : Ends), SPst B W g Z (exh G (.cons cs tp as_ b hs) x ρ st) → ∀ g' H σ cls dd, g.le g' → ER B g' H σ ρ st → XR B.R g'.F x cls dd →
              ∃ bv, PySem.W.exmAny X.K cls vs = some bv ∧ (bv = true → ∀ a, H a = none → tS (B.exd (some (a, cls, dd))) (fun _ _ _ _ => False) (exs G b) (endsH as_ Z) (match as_ with | none => σ | some i => σ.set i (some (.ref a))) H) ∧ (bv = false → wMix X.K W Z l cls dd σ H) := fun x ρ st g Z p g' H σ cls dd le e xr => by
            have p' : SPst B W g Z (match hitS G.exm x.cls cs with
              | some true => endH as_ (exs G b (begH as_ x ρ) st)
              | some false => exh G hs x ρ st
              | none => .stuck) := p
            cases q : hitS G.exm x.cls cs with
            | none => rw [q] at p'; exact p'.elim
            | some bv =>
              obtain ⟨D, hD, rfl⟩ := xr.1
              have hD' : X.mg x.cls = some (.ref D) := by rw [C.mg]; exact hD
              refine ⟨bv, hit_any C hD' ads q, fun hv a ha => ?_, fun hv => ?_⟩
              · subst hv
                rw [q] at p'
                have e0 : ER (B.exd (some (a, .ref D, dd))) g' H σ ρ st := e.exd fun i o v h1 h2 => slot_up (by have := e.slots i o v h1 h2; rw [hexn] at this; exact this)
                have p2 := SPst.le (suite_end (x := some (a, .ref D, dd)) p') le
                cases as_ with
                | none => exact ⟨g', ρ, st, e0, p2⟩
                | some i => exact ⟨g', ρ.set i (some (.exn x)), st, e0.setV (v := .exn x) ⟨a, .ref D, dd, rfl, rfl, xr⟩ i, p2⟩
              · subst hv
                rw [q] at p'
                exact hq x ρ st g Z p' g' H σ (.ref D) dd le e xr
          cases as_ with
          | none =>
            cases n with
            | some _ => exact bad k2
            | none => exact ⟨_, .cons tst su hl, fun x ρ st g Z p g' H σ cls dd le e xr => core x ρ st g Z p g' H σ cls dd le e xr⟩
          | some i =>
            cases n with
            | none => exact bad k2
            | some y =>
              obtain ⟨m1, m2⟩ := b2 (show (decide (T.N[i]? = some y) && locB sc y) = true from k2)
              exact ⟨_, .consA tst (by rw [C.N]; exact of_decide_eq_true m1) (locB_ok C.sc m2) su hl, fun x ρ st g Z p g' H σ cls dd le e xr => core x ρ st g Z p g' H σ cls dd le e xr⟩
theorem sok_try {b : Sts} {hs : Hds} (hb : OKSs T exc G b) (hh : OKH T exc G hs) : OKS T exc G (.try_ b hs) := by
  intro sc calm B X W C t h
  cases t with
  | Try eb ehs orelse fin pos =>
    cases ehs with
    | nil => exact Bool.noConfusion (show false = true from h)
    | cons eh ehs =>
      cases orelse with
      | cons _ _ => exact Bool.noConfusion (show false = true from h)
      | nil =>
        cases fin with
        | cons _ _ => exact Bool.noConfusion (show false = true from h)
        | nil =>
          obtain ⟨k1, q1⟩ := b2 (show (calm && (chkSs T exc sc calm b eb && chkHs T exc sc hs (eh :: ehs))) = true from h)
          obtain ⟨k2, k3⟩ := b2 q1
          subst k1
          obtain ⟨s1, s2, s3⟩ := C.stk rfl
          obtain ⟨l, hl, hq⟩ := hh C (eh :: ehs) k3
          refine ps_of (ps_try_mix (tb := fun W' => tS B W' (exs G b)) s1 s2 (by rw [C.N]; exact C.nd) C.tk (fun W' pn xe tk po => hb (C.tr rfl tk po) eb k2) hl) fun Z σ H ⟨g, ρ, st, er, p⟩ => ⟨g, ρ, st, er, ?_⟩
          have p' : SPst B W g Z (match exs G b ρ st with
            | .exc x ρ st => exh G hs x ρ st
            | r => r) := p
          cases q : exs G b ρ st with
          | exc x ρ' st' =>
            rw [q] at p'
            exact fun g' H' σ' cls dd le e xr => hq x ρ' st' g Z p' g' H' σ' cls dd le e xr
          | nx ρ' st' => rw [q] at p'; exact p'
          | bk ρ' st' => rw [q] at p'; exact p'
          | ct ρ' st' => rw [q] at p'; exact p'
          | rt d st' => rw [q] at p'; exact p'
          | rtl d st' => rw [q] at p'; exact p'
          | stuck => rw [q] at p'; exact p'
  | _ => exact Bool.noConfusion (show false = true from h)
end
end PD

/-! PD18 -/
set_option Elab.async false
set_option linter.all false
set_option maxRecDepth 100000
set_option maxHeartbeats 4000000
/-! PD: all statements; a def keeps its promise. -/
namespace PD
open PySem PySem.Spec PyProof.Rows L2
section
variable {T : Tab} {exc : List Str} {G : Gam}
mutual
theorem ex_ok : ∀ s : St, OKS T exc G s
  | .asg t e => sok_asg t e
  | .six i k e => sok_six i k e
  | .app i e => sok_app i e
  | .exp e => sok_exp e
  | .if_ c a b => sok_if c (exs_ok a) (exs_ok b)
  | .whl c b => sok_whl c (exs_ok b)
  | .for_ t it b => sok_for t it (exs_ok b)
  | .ret e => sok_ret e
  | .retl e => sok_retl e
  | .dead => sok_dead
  | .retn => sok_small (.inl rfl)
  | .pass => sok_small (.inr (.inl rfl))
  | .brk => sok_small (.inr (.inr (.inl rfl)))
  | .cnt => sok_small (.inr (.inr (.inr rfl)))
  | .rais c => sok_rais c
  | .raisf c f e => sok_raisf c f e
  | .try_ b hs => sok_try (exs_ok b) (exh_ok hs)
theorem exs_ok : ∀ ss : Sts, OKSs T exc G ss
  | .nil => sok_nil
  | .cons s ss => sok_cons (ex_ok s) (exs_ok ss)
theorem exh_ok : ∀ hs : Hds, OKH T exc G hs
  | .nil => sok_hnil
  | .cons cs tp as_ b hs => sok_hcons cs tp as_ (exs_ok b) (exh_ok hs)
end
end

/-! ### the entry -/
theorem ArgsR.conts {R : RC} {F H : Hp} {vs : List V} {args : List Arg} {l : List Addr} (h : ArgsR R F H vs args l) : l.length = (contsOf args).length ∧ ∀ (i : Nat) (a : Addr) (c : Cont), l[i]? = some a → (contsOf args)[i]? = some c → c.live = true ∧ ContR R F H a c := by
  induction h with
  | nil => exact ⟨rfl, fun i a c h _ => by cases i <;> cases h⟩
  | fz _ _ ih => exact ih
  | @mu a0 xs c0 as l h1 h2 t ih =>
    obtain ⟨e, q⟩ := ih
    refine ⟨congrArg Nat.succ e, fun i a c h h' => ?_⟩
    cases i with
    | zero =>
      have ea : a0 = a := by simpa using h
      have ec : c0 = c := by simpa [contsOf] using h'
      subst ea ec
      exact ⟨h1, h2⟩
    | succ i => exact q i a c (by simpa using h) (by simpa [contsOf] using h')
theorem slotsOf_length : ∀ {args : List Arg} {k : Nat}, (slotsOf k args).length = args.length
  | [], _ => rfl
  | .mu _ :: as, k => congrArg Nat.succ (slotsOf_length (args := as))
  | .fz _ :: as, k => congrArg Nat.succ (slotsOf_length (args := as))
theorem ArgsR.slots {R : RC} {F H : Hp} {E : ExH} {A : List Addr} : ∀ {vs : List V} {args : List Arg} {l : List Addr} {k : Nat}, ArgsR R F H vs args l → (∀ (i : Nat) (a : Addr), l[i]? = some a → A[k + i]? = some a) →
    ∀ (i : Nat) (o : Option V) (v : Option Val), (vs.map some)[i]? = some o → (slotsOf k args)[i]? = some v → SlotR R E ⟨F, A⟩ o v
  | _, _, _, _, .nil, _, i, o, v, h, _ => by simp at h
  | _, _, _, _, .fz r t, hA, 0, o, v, h, h' => by
    simp [slotsOf] at h h'
    subst h h'
    exact ⟨_, rfl, r⟩
  | _, _, _, _, .fz r t, hA, i + 1, o, v, h, h' => ArgsR.slots t hA i o v (by simpa using h) (by simpa [slotsOf] using h')
  | _, _, _, k, .mu h1 h2 t, hA, 0, o, v, h, h' => by
    simp [slotsOf] at h h'
    subst h h'
    exact ⟨_, rfl, _, hA 0 _ rfl, rfl⟩
  | _, _, _, k, .mu h1 h2 t, hA, i + 1, o, v, h, h' => ArgsR.slots (k := k + 1) t (fun j a e => by
      have := hA (j + 1) a (by simpa using e)
      rw [show k + 1 + j = k + (j + 1) by omega]
      exact this) i o v (by simpa using h) (by simpa [slotsOf] using h')

/-! ### the module -/
structure ModX (P : Program) (K : PySem.W.Frag) (mg : Str → Option Value) (T : Tab) (exc : List Str) (G : Gam) : Prop where
  con : ∀ (j : Nat) (d : D) (x : Str), G.con[j]? = some d → T.con[j]? = some x → ∃ v u, mg x = some u ∧ RelV v u ∧ ∀ F, Rep ⟨K, mg⟩ F v d
  free : ∀ x ∈ T.free, mg x = none
  exn : ∀ x ∈ T.exn, ∃ C, mg x = some (.ref C)
  exm : ∀ c t b, G.exm c t = some b → ∃ D C, mg c = some (.ref D) ∧ mg t = some (.ref C) ∧ PySem.W.kitOne K (.ref D) (.ref C) = some b ∧ PySem.W.exmOne K (.ref D) (.ref C) = some b ∧ ExcC K D
  xf : ∀ c f, G.xfl c f = true → ∃ D, mg c = some (.ref D) ∧ XfC K D ∧ PySem.W.findIn K (.ref D) f = some none
  exv : ∀ c n b, G.exv c n = some b → ∃ D, mg c = some (.ref D) ∧ PySem.W.kitOne K (.ref D) (.type n) = some b ∧ ExcC K D
  raf : ∀ p ∈ T.raf, ∃ C fI, PySem.SupX.SupTxt P K mg C fI p.1 p.2
  exc_ : ∀ x ∈ exc, ∃ C, mg x = some (.ref C) ∧ PySem.W.excIn K C [.type "ValueError", .type "Exception", .type "BaseException", .type "object"] "ValueError.__new__" = true ∧ PySem.W.keepIn K (.ref C) = true ∧
    PySem.W.subIn K (.ref C) (.type "BaseException") = some true ∧ PySem.W.typeIn K (.ref C) = some (.type "type")
  gcd : T.gcd = true → mg "gcd" = some (.builtin "math.gcd")
def FnH (R : RC) (P : Program) (w : World) (base : Heap) (k : Nat) (x : Str) (n : Nat) (fi : FnI) : Prop :=
  ∃ (f : Addr) (fd : FuncData) (ps : List Str) (ds : List Value) (dvs : List V), R.mg x = some (.ref f) ∧ PySem.W.keepIn R.K (.ref f) = true ∧ Binds R.K fd ps ds ∧ Vals dvs ds ∧
    FnOk P w R.K R.mg base (L2.CX P w) k f fd ps (spOf R ps.length fi.f) ∧ n + dvs.length = ps.length ∧ ∀ F, RepL R F dvs fi.dfl
theorem post_of {B : Bs} {g g' : Gh} {H' : Hp} {σ : L2.St} {ρ : Slots} {st : Store} (hl : B.lk = []) (e : ER B g' H' σ ρ st) : PostR B.R B.F0 B.H0 g'.F H' B.io (st.take B.io.length) := by
  refine ⟨e.same0, e.le, e.fresh, fun b o h hb => e.keep b o h hb (by rw [hl]; simp), ?_⟩
  have key : ∀ (l : List Addr) (cs : List Cont), l.length = cs.length → (∀ (i : Nat) (a : Addr) (c : Cont), l[i]? = some a → cs[i]? = some c → c.live = true ∧ ContR B.R g'.F H' a c) → ContsR B.R g'.F H' l cs := by
    intro l
    induction l with
    | nil => intro cs hlen _; cases cs with
      | nil => exact .nil
      | cons _ _ => cases hlen
    | cons a l ih =>
      intro cs hlen h
      cases cs with
      | nil => cases hlen
      | cons c cs =>
        obtain ⟨h1, h2⟩ := h 0 a c rfl rfl
        exact .cons h1 h2 (ih cs (Nat.succ.inj hlen) fun i a' c' e1 e2 => h (i + 1) a' c' (by simpa using e1) (by simpa using e2))
  have hle : B.io.length ≤ st.length := by
    rw [← e.len]
    exact e.io.length_le
  refine key _ _ (by rw [List.length_take]; omega) fun i a c e1 e2 => ?_
  have hi : i < B.io.length := (List.getElem?_eq_some_iff.mp e1).1
  have e3 : st[i]? = some c := by
    rw [List.getElem?_take] at e2
    rw [if_pos hi] at e2
    exact e2
  have e4 : g'.A[i]? = some a := by
    obtain ⟨t, ht⟩ := e.io
    rw [← ht, List.getElem?_append_left hi]
    exact e1
  exact ⟨e.iolive i c hi e3, e.conts i a c e4 e3⟩
section
variable {P : Program} {w : World} {K : PySem.W.Frag} {mg : Str → Option Value} {base : Heap} {x qual : Str} {params : Arguments} {body : List Stmt} {scope : Scope} {dvs : List V} {kws : List (Str × V)} {f : Addr} {fd : FuncData} {T : Tab} {exc : List Str} {G : Gam}
/-- A DEF DOES WHAT ITS DATA SAY -/
theorem def_ok {N ps : List Str} {d : Def} (F : FunD K x qual params body scope dvs kws f fd) (S : FnScope N ps scope) (M : ModX P K mg T exc G) (hN : T.N = N) (hn : d.n = N.length) (hc : chkSs T exc scope true d.body body = true)
    (hf : ∀ (j : Nat) (fi : FnI) (y : Str) (n : Nat), G.fns[j]? = some fi → T.fns[j]? = some (y, n) → FnH ⟨K, mg⟩ P w base T.lv y n fi) :
    FnOk P w K mg base (L2.CX P w) (T.lv + 1) f fd ps (spOf ⟨K, mg⟩ ps.length (runDef G d)) := by
  refine F.ok S (fun vs H Q E h => ?_) (fun cdv A outer s H vs Q E hr h => ?_)
  · obtain ⟨F0, args, l, hlen, _, ha, _⟩ := h
    rw [ha.length, hlen]
  · obtain ⟨F0, args, l, hlen, hle, ha, hnd, post⟩ := h
    obtain ⟨cl, cc⟩ := ha.conts
    obtain ⟨B, hB⟩ : ∃ B : Bs, B = ⟨⟨K, mg⟩, F0, H, l, [], none⟩ := ⟨_, rfl⟩
    obtain ⟨G', hG⟩ : ∃ G' : Gam, G' = { G with io := (contsOf args).length } := ⟨_, rfl⟩
    have C : CxtS T exc scope true G' B (cxOf (L2.CX P w) P w K mg base N qual scope f cdv A outer s H E) (fun cls d _ H => E cls d H) := by
      subst hB hG
      refine ⟨⟨rfl, rfl, hN.symm, (fun _ _ => rfl), ScR.refl _, by rw [hN]; exact S.nd, (fun z => by cases z), (fun _ => ⟨rfl, hr⟩), (by show (A.deeper (envOfC qual scope s.heap.objs.size f cdv)).units + 64 < cLine; have := hr.un; omega), takes_of rfl rfl rfl rfl, cl.symm, M.con, fun j fi y n e1 e2 => hf j fi y n e1 e2, M.free, M.exn, M.exm, M.xf, M.gcd, M.exv⟩, fun _ => passes_of rfl, ?_, fun _ => ⟨rfl, rfl, rfl⟩, M.raf, M.exc_⟩
      show (if scope.kind.isAnnotationScope then ScopeKind.function else scope.kind) = .function
      rw [S.kind]; rfl
    refine ⟨tS B (fun cls d _ H => E cls d H) (exs G' d.body), exs_ok d.body C body hc, ?_⟩
    have hv : vs.length = args.length := ha.length
    refine ⟨⟨F0, l⟩, slotsOf 0 args ++ List.replicate (d.n - args.length) none, contsOf args, ?_, ?_⟩
    · subst hB
      refine ⟨Same.refl _, hle, fun b hb => .inl hb, fun b o e _ _ => e, (fun b hb => by cases hb), cl, hnd, List.prefix_refl _, fun i c hi e => ?_, fun i a hi e => ?_, fun i a e => ?_, fun i a c e1 e2 => (cc i a c e1 e2).2, ?_, fun i o v e1 e2 => ?_⟩
      · obtain ⟨a, ea⟩ : ∃ a, l[i]? = some a := ⟨_, List.getElem?_eq_getElem hi⟩
        exact (cc i a c ea e).1
      · have hi2 := (List.getElem?_eq_some_iff.mp e).1
        exact absurd hi2 (by show ¬ i < l.length; have : l.length ≤ i := hi; omega)
      · obtain ⟨c, ec⟩ : ∃ c, (contsOf args)[i]? = some c := by
          have hi2 := (List.getElem?_eq_some_iff.mp (show l[i]? = some a from e)).1
          rw [cl] at hi2
          exact ⟨_, List.getElem?_eq_getElem hi2⟩
        obtain ⟨z1, z2⟩ := cc i a c e ec
        exact z2.there z1
      · unfold L2.start
        rw [List.length_append, List.length_append, List.length_map, List.length_replicate, List.length_replicate, slotsOf_length, hv, hn]
      · by_cases hi : i < vs.length
        · unfold L2.start at e1
          rw [List.getElem?_append_left (by rw [List.length_map]; exact hi)] at e1
          rw [List.getElem?_append_left (by rw [slotsOf_length, ← hv]; exact hi)] at e2
          exact ha.slots (k := 0) (fun j a e => by rw [Nat.zero_add]; exact e) i o v e1 e2
        · rw [List.getElem?_append_right (by rw [slotsOf_length, ← hv]; omega)] at e2
          rw [List.getElem?_replicate] at e2
          split at e2
          · cases e2; trivial
          · cases e2
    · have hrun : runDef G d args = (match exs G' d.body (slotsOf 0 args ++ List.replicate (d.n - args.length) none) (contsOf args) with
        | .nx _ st => .ok .non (st.take (contsOf args).length)
        | .rt d st => .ok d (st.take (contsOf args).length)
        | .rtl ds st => .okl ds (st.take (contsOf args).length)
        | .exc x _ st => .exc x (st.take (contsOf args).length)
        | _ => .stuck) := by subst hG; rfl
      have hlk : B.lk = [] := by rw [hB]
      have hio : (contsOf args).length = B.io.length := by rw [hB]; exact cl.symm
      rw [hio] at hrun
      have pst : ∀ {g' : Gh} {H' : Hp} {σ : L2.St} {ρ : Slots} {st : Store}, ER B g' H' σ ρ st → PostR ⟨K, mg⟩ F0 H g'.F H' l (st.take B.io.length) := fun {g' H' σ ρ st} e => by
        have p := post_of (g := ⟨F0, l⟩) hlk e
        subst hB
        exact p
      have hR : B.R = ⟨K, mg⟩ := by rw [hB]
      cases q : exs G' d.body (slotsOf 0 args ++ List.replicate (d.n - args.length) none) (contsOf args) with
      | nx ρ st =>
        rw [q] at hrun
        simp only [hrun] at post
        exact fun g' H' σ _ e => post .non g'.F H' (pst e) .non
      | rt dd st =>
        rw [q] at hrun
        simp only [hrun] at post
        exact fun g' H' σ ρ y _ e rep => post y g'.F H' (pst e) (by rw [hR] at rep; exact rep)
      | rtl ds st =>
        rw [q] at hrun
        simp only [hrun] at post
        exact fun g' H' σ ρ a xs _ e f1 f2 f3 rep => post a xs g'.F H' (pst e) f1 (by rw [hB] at f2; exact f2) f3 (by rw [hR] at rep; exact rep)
      | exc y ρ st =>
        rw [q] at hrun
        simp only [hrun] at post
        exact fun g' H' σ cls dd _ e xr => post cls dd g'.F H' (pst e) (by rw [hR] at xr; exact xr)
      | bk ρ st => rw [q] at hrun; simp only [hrun] at post
      | ct ρ st => rw [q] at hrun; simp only [hrun] at post
      | stuck => rw [q] at hrun; simp only [hrun] at post
end
end PD

/-! PD19 -/
set_option Elab.async false
set_option linter.all false
set_option maxRecDepth 100000
set_option maxHeartbeats 4000000
/-! PD: the head's facts for a whole module. -/
namespace PySem
namespace SupX
open PySem.W PySem.Calls PyProof.Rows PySem.HandSPX
abbrev FnS : Type := Option (Str × Str × Arguments × FuncBody × Scope × Addr × List Str × Addr × Value × Value)
def fnS (K : Frag) (p : Str × Option Str) : FnS := match K.lookup (He.fAd K p) with
  | some ⟨_, _, .func fd, _⟩ => some (fd.name, fd.qualname, fd.params, fd.body, fd.scope, fd.globals, fd.closure.map (·.1), fd.builtins, fd.defaults, fd.kwdefaults)
  | _ => none
/-- an own exception class: its name, its field, its __init__'s qualified name, parameters, body, scope -/
structure SupD where
  c : Str
  f : Str
  qual : Str
  params : Arguments
  body : List Stmt
  scope : Scope
def SupD.val (d : SupD) : FnS := some ("__init__", d.qual, d.params, .stmts d.body, d.scope, mainGlobals, ["__class__"], builtinsNs, .none, .none)
def SupD.Ok (d : SupD) : Prop := ∃ (pn m : Str) (kk : Nat) (a1 a2 : Option Expr) (q1 q2 p0 p1 p2 p3 p4 p5 p6 p7 p8 p9 : Pos), d.params = iPar pn a1 a2 q1 q2 ∧ d.body = iBody d.f pn m kk p0 p1 p2 p3 p4 p5 p6 p7 p8 p9 ∧ ScopeOk d.scope pn ∧
  (pn == ("self" : Str)) = false ∧ (pn == ("__debug__" : Str)) = false ∧ (p2.endLine == p4.line) = true
def clsT (K : Frag) (C : Addr) : Bool := match K.lookup C with
  | some ⟨.type "type", _, .cls cd, sl⟩ => (match cd.mro, sl.toList with
    | .ref C' :: bm, [_, _, _, _, some (.builtin n), _] => decide (C' = C) && (decide (n = "ValueError.__new__") && (!cd.hasDel && (cd.hasDict && refsVE bm)))
    | _, _ => false)
  | _ => false
theorem clsT_ok {K : Frag} {C : Addr} (q : clsT K C = true) : ∃ nm q N bs bm sn sub ab col dd k0 k1 k2 k3 k5, K.lookup C = some (excClassObj nm q C N bs bm true sn sub ab col dd k0 k1 k2 k3 k5 "ValueError.__new__") ∧ refsVE bm = true := by
  unfold clsT at q
  split at q
  · rename_i dd cd sl ho
    split at q
    · rename_i C' bm k0 k1 k2 k3 n k5 hm hs
      obtain ⟨q1, q⟩ := He.ba q
      obtain ⟨q2, q⟩ := He.ba q
      obtain ⟨q3, q⟩ := He.ba q
      obtain ⟨q4, q5⟩ := He.ba q
      have e1 : C' = C := of_decide_eq_true q1
      have e2 : n = "ValueError.__new__" := of_decide_eq_true q2
      have e3 : cd.hasDel = false := by simpa using q3
      subst e1 e2
      obtain ⟨nm, bs, mro, ns, qn, hd, sn, sub, ab, col, del⟩ := cd
      dsimp only at hm e3 q4
      subst hm e3 q4
      have hsl : sl = #[k0, k1, k2, k3, some (.builtin "ValueError.__new__"), k5] := by
        obtain ⟨l⟩ := sl
        simp only at hs
        rw [hs]
      subst hsl
      exact ⟨nm, qn, ns, bs, bm, sn, sub, ab, col, dd, k0, k1, k2, k3, k5, ho, q5⟩
    · cases q
  · cases q
def fileB (P : Program) : Option Value → Bool
  | some (.str file _) => ((P.main.file : Str) == file)
  | _ => false
def cellT (P : Program) (K : Frag) (C fI : Addr) (qual : Str) : Bool := match K.lookup fI with
  | some ⟨_, _, .func fd, _⟩ => (match fd.code, fd.closure with
    | .ref cda, [(_, cc)] => codeIn K (.ref cda) qual && ((match K.lookup cda with
      | some ⟨_, _, .fields vs, _⟩ => fileB P vs[2]?
      | _ => false) && (match K.lookup cc with
      | some ⟨_, _, .cell (some (.ref D)), _⟩ => decide (D = C)
      | _ => false))
    | _, _ => false)
  | _ => false
def supB (P : Program) (K : Frag) (d : SupD) : Bool :=
  He.eqO (nsIn K mainGlobals d.c) (some (some (.ref (He.ga K d.c)))) && (clsT K (He.ga K d.c) && (excInitIn K (He.ga K d.c) [.type "ValueError", .type "Exception", .type "BaseException", .type "object"] "ValueError.__new__" &&
  (He.eqO (findIn K (.ref (He.ga K d.c)) "__setattr__") (some (some (.builtin "object.__setattr__"))) && (He.eqO (findIn K (.ref (He.ga K d.c)) d.f) (some none) && (He.eqO (findIn K (.ref (He.ga K d.c)) "__init__") (some (some (.ref (He.ma K (He.ga K d.c) "__init__")))) &&
  (decide (typeIn K (.ref (He.ma K (He.ga K d.c) "__init__")) = some (.type "function")) && (keepIn K (.ref (He.ga K d.c)) && (decide (subIn K (.ref (He.ga K d.c)) (.type "BaseException") = some true) && (decide (subIn K (.ref (He.ga K d.c)) (.type "ValueError") = some true) &&
  (decide (typeIn K (.ref (He.ga K d.c)) = some (.type "type")) && (decide (mroIn K (He.ga K d.c) (.ref (He.ga K d.c)) = some true) && (He.eqO (nsIn K cStatics "thirdparty.any") (some none) && (He.eqO (ks_superIn K (He.ga K d.c) (He.ga K d.c) "__init__") (some (some (.builtin "ValueError.__init__"))) &&
  (!(P.main.scope.names.lookup ("super" : Str)).isSome && cellT P K (He.ga K d.c) (He.ma K (He.ga K d.c) "__init__") d.qual))))))))))))))
theorem sup_of {P : Program} {K : Frag} {h : Heap} {mg : Str → Option Value} {d : SupD} (X : K.In h) (G : h.Ns mainGlobals mg) (e : fnS K (d.c, some "__init__") = d.val) (b : supB P K d = true) (D : d.Ok) : ∃ C fI, SupTxt P K mg C fI d.c d.f := by
  obtain ⟨h1, b⟩ := He.ba b
  obtain ⟨h2, b⟩ := He.ba b
  obtain ⟨h3, b⟩ := He.ba b
  obtain ⟨h4, b⟩ := He.ba b
  obtain ⟨h5, b⟩ := He.ba b
  obtain ⟨h6, b⟩ := He.ba b
  obtain ⟨h7, b⟩ := He.ba b
  obtain ⟨h8, b⟩ := He.ba b
  obtain ⟨h9, b⟩ := He.ba b
  obtain ⟨h10, b⟩ := He.ba b
  obtain ⟨h11, b⟩ := He.ba b
  obtain ⟨h12, b⟩ := He.ba b
  obtain ⟨h13, b⟩ := He.ba b
  obtain ⟨h14, b⟩ := He.ba b
  obtain ⟨h15, h16⟩ := He.ba b
  refine ⟨He.ga K d.c, He.ma K (He.ga K d.c) "__init__", mg_of X G (He.eqO_ok h1), clsT_ok h2, h3, He.eqO_ok h4, He.eqO_ok h5, He.eqO_ok h6, of_decide_eq_true h7, h8, of_decide_eq_true h9, of_decide_eq_true h10, of_decide_eq_true h11, of_decide_eq_true h12, He.eqO_ok h13, He.eqO_ok h14, by simpa using h15, ?_⟩
  obtain ⟨pn, m, kk, a1, a2, q1, q2, p0, p1, p2, p3, p4, p5, p6, p7, p8, p9, e1, e2, SC, n1, n2, n3⟩ := D
  have e' : (match K.lookup (He.ma K (He.ga K d.c) "__init__") with
    | some ⟨_, _, .func fd, _⟩ => (some (fd.name, fd.qualname, fd.params, fd.body, fd.scope, fd.globals, fd.closure.map (·.1), fd.builtins, fd.defaults, fd.kwdefaults) : FnS)
    | _ => none) = d.val := e
  unfold cellT at h16
  cases q : K.lookup (He.ma K (He.ga K d.c) "__init__") with
  | none => rw [q] at h16; cases h16
  | some o =>
    obtain ⟨oc, od, dt, osl⟩ := o
    rw [q] at h16 e'
    cases dt with
    | func fd =>
      obtain ⟨n1', n2', n3', n4', n5', n6', n7', n8', n9', n10', n11', n12', n13', n14', n15'⟩ := fd
      have e3 : (some (n1', n2', n3', n4', n5', n6', n7'.map (·.1), n15', n8', n9') : FnS) = (some (("__init__" : Str), d.qual, d.params, FuncBody.stmts d.body, d.scope, mainGlobals, [("__class__" : Str)], builtinsNs, Value.none, Value.none) : FnS) := e'
      simp only [Option.some.injEq, Prod.mk.injEq] at e3
      obtain ⟨z1, z2, z3, z4, z5, z6, z7, z8, z9, z10⟩ := e3
      subst z1 z2 z3 z4 z5 z6 z8 z9 z10
      dsimp only at h16
      cases n13' with
      | ref cda =>
        cases n7' with
        | nil => cases z7
        | cons p l =>
          cases l with
          | cons _ _ =>
            have zl := congrArg List.length z7
            simp at zl
          | nil =>
            obtain ⟨cn, cc⟩ := p
            have zc : cn = "__class__" := (List.cons.inj z7).1
            subst zc
            obtain ⟨k1, k2⟩ := He.ba h16
            obtain ⟨k2, k3⟩ := He.ba k2
            cases r1 : K.lookup cda with
            | none => rw [r1] at k2; cases k2
            | some o1 =>
              obtain ⟨ccl, cdd, dt1, ccs⟩ := o1
              rw [r1] at k2
              cases dt1 with
              | fields vs =>
                dsimp only at k2
                cases r2 : vs[2]? with
                | none => rw [r2] at k2; cases k2
                | some v =>
                  rw [r2] at k2
                  cases v with
                  | str file tf =>
                    cases r3 : K.lookup cc with
                    | none => rw [r3] at k3; cases k3
                    | some o2 =>
                      obtain ⟨cl, cld, dt2, csl⟩ := o2
                      rw [r3] at k3
                      cases dt2 with
                      | cell ov =>
                        cases ov with
                        | none => cases k3
                        | some v2 =>
                          cases v2 with
                          | ref D =>
                            have zD : D = He.ga K d.c := of_decide_eq_true k3
                            subst zD
                            exact ⟨oc, od, d.qual, n10', n11', n12', cda, cc, n14', osl, pn, m, kk, a1, a2, q1, q2, p0, p1, p2, p3, p4, p5, p6, p7, p8, p9, d.scope, ccl, cdd, vs, ccs, file, tf, cl, cld, csl, by rw [e1, e2], k1, SC, r1, r2, k2, r3, n1, n2, n3⟩
                          | _ => cases k3
                      | _ => cases k3
                  | _ => cases k2
              | _ => cases k2
      | _ => cases h16
    | _ => cases h16
end SupX
end PySem
namespace PD
open PySem PySem.Spec PyProof.Rows L2
/-! ### constants -/
mutual
def repB (K : PySem.W.Frag) : D → Value → Bool
  | .non, .none => true
  | .bl b, .bool c => b == c
  | .int i, .int j _ => decide (i = j)
  | .str s, .str t _ => decide (s = t)
  | .tup ds, .ref a => (match K.lookup a with
    | some ⟨.type c, _, .seq its _, _⟩ => decide (c = "tuple") && (decide (its.size ≤ sizeLine) && repsB K ds its.toList)
    | _ => false)
  | _, _ => false
def repsB (K : PySem.W.Frag) : List D → List Value → Bool
  | [], [] => true
  | d :: ds, u :: us => repB K d u && repsB K ds us
  | _, _ => false
end
mutual
theorem repB_ok {K : PySem.W.Frag} {mg : Str → Option Value} : ∀ {d : D} {u : Value}, repB K d u = true → ∃ v, RelV v u ∧ ∀ F, Rep ⟨K, mg⟩ F v d
  | .non, u, h => by cases u <;> first | exact ⟨.non, rfl, fun F => .non⟩ | cases h
  | .bl b, u, h => by
    cases u with
    | bool c => exact ⟨.bl b, (by rw [show b = c from eq_of_beq h]; rfl), fun F => .bl b⟩
    | _ => cases h
  | .int i, u, h => by
    cases u with
    | int j t => exact ⟨.int i, ⟨t, by rw [show i = j from of_decide_eq_true h]⟩, fun F => .int i⟩
    | _ => cases h
  | .str s, u, h => by
    cases u with
    | str j t => exact ⟨.str s, ⟨t, by rw [show s = j from of_decide_eq_true h]⟩, fun F => .str s⟩
    | _ => cases h
  | .tup ds, u, h => by
    cases u with
    | ref a =>
      have h1 : (match K.lookup a with
        | some ⟨.type c, _, .seq its _, _⟩ => decide (c = "tuple") && (decide (its.size ≤ sizeLine) && repsB K ds its.toList)
        | _ => false) = true := h
      cases q : K.lookup a with
      | none => rw [q] at h1; cases h1
      | some o =>
        obtain ⟨oc, od, dt, osl⟩ := o
        rw [q] at h1
        cases oc with
        | type c =>
          cases dt with
          | seq its n =>
            obtain ⟨h2, h3⟩ := He.ba h1
            obtain ⟨h3, h4⟩ := He.ba h3
            obtain ⟨vs, rv, rep⟩ := repsB_ok (mg := mg) h4
            exact ⟨.ref a, rfl, fun F => .tup (.inr ⟨_, its, n, q, congrArg Value.type (of_decide_eq_true h2), rfl, of_decide_eq_true h3, rv⟩) (rep F)⟩
          | _ => cases h1
        | _ => cases dt <;> cases h1
    | _ => cases h
  | .lst ds, u, h => by cases u <;> cases h
  | .dct _ _, u, h => by cases u <;> cases h
  | .obj _ _ _, u, h => by cases u <;> cases h
theorem repsB_ok {K : PySem.W.Frag} {mg : Str → Option Value} : ∀ {ds : List D} {us : List Value}, repsB K ds us = true → ∃ vs, Vals vs us ∧ ∀ F, RepL ⟨K, mg⟩ F vs ds
  | [], us, h => by
    cases us with
    | nil => exact ⟨[], .nil, fun F => .nil⟩
    | cons _ _ => cases h
  | d :: ds, us, h => by
    cases us with
    | nil => cases h
    | cons u us =>
      obtain ⟨h1, h2⟩ := He.ba (show (repB K d u && repsB K ds us) = true from h)
      obtain ⟨v, rv, rep⟩ := repB_ok (mg := mg) h1
      obtain ⟨vs, rvs, reps⟩ := repsB_ok (mg := mg) h2
      exact ⟨v :: vs, .cons rv rvs, fun F => .cons (rep F) (reps F)⟩
end
/-! ### a module's data -/
structure ModD where
  con : List (Str × D)
  free : List Str
  exn : List Str
  exc : List Str
  exm : List (Str × Str × Bool)
  xfl : List (Str × Str)
  exv : List (Str × String × Bool) := []
  sup : List PySem.SupX.SupD
  gcd : Bool
  defs : List He.DefD
def exmL : List (Str × Str × Bool) → Str → Str → Option Bool
  | [], _, _ => none
  | p :: l, c, t => if p.1 = c ∧ p.2.1 = t then some p.2.2 else exmL l c t
def exvL : List (Str × String × Bool) → Str → String → Option Bool
  | [], _, _ => none
  | p :: l, c, t => if p.1 = c ∧ p.2.1 = t then some p.2.2 else exvL l c t
def ModD.gam (m : ModD) (fns : List FnI) : Gam := { io := 0, con := m.con.map (·.2), fns := fns, exm := exmL m.exm, xfl := fun c f => m.xfl.contains (c, f), exv := exvL m.exv }
def ModD.tab (m : ModD) (N : List Str) (fns : List (Str × Nat)) (lv : Nat) : Tab := ⟨N, m.con.map (·.1), fns, m.free, m.gcd, m.exn, m.sup.map fun d => (d.c, d.f), lv⟩
def gloB (K : PySem.W.Frag) (x : Str) : Bool := He.eqO (PySem.W.nsIn K mainGlobals x) (some (some (.ref (He.ga K x))))
def excCB (K : PySem.W.Frag) (C : Addr) : Bool :=
  He.eqO (PySem.W.findIn K (.ref C) "__getattribute__") (some (some (.builtin "BaseException.__getattribute__"))) && (He.eqO (PySem.W.findIn K (.ref C) "__getattr__") (some none) &&
  (decide (PySem.W.subIn K (.ref C) (.type "BaseException") = some true) && (PySem.W.hasDictIn K C && (He.eqO (PySem.W.findIn K (.ref C) "__class__") (some (some (.builtin "object.__class__"))) &&
  (He.eqO (PySem.W.specialIn K (.builtin "object.__class__") "__get__") (some (some (.builtin "getset_descriptor.__get__"))) && (decide (PySem.W.takesIn K (.builtin "object.__class__") = some true) && decide (PySem.W.mroIn K C (.type "object") = some true)))))))
theorem excCB_ok {K : PySem.W.Frag} {C : Addr} (h : excCB K C = true) : ExcC K C := by
  obtain ⟨h1, h⟩ := He.ba h
  obtain ⟨h2, h⟩ := He.ba h
  obtain ⟨h3, h⟩ := He.ba h
  obtain ⟨h4, h⟩ := He.ba h
  obtain ⟨h5, h⟩ := He.ba h
  obtain ⟨h6, h⟩ := He.ba h
  obtain ⟨h7, h8⟩ := He.ba h
  exact ⟨He.eqO_ok h1, He.eqO_ok h2, of_decide_eq_true h3, h4, He.eqO_ok h5, He.eqO_ok h6, of_decide_eq_true h7, of_decide_eq_true h8⟩
def conB (K : PySem.W.Frag) (p : Str × D) : Bool := match PySem.W.nsIn K mainGlobals p.1 with
  | some (some u) => repB K p.2 u
  | _ => false
def exmB (K : PySem.W.Frag) (p : Str × Str × Bool) : Bool := gloB K p.1 && (gloB K p.2.1 && (decide (PySem.W.kitOne K (.ref (He.ga K p.1)) (.ref (He.ga K p.2.1)) = some p.2.2) && (decide (PySem.W.exmOne K (.ref (He.ga K p.1)) (.ref (He.ga K p.2.1)) = some p.2.2) && excCB K (He.ga K p.1))))
def exvB (K : PySem.W.Frag) (p : Str × String × Bool) : Bool := gloB K p.1 && (decide (PySem.W.kitOne K (.ref (He.ga K p.1)) (.type p.2.1) = some p.2.2) && excCB K (He.ga K p.1))
def factB (P : Program) (m : ModD) (K : PySem.W.Frag) : Bool :=
  m.con.all (conB K) && ((m.free.all fun x => He.eqO (PySem.W.nsIn K mainGlobals x) (some none)) && (m.exn.all (gloB K) && (m.exm.all (exmB K) &&
  ((m.xfl.all fun p => gloB K p.1 && (xfB K (He.ga K p.1) && He.eqO (PySem.W.findIn K (.ref (He.ga K p.1)) p.2) (some none))) &&
  ((m.exc.all fun x => gloB K x && (He.Fa.exc x).ok K) && ((!m.gcd || He.eqO (PySem.W.nsIn K mainGlobals "gcd") (some (some (.builtin "math.gcd")))) && (m.exv.all (exvB K) && m.sup.all (PySem.SupX.supB P K))))))))
theorem exmL_mem : ∀ {l : List (Str × Str × Bool)} {c t : Str} {b : Bool}, exmL l c t = some b → (c, t, b) ∈ l
  | [], _, _, _, h => by cases h
  | p :: l, c, t, b, h => by
    have h' : (if p.1 = c ∧ p.2.1 = t then some p.2.2 else exmL l c t) = some b := h
    split at h'
    · rename_i q
      obtain ⟨p1, p2, p3⟩ := p
      obtain ⟨rfl, rfl⟩ := q
      cases h'
      exact List.mem_cons_self
    · exact List.mem_cons_of_mem _ (exmL_mem h')
theorem exvL_mem : ∀ {l : List (Str × String × Bool)} {c : Str} {t : String} {b : Bool}, exvL l c t = some b → (c, t, b) ∈ l
  | [], _, _, _, h => by cases h
  | p :: l, c, t, b, h => by
    have h' : (if p.1 = c ∧ p.2.1 = t then some p.2.2 else exvL l c t) = some b := h
    split at h'
    · rename_i q
      obtain ⟨p1, p2, p3⟩ := p
      obtain ⟨rfl, rfl⟩ := q
      cases h'
      exact List.mem_cons_self
    · exact List.mem_cons_of_mem _ (exvL_mem h')
/-! ### the Hook -/
def asP (g : Addr → Option Obj) : Nat → List Addr
  | 0 => [mainGlobals, PySem.cStatics]
  | n + 1 => He.growD g (asP g n)
abbrev AlP : Type := Bool × (List He.FnW × List PySem.SupX.FnS)
def obsK (P : Program) (m : ModD) (K : PySem.W.Frag) : AlP := (factB P m K && m.defs.all fun d => d.ok K && gloB K d.at_.1, (m.defs.map fun d => He.fnW K d.at_, m.sup.map fun d => PySem.SupX.fnS K (d.c, some "__init__")))
def valK (m : ModD) : AlP := (true, (m.defs.map He.DefD.val, m.sup.map PySem.SupX.SupD.val))
def SaysP (P : Program) (m : ModD) (K : PySem.W.Frag) : Prop := obsK P m K = valK m
def obsP (n : Nat) (P : Program) (m : ModD) (g : Addr → Option Obj) : AlP := obsK P m (He.frG g (asP g n))
def hookP (n : Nat) (P : Program) (m : ModD) : PySem.W.Hook where
  α := AlP
  obs := fun s => obsP n P m s.heap.get?
  val := fun _ => valK m
  says := fun _ h => ∃ K : PySem.W.Frag, K.In h ∧ SaysP P m K
  of := fun _ _ e => ⟨_, He.frG_in, e⟩
  keeps := fun _ _ _ ⟨K, hK, c⟩ k => ⟨K, PySem.W.Frag.In.keeps hK k, c⟩
theorem obsP_eq {n : Nat} {P : Program} {m : ModD} {g : Addr → Option Obj} {s : Shared} (h : ∀ a, g a = s.heap.get? a) : obsP n P m g = (hookP n P m).obs s := by
  have e : g = s.heap.get? := funext h
  rw [e] <;> rfl
section
variable {P : Program} {m : ModD} {K : PySem.W.Frag} {h : Heap} {mg : Str → Option Value}
theorem SaysP.fact (c : SaysP P m K) : factB P m K = true := (He.ba (show (factB P m K && m.defs.all fun d => d.ok K && gloB K d.at_.1) = true from congrArg (fun z : AlP => z.1) c)).1
theorem SaysP.def_ (c : SaysP P m K) (i : Nat) {d : He.DefD} (hd : m.defs[i]? = some d) : ∃ fd, FunD K d.name d.qual d.params d.body d.scope (d.dvs K) (d.kws K) (He.fAd K d.at_) fd := by
  have c2 := (He.ba (show (factB P m K && m.defs.all fun d => d.ok K && gloB K d.at_.1) = true from congrArg (fun z : AlP => z.1) c)).2
  have e : m.defs.map (fun d => He.fnW K d.at_) = m.defs.map He.DefD.val := congrArg (fun z : AlP => z.2.1) c
  have e2 : (m.defs.map fun d => He.fnW K d.at_)[i]? = (m.defs.map He.DefD.val)[i]? := by rw [e]
  rw [List.getElem?_map, List.getElem?_map, hd] at e2
  exact He.DefD.funD (Option.some.inj e2) (He.ba (List.all_eq_true.mp c2 d (List.mem_of_getElem? hd))).1
theorem SaysP.glo (c : SaysP P m K) {d : He.DefD} (hd : d ∈ m.defs) : gloB K d.at_.1 = true := by
  have c2 := (He.ba (show (factB P m K && m.defs.all fun d => d.ok K && gloB K d.at_.1) = true from congrArg (fun z : AlP => z.1) c)).2
  exact (He.ba (List.all_eq_true.mp c2 d hd)).2
theorem gloB_ok (X : K.In h) (G : h.Ns mainGlobals mg) {x : Str} (q : gloB K x = true) : mg x = some (.ref (He.ga K x)) := PySem.W.mg_of X G (He.eqO_ok q)
theorem SaysP.mod (c : SaysP P m K) (X : K.In h) (G : h.Ns mainGlobals mg) (hs : ∀ d ∈ m.sup, d.Ok) (N : List Str) (fns : List (Str × Nat)) (lv : Nat) (gs : List FnI) : ModX P K mg (m.tab N fns lv) m.exc (m.gam gs) := by
  obtain ⟨f1, q⟩ := He.ba c.fact
  obtain ⟨f2, q⟩ := He.ba q
  obtain ⟨f3, q⟩ := He.ba q
  obtain ⟨f4, q⟩ := He.ba q
  obtain ⟨f5, q⟩ := He.ba q
  obtain ⟨f6, q⟩ := He.ba q
  obtain ⟨f7, q⟩ := He.ba q
  obtain ⟨f9, f8⟩ := He.ba q
  refine ⟨fun j d x e1 e2 => ?_, fun x hx => ?_, fun x hx => ?_, fun a t b e => ?_, fun a f e => ?_, fun a n b e => ?_, fun p hp => ?_, fun x hx => ?_, fun hg => ?_⟩
  · have e1' : (m.con.map (·.2))[j]? = some d := e1
    have e2' : (m.con.map (·.1))[j]? = some x := e2
    rw [List.getElem?_map] at e1' e2'
    cases z : m.con[j]? with
    | none => rw [z] at e1'; cases e1'
    | some p =>
      rw [z] at e1' e2'
      obtain ⟨p1, p2⟩ := p
      cases e1'
      cases e2'
      have f := List.all_eq_true.mp f1 _ (List.mem_of_getElem? z)
      have f' : (match PySem.W.nsIn K mainGlobals p1 with
        | some (some u) => repB K p2 u
        | _ => false) = true := f
      cases y : PySem.W.nsIn K mainGlobals p1 with
      | none => rw [y] at f'; cases f'
      | some o =>
        rw [y] at f'
        cases o with
        | none => cases f'
        | some u =>
          obtain ⟨v, rv, rep⟩ := repB_ok (mg := mg) f'
          exact ⟨v, u, PySem.W.mg_of X G y, rv, rep⟩
  · exact PySem.W.mg_none_of X G (He.eqO_ok (List.all_eq_true.mp f2 x hx))
  · exact ⟨_, gloB_ok X G (List.all_eq_true.mp f3 x hx)⟩
  · obtain ⟨g1, g⟩ := He.ba (List.all_eq_true.mp f4 _ (exmL_mem e))
    obtain ⟨g2, g⟩ := He.ba g
    obtain ⟨g3, g⟩ := He.ba g
    obtain ⟨g4, g5⟩ := He.ba g
    exact ⟨_, _, gloB_ok X G g1, gloB_ok X G g2, of_decide_eq_true g3, of_decide_eq_true g4, excCB_ok g5⟩
  · obtain ⟨g1, g⟩ := He.ba (List.all_eq_true.mp f5 _ (List.contains_iff_mem.mp e))
    obtain ⟨g2, g3⟩ := He.ba g
    exact ⟨_, gloB_ok X G g1, xfB_ok g2, He.eqO_ok g3⟩
  · obtain ⟨g1, g⟩ := He.ba (List.all_eq_true.mp f9 _ (exvL_mem e))
    obtain ⟨g2, g3⟩ := He.ba g
    exact ⟨_, gloB_ok X G g1, of_decide_eq_true g2, excCB_ok g3⟩
  · obtain ⟨d, hd, rfl⟩ := List.mem_map.mp (show p ∈ m.sup.map fun d => (d.c, d.f) from hp)
    obtain ⟨i, hi, e⟩ := List.mem_iff_getElem.mp hd
    have e0 : m.sup.map (fun d => PySem.SupX.fnS K (d.c, some "__init__")) = m.sup.map PySem.SupX.SupD.val := congrArg (fun z : AlP => z.2.2) c
    have e2 : (m.sup.map (fun d => PySem.SupX.fnS K (d.c, some "__init__")))[i]? = (m.sup.map PySem.SupX.SupD.val)[i]? := by rw [e0]
    rw [List.getElem?_map, List.getElem?_map, List.getElem?_eq_getElem hi, e] at e2
    exact PySem.SupX.sup_of X G (Option.some.inj e2) (List.all_eq_true.mp f8 d hd) (hs d hd)
  · obtain ⟨g1, g⟩ := He.ba (List.all_eq_true.mp f6 x hx)
    obtain ⟨k1, k2, k3, k4⟩ := He.exc_ok g
    exact ⟨_, gloB_ok X G g1, k1, k2, k3, k4⟩
  · have hg' : m.gcd = true := hg
    rw [hg'] at f7
    exact PySem.W.mg_of X G (He.eqO_ok (by simpa using f7))
end
/-- nothing leaves -/
theorem ok_none {P : Program} {w : World} {K : PySem.W.Frag} {mg : Str → Option Value} {base : Heap} {k : Nat} {f : Addr} {fd : FuncData} {ps : List Str} {sp : Sp} (F : FnOk P w K mg base (L2.CX P w) k f fd ps sp) :
    FnOk P w K mg base L2.CX0 k f fd ps (fun vs H Q _ => sp vs H Q (fun _ _ _ => False)) :=
  ⟨fun vs H Q E q => F.len _ _ _ _ q, fun A outer s H args us vs Q E hr he hb hv hs => codeAny_mono (F.run A outer s H args us vs Q (fun _ _ _ => False) hr he hb hv hs) fun r s' z => by
    cases r with
    | ok fl => cases fl <;> exact z
    | error e =>
      obtain ⟨_, _, _, _, _, _, _, _, _, _, _, _, q⟩ := (show L2.CX P w outer H s (fun _ _ _ => False) e s' from z)
      exact q.elim⟩
end PD

/-! PD20 -/
set_option Elab.async false
set_option linter.all false
set_option maxRecDepth 100000
set_option maxHeartbeats 4000000
/-! PD: the chain of a module's defs, and the law's end. -/
namespace PD
open PySem PySem.Spec PyProof.Rows L2
structure EnvK (P : Program) (m : ModD) (K : PySem.W.Frag) (mg : Str → Option Value) : Prop where
  mod : ∀ (N : List Str) (fns : List (Str × Nat)) (lv : Nat) (gs : List FnI), ModX P K mg (m.tab N fns lv) m.exc (m.gam gs)
  fun_ : ∀ (i : Nat) (d : He.DefD), m.defs[i]? = some d → ∃ fd, FunD K d.name d.qual d.params d.body d.scope (d.dvs K) (d.kws K) (He.fAd K d.at_) fd
  glo : ∀ d ∈ m.defs, mg d.at_.1 = some (.ref (He.ga K d.at_.1))
theorem SaysP.env {P : Program} {m : ModD} {K : PySem.W.Frag} {h : Heap} {mg : Str → Option Value} (c : SaysP P m K) (X : K.In h) (G : h.Ns mainGlobals mg) (hs : ∀ d ∈ m.sup, d.Ok) : EnvK P m K mg :=
  ⟨fun N fns lv gs => c.mod X G hs N fns lv gs, fun i d hd => c.def_ i hd, fun d hd => gloB_ok X G (c.glo hd)⟩
inductive FnsH (R : RC) (P : Program) (w : World) (base : Heap) (k : Nat) : List (Str × Nat) → List FnI → Prop
  | nil : FnsH R P w base k [] []
  | cons {x : Str} {n : Nat} {fi : FnI} {l : List (Str × Nat)} {gs : List FnI} : FnH R P w base k x n fi → FnsH R P w base k l gs → FnsH R P w base k ((x, n) :: l) (fi :: gs)
theorem FnsH.at {R : RC} {P : Program} {w : World} {base : Heap} {k : Nat} {l : List (Str × Nat)} {gs : List FnI} (h : FnsH R P w base k l gs) : ∀ (j : Nat) (fi : FnI) (y : Str) (n : Nat), gs[j]? = some fi → l[j]? = some (y, n) → FnH R P w base k y n fi := by
  induction h with
  | nil => intro j fi y n e; cases j <;> cases e
  | cons h t ih =>
    intro j fi y n e1 e2
    cases j with
    | zero =>
      simp at e1 e2
      obtain ⟨rfl, rfl⟩ := e2
      subst e1
      exact h
    | succ j => exact ih j fi y n (by simpa using e1) (by simpa using e2)
theorem FnH.mono {R : RC} {P : Program} {w : World} {base : Heap} {j k : Nat} {x : Str} {n : Nat} {fi : FnI} (h : FnH R P w base j x n fi) (l : j ≤ k) : FnH R P w base k x n fi := by
  obtain ⟨f, fd, ps, ds, dvs, h1, h2, h3, h4, h5, h6, h7⟩ := h
  exact ⟨f, fd, ps, ds, dvs, h1, h2, h3, h4, h5.mono l, h6, h7⟩
section
variable {P : Program} {m : ModD} {K : PySem.W.Frag} {mg : Str → Option Value} {w : World} {base : Heap}
theorem fn_make (E : EnvK P m K mg) {x : Str} {prm : Arguments} {bdy : List Stmt} {scp : Scope} (i : Nat) (hd : m.defs[i]? = some ⟨(x, none), x, x, prm, bdy, scp, [], []⟩) {N ps : List Str} {fns : List (Str × Nat)} {gs : List FnI} {lv nn : Nat} {b : Sts} (muts : List Bool)
    (S : FnScope N ps scp) (hn : nn = N.length) (hc : chkSs (m.tab N fns lv) m.exc scp true b bdy = true)
    (hb : ∀ (kV doc pm : Value) (an : Option Addr) (cdv ct : Value) (us : List Value), us.length = ps.length → bindArgs (PySem.W.fnOf x x prm bdy scp .none kV doc pm an cdv ct) ⟨us, []⟩ = pure (ps.zip us))
    (hf : FnsH ⟨K, mg⟩ P w base lv fns gs) : FnH ⟨K, mg⟩ P w base (lv + 1) x ps.length ⟨muts, [], runDef (m.gam gs) ⟨nn, b⟩⟩ := by
  obtain ⟨fd, F⟩ := E.fun_ i _ hd
  exact ⟨_, fd, ps, [], [], E.glo _ (List.mem_of_getElem? hd), F.kp, F.bindsN hb, .nil, def_ok F S (E.mod N fns lv gs) rfl hn hc hf.at, rfl, fun F => .nil⟩
theorem law_make (E : EnvK P m K mg) {x : Str} {prm : Arguments} {bdy : List Stmt} {scp : Scope} (i : Nat) (hd : m.defs[i]? = some ⟨(x, none), x, x, prm, bdy, scp, [], []⟩) {N : List Str} {y : Str} {fns : List (Str × Nat)} {gs : List FnI} {lv nn : Nat} {b : Sts}
    (S : FnScope N [y] scp) (hn : nn = N.length) (hc : chkSs (m.tab N fns lv) m.exc scp true b bdy = true)
    (hb : ∀ (kV doc pm : Value) (an : Option Addr) (cdv ct : Value) (us : List Value), us.length = [y].length → bindArgs (PySem.W.fnOf x x prm bdy scp .none kV doc pm an cdv ct) ⟨us, []⟩ = pure ([y].zip us))
    (hf : ∀ base : Heap, FnsH ⟨K, mg⟩ P w base lv fns gs) : ∃ fd : FuncData, mg x = some (.ref (He.ga K x)) ∧ (∀ (s : Shared) (v : Value), BindsTo s fd ⟨[v], []⟩ [(y, v)]) ∧
      ∀ base : Heap, FnOk P w K mg base L2.CX0 (lv + 1) (He.ga K x) fd [y] (fun vs H Q _ => spOf ⟨K, mg⟩ 1 (runDef (m.gam gs) ⟨nn, b⟩) vs H Q (fun _ _ _ => False)) := by
  obtain ⟨fd, F⟩ := E.fun_ i _ hd
  exact ⟨fd, E.glo _ (List.mem_of_getElem? hd), fun s v => F.bindsA hb s [v] rfl, fun base => ok_none (def_ok F S (E.mod N fns lv gs) rfl hn hc (hf base).at)⟩
end
theorem rep_ints {R : RC} {F : Hp} : ∀ ns : List Int, RepL R F (ns.map V.int) (ns.map D.int)
  | [] => .nil
  | n :: ns => .cons (.int n) (rep_ints ns)
/-- THE END of a law -/
theorem walk_ofP {l : PySem.W.OpenLaw} {k n0 : Nat} {q : Program} {loose : List Str} {XP : (Str → Option Value) → Heap → Prop} {m : ModD} {d : DefRec} {y : Str} {f : List Arg → FRes}
    (hn : l.most = some 63) (hdf : d.params.defaults = []) (hr : Room k callerA) (hs : ∀ d ∈ m.sup, d.Ok)
    (F : ∀ (w : World) (mg : Str → Option Value) (K : PySem.W.Frag), EnvK l.prog m K mg → ∃ fd : FuncData, mg d.name = some (.ref (He.ga K d.name)) ∧ (∀ (s : Shared) (v : Value), BindsTo s fd ⟨[v], []⟩ [(y, v)]) ∧
      ∀ base : Heap, FnOk l.prog w K mg base L2.CX0 k (He.ga K d.name) fd [y] (fun vs H Q _ => spOf ⟨K, mg⟩ 1 f vs H Q (fun _ _ _ => False)))
    (plain : ∀ ns : List Int, ns.length ≤ 63 → (∀ z ∈ ns, Builtin.Int.intBits z ≤ 1048576) → f [.fz (.lst (ns.map D.int))] = .ok (.bl true) []) :
    PySem.W.WalkO q loose XP (hookP n0 l.prog m).says l.row.toRowW d [] (fun f vs => PySem.call f vs) := by
  refine Att.attach_callB hn hdf fun w s₀ s₁ mg mb fa o pm cd doc a vs ns G Y ho hd hcd hmg hobj hints hlen hbits hg => ?_
  obtain ⟨K, KX, c⟩ := Y
  have Gg := G.T.g
  obtain ⟨fd, hm, hb, hF⟩ := F w mg K (c.env KX Gg hs)
  have e := hm.symm.trans hmg
  cases e
  refine law_call KX Gg G.T.b G.T.builtins G.T.nolimit hg hobj hints (Nat.le_trans hlen (by rw [sizeLine_eq]; decide)) hr (fun base _ _ => hF base) hb (fun H hO hS => ?_) fun H e s' z => z
  refine ⟨H, [.fz (.lst (ns.map D.int))], [], rfl, Le.refl _, .fz (.lst hS (rep_ints ns)) .nil, List.nodup_nil, ?_⟩
  rw [plain ns hlen hbits]
  intro x F' H' _ r
  cases r
  rfl
end PD

/-! PD21 -/
set_option Elab.async false
set_option linter.all false
set_option maxRecDepth 100000
set_option maxHeartbeats 4000000
/-! PD: defs with defaults. -/
namespace PD
open PySem PySem.Spec PyProof.Rows L2
section
variable {P : Program} {m : ModD} {K : PySem.W.Frag} {mg : Str → Option Value} {w : World} {base : Heap}
/-- a def with defaults, called with its first n values: the defaults behind the first j fill up -/
theorem fn_make_d (E : EnvK P m K mg) {x : Str} {prm : Arguments} {bdy : List Stmt} {scp : Scope} {dfl : List He.Dv} (i : Nat) (hd : m.defs[i]? = some ⟨(x, none), x, x, prm, bdy, scp, dfl, []⟩) {N ps : List Str} {fns : List (Str × Nat)} {gs : List FnI} {lv nn : Nat} {b : Sts} (muts : List Bool) (n j : Nat) (ds : List D)
    (S : FnScope N ps scp) (hn : nn = N.length) (hc : chkSs (m.tab N fns lv) m.exc scp true b bdy = true) (hne : dfl ≠ []) (hlen : n + (dfl.length - j) = ps.length)
    (hb : ∀ (T : Addr) (kV doc pm : Value) (an : Option Addr) (cdv ct : Value) (us its : List Value), us.length = n → its.length = dfl.length →
      ∃ k, bindArgs (PySem.W.fnOf x x prm bdy scp (.ref T) kV doc pm an cdv ct) ⟨us, []⟩ = seqItems? (.ref T) >>= k ∧ k (some its.toArray) = pure (ps.zip (us ++ its.drop j)))
    (hr : ∀ (R : RC) (F : Hp), RepL R F ((dfl.map (He.Dv.v K)).drop j) ds)
    (hf : FnsH ⟨K, mg⟩ P w base lv fns gs) : FnH ⟨K, mg⟩ P w base (lv + 1) x n ⟨muts, ds, runDef (m.gam gs) ⟨nn, b⟩⟩ := by
  obtain ⟨fd, F⟩ := E.fun_ i _ hd
  have l1 : (dfl.map (He.Dv.v K)).length = dfl.length := List.length_map ..
  obtain ⟨us, hv, hbi⟩ := FunD.binds1 F n j (by intro z; exact hne (List.map_eq_nil_iff.mp z)) (by show n + ((dfl.map (He.Dv.v K)).length - j) = _; rw [l1]; exact hlen) (by
    intro T kV doc pm an cdv ct us its h1 h2
    exact hb T kV doc pm an cdv ct us its h1 (h2.trans l1))
  refine ⟨_, fd, ps, us, (dfl.map (He.Dv.v K)).drop j, E.glo _ (List.mem_of_getElem? hd), F.kp, hbi, hv, def_ok F S (E.mod N fns lv gs) rfl hn hc hf.at, ?_, fun F => hr _ F⟩
  rw [List.length_drop, l1]
  exact hlen
/-- the same, every value given -/
theorem fn_make_a (E : EnvK P m K mg) {x : Str} {prm : Arguments} {bdy : List Stmt} {scp : Scope} {dfl : List He.Dv} (i : Nat) (hd : m.defs[i]? = some ⟨(x, none), x, x, prm, bdy, scp, dfl, []⟩) {N ps : List Str} {fns : List (Str × Nat)} {gs : List FnI} {lv nn : Nat} {b : Sts} (muts : List Bool)
    (S : FnScope N ps scp) (hn : nn = N.length) (hc : chkSs (m.tab N fns lv) m.exc scp true b bdy = true) (hne : dfl ≠ [])
    (hb : ∀ (T : Addr) (kV doc pm : Value) (an : Option Addr) (cdv ct : Value) (us : List Value), us.length = ps.length → bindArgs (PySem.W.fnOf x x prm bdy scp (.ref T) kV doc pm an cdv ct) ⟨us, []⟩ = pure (ps.zip us))
    (hf : FnsH ⟨K, mg⟩ P w base lv fns gs) : FnH ⟨K, mg⟩ P w base (lv + 1) x ps.length ⟨muts, [], runDef (m.gam gs) ⟨nn, b⟩⟩ := by
  obtain ⟨fd, F⟩ := E.fun_ i _ hd
  refine ⟨_, fd, ps, [], [], E.glo _ (List.mem_of_getElem? hd), F.kp, ?_, .nil, def_ok F S (E.mod N fns lv gs) rfl hn hc hf.at, rfl, fun F => .nil⟩
  obtain ⟨oc, od, dV, kV, doc, pm, an, cdv, ct, osl, rfl, lk, hcd, hD, hK⟩ := F.ex
  rcases hD with ⟨e, _⟩ | ⟨_, T, o, its, q, rfl, _⟩
  · exact absurd (List.map_eq_nil_iff.mp e) hne
  · exact Binds.all fun us hl => hb T kV doc pm an cdv ct us hl
end
end PD

/-! K00Data -/
set_option Elab.async false
set_option linter.all false
set_option maxRecDepth 100000
set_option maxHeartbeats 0
/-! law_k00_fractions_in_one_form: the data of its defs (printed by gen.py). -/
namespace K00
open PySem PD L2

def top (i : Nat) : Stmt := PySem.Challenge.pw_trueruns_k00_fractions_in_one_form.main.body.getD i (.Pass ⟨0, 0, 0, 0⟩)
def sub (s : Stmt) (j : Nat) : Stmt := match s with
  | .ClassDef (body := b) .. => b.getD j (.Pass ⟨0, 0, 0, 0⟩)
  | _ => .Pass ⟨0, 0, 0, 0⟩
def mk (i : Nat) (n : Str) : He.DefD := ⟨(n, none), n, n, defArgs (top i), defBody (top i), defScope (top i), [], []⟩
def sup_TooLarge : PySem.SupX.SupD := ⟨"TooLarge", "what", "TooLarge.__init__", defArgs (sub (top 17) 0), defBody (sub (top 17) 0), defScope (sub (top 17) 0)⟩
def con : List (Str × D) := [("ZERO", .tup [.int (0), .int (1)]), ("ONE", .tup [.int (1), .int (1)]), ("FIGURES_BOUND", .int (10000000000000000000000000000000000000000000000000000000000000000000000000000000000000000000000000000000000000000000000000000000000000000000000000000000000000000000000000000000000000000000000000000000000000000000000000000000000000000000000000000000000000000000000000000000000000000000000000000000000000000000000000000000000000000000000000000000000000000000000000000000000000000000000000000000000000000))]
def mkd (i : Nat) (n : Str) (l : List He.Dv) : He.DefD := ⟨(n, none), n, n, defArgs (top i), defBody (top i), defScope (top i), l, []⟩
def defs : List He.DefD := [mk 23 "is_whole", mk 24 "lowest", mkd 25 "fraction" [.int (1)], mk 26 "is_number", mk 27 "check_number", mk 28 "check_complex", mk 29 "plus", mk 30 "minus", mk 31 "product_of", mk 32 "over", mk 33 "opposite", mk 34 "sign_of", mk 35 "compared", mk 36 "powered", mk 37 "sum_of", mk 38 "lesser", mk 39 "greater", mk 40 "size_of", mk 41 "complex_times", mk 42 "complex_plus", mk 43 "size_squared", mk 44 "complex_over", mk 46 "_law_well", mk 47 "_law_pull", mk 48 "_law_gcd", mk 49 "_law_frac", mk 50 "_law_add", mk 51 "_law_neg", mk 52 "_law_mul", mk 53 "_law_div", mk 54 "_law_less", mk 55 "_law_whole", mk 56 "_law_is_frac", mk 57 "_law_number", mk 58 "_law_int", mk 59 "_law_any", mk 60 "_law_asked", mk 61 "_law_is_bad", mk 62 "_law_is_large", mk 63 "_law_told", mk 64 "_law_is_pair", mk 65 "_law_fractions", mk 66 "_law_numbers", mk 67 "_law_sums", mk 68 "_law_rows", mk 69 "_law_complex", mk 70 "law"]
def md : ModD := { con := con, free := ["ValueError", "abs", "bool", "int", "isinstance", "len", "range", "str", "super", "tuple"], exn := ["BadPoly", "BadMatrix", "BadWord", "BadLink", "BadRule", "BadRow", "BadRelation", "BadName", "NotNilpotent", "LowOrder", "MixedRow", "BadText", "Pole", "Unknown", "TooLarge", "RunsError", "BadNumber"], exc := ["BadNumber"], exm := ([("BadNumber", "BadLink", false), ("BadNumber", "BadMatrix", false), ("BadNumber", "BadName", false), ("BadNumber", "BadNumber", true), ("BadNumber", "BadPoly", false), ("BadNumber", "BadRelation", false), ("BadNumber", "BadRow", false), ("BadNumber", "BadRule", false), ("BadNumber", "BadText", false), ("BadNumber", "BadWord", false), ("BadNumber", "LowOrder", false), ("BadNumber", "MixedRow", false), ("BadNumber", "NotNilpotent", false), ("BadNumber", "Pole", false), ("BadNumber", "RunsError", true), ("BadNumber", "TooLarge", false), ("BadNumber", "Unknown", false), ("TooLarge", "BadLink", false), ("TooLarge", "BadMatrix", false), ("TooLarge", "BadName", false), ("TooLarge", "BadNumber", false), ("TooLarge", "BadPoly", false), ("TooLarge", "BadRelation", false), ("TooLarge", "BadRow", false), ("TooLarge", "BadRule", false), ("TooLarge", "BadText", false), ("TooLarge", "BadWord", false), ("TooLarge", "LowOrder", false), ("TooLarge", "MixedRow", false), ("TooLarge", "NotNilpotent", false)] : List (Str × Str × Bool)) ++ ([("TooLarge", "Pole", false), ("TooLarge", "RunsError", true), ("TooLarge", "TooLarge", true), ("TooLarge", "Unknown", false)] : List (Str × Str × Bool)), xfl := [("TooLarge", "what")], exv := [("BadNumber", "ValueError", true), ("TooLarge", "ValueError", true)], sup := [sup_TooLarge], gcd := true, defs := defs }
def N_is_whole : List Str := ["thing"]
def b_is_whole : Sts := (.cons (.ret (.and_ (.isi (.var 0) [.ty "int"] false) (.not_ (.isi (.var 0) [.ty "bool"] false)))) .nil)
def t_is_whole : List (Str × Nat) := []
noncomputable def g_is_whole : List FnI := []
noncomputable def f_is_whole : List PD.Arg → FRes := runDef (md.gam g_is_whole) ⟨1, b_is_whole⟩
def N_lowest : List Str := ["p", "q", "shared"]
def b_lowest : Sts := (.cons (.asg (.nm 2) (.bfn .gcd (.cons (.var 0) (.cons (.var 1) .nil)))) (.cons (.if_ (.cmp .lt (.var 1) (.lit (.int (0)))) (.cons (.asg (.nm 2) (.neg (.var 2))) .nil) .nil) (.cons (.ret (.tup (.cons (.bin .fdv (.var 0) (.var 2)) (.cons (.bin .fdv (.var 1) (.var 2)) .nil)))) .nil)))
def t_lowest : List (Str × Nat) := []
noncomputable def g_lowest : List FnI := []
noncomputable def f_lowest : List PD.Arg → FRes := runDef (md.gam g_lowest) ⟨3, b_lowest⟩
def N_opposite : List Str := ["x"]
def b_opposite : Sts := (.cons (.ret (.tup (.cons (.neg (.idx (.var 0) (.lit (.int (0))))) (.cons (.idx (.var 0) (.lit (.int (1)))) .nil)))) .nil)
def t_opposite : List (Str × Nat) := []
noncomputable def g_opposite : List FnI := []
noncomputable def f_opposite : List PD.Arg → FRes := runDef (md.gam g_opposite) ⟨1, b_opposite⟩
def N_sign_of : List Str := ["x"]
def b_sign_of : Sts := (.cons (.if_ (.cmp .lt (.idx (.var 0) (.lit (.int (0)))) (.lit (.int (0)))) (.cons (.ret (.neg (.lit (.int (1))))) .nil) .nil) (.cons (.ret (.ife (.cmp .gt (.idx (.var 0) (.lit (.int (0)))) (.lit (.int (0)))) (.lit (.int (1))) (.lit (.int (0))))) .nil))
def t_sign_of : List (Str × Nat) := []
noncomputable def g_sign_of : List FnI := []
noncomputable def f_sign_of : List PD.Arg → FRes := runDef (md.gam g_sign_of) ⟨1, b_sign_of⟩
def N_size_of : List Str := ["x"]
def b_size_of : Sts := (.cons (.ret (.tup (.cons (.bfn .abs (.cons (.idx (.var 0) (.lit (.int (0)))) .nil)) (.cons (.idx (.var 0) (.lit (.int (1)))) .nil)))) .nil)
def t_size_of : List (Str × Nat) := []
noncomputable def g_size_of : List FnI := []
noncomputable def f_size_of : List PD.Arg → FRes := runDef (md.gam g_size_of) ⟨1, b_size_of⟩
def N_law_well : List Str := ["script", "rows", "spot", "cell", "mixed", "turn"]
def lp0_law_well : Sts := (.cons (.asg (.nm 4) (.bin .mod (.bfn .int (.cons (.bin .add (.bin .add (.bin .add (.bin .mul (.var 4) (.var 4)) (.bin .mul (.lit (.int (40014))) (.var 5))) (.var 2)) (.lit (.int (1)))) .nil)) (.lit (.int (2147483563))))) (.cons (.app 1 (.bin .fdv (.var 4) (.lit (.int (7))))) .nil))
def lp1_law_well : Sts := (.cons (.if_ (.cmp .gt (.var 3) (.lit (.int (0)))) (.cons (.app 1 (.bin .mod (.bfn .int (.cons (.var 3) .nil)) (.lit (.int (60))))) (.cons (.asg (.nm 3) (.bin .fdv (.var 3) (.lit (.int (60))))) .nil)) .nil) .nil)
def lp2_law_well : Sts := (.cons (.if_ (.cmp .lt (.var 2) (.bfn .len (.cons (.var 0) .nil))) (.cons (.asg (.nm 3) (.bfn .int (.cons (.idx (.var 0) (.var 2)) .nil))) (.cons (.if_ (.cmp .lt (.var 3) (.lit (.int (0)))) (.cons (.asg (.nm 3) (.bin .sub (.lit (.int (2))) (.bin .mul (.lit (.int (3))) (.var 3)))) .nil) .nil) (.cons (.if_ (.cmp .lt (.var 3) (.bin .pow (.lit (.int (10))) (.lit (.int (18))))) (.cons (.asg (.nm 4) (.bin .mod (.bfn .int (.cons (.bin .add (.bin .add (.bin .mul (.var 3) (.lit (.int (16807)))) (.bin .mul (.var 2) (.lit (.int (7919))))) (.lit (.int (3)))) .nil)) (.lit (.int (2147483647))))) (.cons (.for_ (.nm 5) (.rng1 (.lit (.int (5)))) lp0_law_well) .nil)) (.cons (.for_ (.nm 5) (.rng1 (.lit (.int (50)))) lp1_law_well) .nil)) .nil))) .nil) .nil)
def b_law_well : Sts := (.cons (.asg (.nm 1) (.lst .nil)) (.cons (.for_ (.nm 2) (.rng1 (.lit (.int (63)))) lp2_law_well) (.cons (.retl (.lst (.cons (.lit (.int (0))) (.cons (.var 1) .nil)))) .nil)))
def t_law_well : List (Str × Nat) := []
noncomputable def g_law_well : List FnI := []
noncomputable def f_law_well : List PD.Arg → FRes := runDef (md.gam g_law_well) ⟨6, b_law_well⟩
def N_law_pull : List Str := ["well", "top", "spot", "rows"]
def b_law_pull : Sts := (.cons (.asg (.nm 2) (.idx (.var 0) (.lit (.int (0))))) (.cons (.asg (.nm 3) (.idx (.var 0) (.lit (.int (1))))) (.cons (.six 0 (.lit (.int (0))) (.bin .add (.var 2) (.lit (.int (1))))) (.cons (.if_ (.cmp .ge (.var 2) (.bfn .len (.cons (.var 3) .nil))) (.cons (.ret (.lit (.int (0)))) .nil) .nil) (.cons (.ret (.bin .mod (.bfn .int (.cons (.idx (.var 3) (.var 2)) .nil)) (.var 1))) .nil)))))
def t_law_pull : List (Str × Nat) := []
noncomputable def g_law_pull : List FnI := []
noncomputable def f_law_pull : List PD.Arg → FRes := runDef (md.gam g_law_pull) ⟨4, b_law_pull⟩
def N_law_gcd : List Str := ["one", "two", "big", "small", "turn", "rest"]
def lp0_law_gcd : Sts := (.cons (.if_ (.cmp .eq (.var 3) (.lit (.int (0)))) (.cons (.ret (.var 2)) .nil) .nil) (.cons (.asg (.nm 5) (.bin .mod (.bfn .int (.cons (.var 2) .nil)) (.var 3))) (.cons (.asg (.nm 2) (.var 3)) (.cons (.asg (.nm 3) (.var 5)) .nil))))
def b_law_gcd : Sts := (.cons (.asg (.nm 2) (.bfn .abs (.cons (.var 0) .nil))) (.cons (.asg (.nm 3) (.bfn .abs (.cons (.var 1) .nil))) (.cons (.for_ (.nm 4) (.rng1 (.bin .add (.bin .add (.bin .mul (.lit (.int (2))) (.mth .bitlen (.var 2) .nil)) (.bin .mul (.lit (.int (2))) (.mth .bitlen (.var 3) .nil))) (.lit (.int (10))))) lp0_law_gcd) (.cons (.ret (.var 2)) .nil))))
def t_law_gcd : List (Str × Nat) := []
noncomputable def g_law_gcd : List FnI := []
noncomputable def f_law_gcd : List PD.Arg → FRes := runDef (md.gam g_law_gcd) ⟨6, b_law_gcd⟩
def N_law_neg : List Str := ["one"]
def b_law_neg : Sts := (.cons (.ret (.tup (.cons (.neg (.idx (.var 0) (.lit (.int (0))))) (.cons (.idx (.var 0) (.lit (.int (1)))) .nil)))) .nil)
def t_law_neg : List (Str × Nat) := []
noncomputable def g_law_neg : List FnI := []
noncomputable def f_law_neg : List PD.Arg → FRes := runDef (md.gam g_law_neg) ⟨1, b_law_neg⟩
def N_law_less : List Str := ["one", "two"]
def b_law_less : Sts := (.cons (.ret (.cmp .lt (.bin .mul (.idx (.var 0) (.lit (.int (0)))) (.idx (.var 1) (.lit (.int (1))))) (.bin .mul (.idx (.var 1) (.lit (.int (0)))) (.idx (.var 0) (.lit (.int (1))))))) .nil)
def t_law_less : List (Str × Nat) := []
noncomputable def g_law_less : List FnI := []
noncomputable def f_law_less : List PD.Arg → FRes := runDef (md.gam g_law_less) ⟨2, b_law_less⟩
def N_law_whole : List Str := ["told"]
def b_law_whole : Sts := (.cons (.ret (.and_ (.isi (.var 0) [.ty "int"] false) (.not_ (.isi (.var 0) [.ty "bool"] false)))) .nil)
def t_law_whole : List (Str × Nat) := []
noncomputable def g_law_whole : List FnI := []
noncomputable def f_law_whole : List PD.Arg → FRes := runDef (md.gam g_law_whole) ⟨1, b_law_whole⟩
def N_fraction : List Str := ["p", "q"]
def b_fraction : Sts := (.cons (.if_ (.or_ (.not_ (.tru (.call 0 (.cons (.var 0) .nil)))) (.not_ (.tru (.call 0 (.cons (.var 1) .nil))))) (.cons (.rais "BadNumber") .nil) .nil) (.cons (.if_ (.cmp .eq (.var 1) (.lit (.int (0)))) (.cons (.rais "BadNumber") .nil) .nil) (.cons (.ret (.call 1 (.cons (.var 0) (.cons (.var 1) .nil)))) .nil)))
def t_fraction : List (Str × Nat) := [("is_whole", 1), ("lowest", 2)]
noncomputable def g_fraction : List FnI := [⟨[false], [], f_is_whole⟩, ⟨[false, false], [], f_lowest⟩]
noncomputable def f_fraction : List PD.Arg → FRes := runDef (md.gam g_fraction) ⟨2, b_fraction⟩
def N_is_number : List Str := ["thing", "p", "q"]
def b_is_number : Sts := (.cons (.if_ (.or_ (.not_ (.isi (.var 0) [.ty "tuple"] false)) (.cmp .ne (.bfn .len (.cons (.var 0) .nil)) (.lit (.int (2))))) (.cons (.ret (.lit (.bl false))) .nil) .nil) (.cons (.asg (.tp [1, 2]) (.var 0)) (.cons (.ret (.and_ (.call 0 (.cons (.var 1) .nil)) (.and_ (.call 0 (.cons (.var 2) .nil)) (.and_ (.cmp .ge (.var 2) (.lit (.int (1)))) (.cmp .eq (.bfn .gcd (.cons (.var 1) (.cons (.var 2) .nil))) (.lit (.int (1)))))))) .nil)))
def t_is_number : List (Str × Nat) := [("is_whole", 1)]
noncomputable def g_is_number : List FnI := [⟨[false], [], f_is_whole⟩]
noncomputable def f_is_number : List PD.Arg → FRes := runDef (md.gam g_is_number) ⟨3, b_is_number⟩
def N_plus : List Str := ["x", "y"]
def b_plus : Sts := (.cons (.if_ (.and_ (.cmp .eq (.idx (.var 0) (.lit (.int (1)))) (.lit (.int (1)))) (.cmp .eq (.idx (.var 1) (.lit (.int (1)))) (.lit (.int (1))))) (.cons (.ret (.tup (.cons (.bin .add (.idx (.var 0) (.lit (.int (0)))) (.idx (.var 1) (.lit (.int (0))))) (.cons (.lit (.int (1))) .nil)))) .nil) .nil) (.cons (.ret (.call 0 (.cons (.bin .add (.bin .mul (.idx (.var 0) (.lit (.int (0)))) (.idx (.var 1) (.lit (.int (1))))) (.bin .mul (.idx (.var 1) (.lit (.int (0)))) (.idx (.var 0) (.lit (.int (1)))))) (.cons (.bin .mul (.idx (.var 0) (.lit (.int (1)))) (.idx (.var 1) (.lit (.int (1))))) .nil)))) .nil))
def t_plus : List (Str × Nat) := [("lowest", 2)]
noncomputable def g_plus : List FnI := [⟨[false, false], [], f_lowest⟩]
noncomputable def f_plus : List PD.Arg → FRes := runDef (md.gam g_plus) ⟨2, b_plus⟩
def N_product_of : List Str := ["x", "y"]
def b_product_of : Sts := (.cons (.ret (.call 0 (.cons (.bin .mul (.idx (.var 0) (.lit (.int (0)))) (.idx (.var 1) (.lit (.int (0))))) (.cons (.bin .mul (.idx (.var 0) (.lit (.int (1)))) (.idx (.var 1) (.lit (.int (1))))) .nil)))) .nil)
def t_product_of : List (Str × Nat) := [("lowest", 2)]
noncomputable def g_product_of : List FnI := [⟨[false, false], [], f_lowest⟩]
noncomputable def f_product_of : List PD.Arg → FRes := runDef (md.gam g_product_of) ⟨2, b_product_of⟩
def N_over : List Str := ["x", "y"]
def b_over : Sts := (.cons (.if_ (.cmp .eq (.idx (.var 1) (.lit (.int (0)))) (.lit (.int (0)))) (.cons (.rais "BadNumber") .nil) .nil) (.cons (.ret (.call 0 (.cons (.bin .mul (.idx (.var 0) (.lit (.int (0)))) (.idx (.var 1) (.lit (.int (1))))) (.cons (.bin .mul (.idx (.var 0) (.lit (.int (1)))) (.idx (.var 1) (.lit (.int (0))))) .nil)))) .nil))
def t_over : List (Str × Nat) := [("lowest", 2)]
noncomputable def g_over : List FnI := [⟨[false, false], [], f_lowest⟩]
noncomputable def f_over : List PD.Arg → FRes := runDef (md.gam g_over) ⟨2, b_over⟩
def N_compared : List Str := ["x", "y"]
def b_compared : Sts := (.cons (.ret (.call 0 (.cons (.tup (.cons (.bin .sub (.bin .mul (.idx (.var 0) (.lit (.int (0)))) (.idx (.var 1) (.lit (.int (1))))) (.bin .mul (.idx (.var 1) (.lit (.int (0)))) (.idx (.var 0) (.lit (.int (1)))))) (.cons (.lit (.int (1))) .nil))) .nil))) .nil)
def t_compared : List (Str × Nat) := [("sign_of", 1)]
noncomputable def g_compared : List FnI := [⟨[false], [], f_sign_of⟩]
noncomputable def f_compared : List PD.Arg → FRes := runDef (md.gam g_compared) ⟨2, b_compared⟩
def N_law_frac : List Str := ["top", "bottom", "shared"]
def b_law_frac : Sts := (.cons (.if_ (.cmp .lt (.var 1) (.lit (.int (0)))) (.cons (.asg (.nm 0) (.neg (.var 0))) (.cons (.asg (.nm 1) (.neg (.var 1))) .nil)) .nil) (.cons (.asg (.nm 2) (.call 0 (.cons (.var 0) (.cons (.var 1) .nil)))) (.cons (.ret (.tup (.cons (.bin .fdv (.var 0) (.var 2)) (.cons (.bin .fdv (.var 1) (.var 2)) .nil)))) .nil)))
def t_law_frac : List (Str × Nat) := [("_law_gcd", 2)]
noncomputable def g_law_frac : List FnI := [⟨[false, false], [], f_law_gcd⟩]
noncomputable def f_law_frac : List PD.Arg → FRes := runDef (md.gam g_law_frac) ⟨3, b_law_frac⟩
def N_law_is_frac : List Str := ["told"]
def b_law_is_frac : Sts := (.cons (.if_ (.or_ (.not_ (.isi (.var 0) [.ty "tuple"] false)) (.cmp .ne (.bfn .len (.cons (.var 0) .nil)) (.lit (.int (2))))) (.cons (.ret (.lit (.bl false))) .nil) .nil) (.cons (.if_ (.or_ (.not_ (.tru (.call 0 (.cons (.idx (.var 0) (.lit (.int (0)))) .nil)))) (.not_ (.tru (.call 0 (.cons (.idx (.var 0) (.lit (.int (1)))) .nil))))) (.cons (.ret (.lit (.bl false))) .nil) .nil) (.cons (.ret (.and_ (.cmp .ge (.idx (.var 0) (.lit (.int (1)))) (.lit (.int (1)))) (.cmp .eq (.call 1 (.cons (.idx (.var 0) (.lit (.int (0)))) (.cons (.idx (.var 0) (.lit (.int (1)))) .nil))) (.lit (.int (1)))))) .nil)))
def t_law_is_frac : List (Str × Nat) := [("_law_whole", 1), ("_law_gcd", 2)]
noncomputable def g_law_is_frac : List FnI := [⟨[false], [], f_law_whole⟩, ⟨[false, false], [], f_law_gcd⟩]
noncomputable def f_law_is_frac : List PD.Arg → FRes := runDef (md.gam g_law_is_frac) ⟨1, b_law_is_frac⟩
def N_law_int : List Str := ["well", "made", "turn"]
def lp0_law_int : Sts := (.cons (.asg (.nm 1) (.bin .add (.bin .mul (.var 1) (.lit (.int (60)))) (.call 0 (.cons (.var 0) (.cons (.lit (.int (60))) .nil))))) .nil)
def b_law_int : Sts := (.cons (.if_ (.cmp .eq (.call 0 (.cons (.var 0) (.cons (.lit (.int (3))) .nil))) (.lit (.int (0)))) (.cons (.ret (.bin .sub (.call 0 (.cons (.var 0) (.cons (.lit (.int (13))) .nil))) (.lit (.int (6))))) .nil) .nil) (.cons (.asg (.nm 1) (.lit (.int (0)))) (.cons (.for_ (.nm 2) (.rng1 (.call 0 (.cons (.var 0) (.cons (.lit (.int (37))) .nil)))) lp0_law_int) (.cons (.if_ (.cmp .eq (.call 0 (.cons (.var 0) (.cons (.lit (.int (2))) .nil))) (.lit (.int (1)))) (.cons (.ret (.neg (.var 1))) .nil) .nil) (.cons (.ret (.var 1)) .nil)))))
def t_law_int : List (Str × Nat) := [("_law_pull", 2)]
noncomputable def g_law_int : List FnI := [⟨[true, false], [], f_law_pull⟩]
noncomputable def f_law_int : List PD.Arg → FRes := runDef (md.gam g_law_int) ⟨3, b_law_int⟩
def N_check_number : List Str := ["thing"]
def b_check_number : Sts := (.cons (.if_ (.not_ (.tru (.call 0 (.cons (.var 0) .nil)))) (.cons (.rais "BadNumber") .nil) .nil) (.cons (.if_ (.or_ (.cmp .ge (.bfn .abs (.cons (.idx (.var 0) (.lit (.int (0)))) .nil)) (.glo 2)) (.cmp .ge (.idx (.var 0) (.lit (.int (1)))) (.glo 2))) (.cons (.raisf "TooLarge" "what" (.lit (.str "figures"))) .nil) .nil) (.cons (.ret (.var 0)) .nil)))
def t_check_number : List (Str × Nat) := [("is_number", 1)]
noncomputable def g_check_number : List FnI := [⟨[false], [], f_is_number⟩]
noncomputable def f_check_number : List PD.Arg → FRes := runDef (md.gam g_check_number) ⟨1, b_check_number⟩
def N_minus : List Str := ["x", "y"]
def b_minus : Sts := (.cons (.ret (.call 0 (.cons (.var 0) (.cons (.tup (.cons (.neg (.idx (.var 1) (.lit (.int (0))))) (.cons (.idx (.var 1) (.lit (.int (1)))) .nil))) .nil)))) .nil)
def t_minus : List (Str × Nat) := [("plus", 2)]
noncomputable def g_minus : List FnI := [⟨[false, false], [], f_plus⟩]
noncomputable def f_minus : List PD.Arg → FRes := runDef (md.gam g_minus) ⟨2, b_minus⟩
def N_powered : List Str := ["x", "k", "made", "square"]
def b_powered : Sts := (.cons (.asg (.nm 2) (.glo 1)) (.cons (.asg (.nm 3) (.var 0)) (.cons (.whl (.cmp .gt (.var 1) (.lit (.int (0)))) (.cons (.if_ (.cmp .eq (.bin .mod (.var 1) (.lit (.int (2)))) (.lit (.int (1)))) (.cons (.asg (.nm 2) (.call 0 (.cons (.var 2) (.cons (.var 3) .nil)))) .nil) .nil) (.cons (.asg (.nm 1) (.bin .fdv (.var 1) (.lit (.int (2))))) (.cons (.if_ (.cmp .gt (.var 1) (.lit (.int (0)))) (.cons (.asg (.nm 3) (.call 0 (.cons (.var 3) (.cons (.var 3) .nil)))) .nil) .nil) .nil)))) (.cons (.ret (.var 2)) .nil))))
def t_powered : List (Str × Nat) := [("product_of", 2)]
noncomputable def g_powered : List FnI := [⟨[false, false], [], f_product_of⟩]
noncomputable def f_powered : List PD.Arg → FRes := runDef (md.gam g_powered) ⟨4, b_powered⟩
def N_sum_of : List Str := ["row", "made", "x"]
def lp0_sum_of : Sts := (.cons (.asg (.nm 1) (.call 0 (.cons (.var 1) (.cons (.var 2) .nil)))) .nil)
def b_sum_of : Sts := (.cons (.asg (.nm 1) (.glo 0)) (.cons (.for_ (.nm 2) (.seq (.var 0)) lp0_sum_of) (.cons (.ret (.var 1)) .nil)))
def t_sum_of : List (Str × Nat) := [("plus", 2)]
noncomputable def g_sum_of : List FnI := [⟨[false, false], [], f_plus⟩]
noncomputable def f_sum_of : List PD.Arg → FRes := runDef (md.gam g_sum_of) ⟨3, b_sum_of⟩
def N_lesser : List Str := ["x", "y"]
def b_lesser : Sts := (.cons (.ret (.ife (.cmp .le (.call 0 (.cons (.var 0) (.cons (.var 1) .nil))) (.lit (.int (0)))) (.var 0) (.var 1))) .nil)
def t_lesser : List (Str × Nat) := [("compared", 2)]
noncomputable def g_lesser : List FnI := [⟨[false, false], [], f_compared⟩]
noncomputable def f_lesser : List PD.Arg → FRes := runDef (md.gam g_lesser) ⟨2, b_lesser⟩
def N_greater : List Str := ["x", "y"]
def b_greater : Sts := (.cons (.ret (.ife (.cmp .ge (.call 0 (.cons (.var 0) (.cons (.var 1) .nil))) (.lit (.int (0)))) (.var 0) (.var 1))) .nil)
def t_greater : List (Str × Nat) := [("compared", 2)]
noncomputable def g_greater : List FnI := [⟨[false, false], [], f_compared⟩]
noncomputable def f_greater : List PD.Arg → FRes := runDef (md.gam g_greater) ⟨2, b_greater⟩
def N_complex_plus : List Str := ["a", "b"]
def b_complex_plus : Sts := (.cons (.ret (.tup (.cons (.call 0 (.cons (.idx (.var 0) (.lit (.int (0)))) (.cons (.idx (.var 1) (.lit (.int (0)))) .nil))) (.cons (.call 0 (.cons (.idx (.var 0) (.lit (.int (1)))) (.cons (.idx (.var 1) (.lit (.int (1)))) .nil))) .nil)))) .nil)
def t_complex_plus : List (Str × Nat) := [("plus", 2)]
noncomputable def g_complex_plus : List FnI := [⟨[false, false], [], f_plus⟩]
noncomputable def f_complex_plus : List PD.Arg → FRes := runDef (md.gam g_complex_plus) ⟨2, b_complex_plus⟩
def N_size_squared : List Str := ["a"]
def b_size_squared : Sts := (.cons (.ret (.call 0 (.cons (.call 1 (.cons (.idx (.var 0) (.lit (.int (0)))) (.cons (.idx (.var 0) (.lit (.int (0)))) .nil))) (.cons (.call 1 (.cons (.idx (.var 0) (.lit (.int (1)))) (.cons (.idx (.var 0) (.lit (.int (1)))) .nil))) .nil)))) .nil)
def t_size_squared : List (Str × Nat) := [("plus", 2), ("product_of", 2)]
noncomputable def g_size_squared : List FnI := [⟨[false, false], [], f_plus⟩, ⟨[false, false], [], f_product_of⟩]
noncomputable def f_size_squared : List PD.Arg → FRes := runDef (md.gam g_size_squared) ⟨1, b_size_squared⟩
def N_law_add : List Str := ["one", "two"]
def b_law_add : Sts := (.cons (.ret (.call 0 (.cons (.bin .add (.bin .mul (.idx (.var 0) (.lit (.int (0)))) (.idx (.var 1) (.lit (.int (1))))) (.bin .mul (.idx (.var 1) (.lit (.int (0)))) (.idx (.var 0) (.lit (.int (1)))))) (.cons (.bin .mul (.idx (.var 0) (.lit (.int (1)))) (.idx (.var 1) (.lit (.int (1))))) .nil)))) .nil)
def t_law_add : List (Str × Nat) := [("_law_frac", 2)]
noncomputable def g_law_add : List FnI := [⟨[false, false], [], f_law_frac⟩]
noncomputable def f_law_add : List PD.Arg → FRes := runDef (md.gam g_law_add) ⟨2, b_law_add⟩
def N_law_mul : List Str := ["one", "two"]
def b_law_mul : Sts := (.cons (.ret (.call 0 (.cons (.bin .mul (.idx (.var 0) (.lit (.int (0)))) (.idx (.var 1) (.lit (.int (0))))) (.cons (.bin .mul (.idx (.var 0) (.lit (.int (1)))) (.idx (.var 1) (.lit (.int (1))))) .nil)))) .nil)
def t_law_mul : List (Str × Nat) := [("_law_frac", 2)]
noncomputable def g_law_mul : List FnI := [⟨[false, false], [], f_law_frac⟩]
noncomputable def f_law_mul : List PD.Arg → FRes := runDef (md.gam g_law_mul) ⟨2, b_law_mul⟩
def N_law_div : List Str := ["one", "two"]
def b_law_div : Sts := (.cons (.ret (.call 0 (.cons (.bin .mul (.idx (.var 0) (.lit (.int (0)))) (.idx (.var 1) (.lit (.int (1))))) (.cons (.bin .mul (.idx (.var 0) (.lit (.int (1)))) (.idx (.var 1) (.lit (.int (0))))) .nil)))) .nil)
def t_law_div : List (Str × Nat) := [("_law_frac", 2)]
noncomputable def g_law_div : List FnI := [⟨[false, false], [], f_law_frac⟩]
noncomputable def f_law_div : List PD.Arg → FRes := runDef (md.gam g_law_div) ⟨2, b_law_div⟩
def N_law_number : List Str := ["well", "word", "top"]
def b_law_number : Sts := (.cons (.asg (.nm 1) (.call 0 (.cons (.var 0) (.cons (.lit (.int (12))) .nil)))) (.cons (.asg (.nm 2) (.idx (.lst (.cons (.lit (.int (1))) (.cons (.lit (.int (2))) (.cons (.lit (.int (0))) (.cons (.neg (.lit (.int (1)))) (.cons (.lit (.int (3))) (.cons (.neg (.lit (.int (2)))) (.cons (.lit (.int (5))) (.cons (.lit (.int (1))) (.cons (.neg (.lit (.int (3)))) (.cons (.lit (.int (7))) (.cons (.neg (.lit (.int (1)))) (.cons (.lit (.int (4))) .nil))))))))))))) (.call 0 (.cons (.var 0) (.cons (.lit (.int (12))) .nil))))) (.cons (.if_ (.cmp .lt (.var 1) (.lit (.int (5)))) (.cons (.ret (.tup (.cons (.var 2) (.cons (.lit (.int (1))) .nil)))) .nil) .nil) (.cons (.if_ (.cmp .lt (.var 1) (.lit (.int (8)))) (.cons (.ret (.call 1 (.cons (.var 2) (.cons (.lit (.int (2))) .nil)))) .nil) .nil) (.cons (.if_ (.cmp .lt (.var 1) (.lit (.int (10)))) (.cons (.ret (.call 1 (.cons (.var 2) (.cons (.bin .add (.lit (.int (3))) (.call 0 (.cons (.var 0) (.cons (.lit (.int (5))) .nil)))) .nil)))) .nil) .nil) (.cons (.if_ (.cmp .eq (.var 1) (.lit (.int (10)))) (.cons (.ret (.call 1 (.cons (.bin .add (.bin .mul (.var 2) (.lit (.int (60)))) (.call 0 (.cons (.var 0) (.cons (.lit (.int (60))) .nil)))) (.cons (.bin .add (.lit (.int (1))) (.call 0 (.cons (.var 0) (.cons (.lit (.int (60))) .nil)))) .nil)))) .nil) .nil) (.cons (.ret (.call 1 (.cons (.bin .add (.bin .mul (.var 2) (.bin .pow (.lit (.int (10))) (.lit (.int (20))))) (.lit (.int (1)))) (.cons (.bin .add (.bin .pow (.lit (.int (10))) (.lit (.int (19)))) (.bin .mul (.lit (.int (7))) (.call 0 (.cons (.var 0) (.cons (.lit (.int (60))) .nil))))) .nil)))) .nil)))))))
def t_law_number : List (Str × Nat) := [("_law_pull", 2), ("_law_frac", 2)]
noncomputable def g_law_number : List FnI := [⟨[true, false], [], f_law_pull⟩, ⟨[false, false], [], f_law_frac⟩]
noncomputable def f_law_number : List PD.Arg → FRes := runDef (md.gam g_law_number) ⟨3, b_law_number⟩
def N_law_told : List Str := ["told", "due"]
def b_law_told : Sts := (.cons (.ret (.and_ (.call 0 (.cons (.var 0) .nil)) (.and_ (.cmp .eq (.idx (.var 0) (.lit (.int (0)))) (.idx (.var 1) (.lit (.int (0))))) (.cmp .eq (.idx (.var 0) (.lit (.int (1)))) (.idx (.var 1) (.lit (.int (1)))))))) .nil)
def t_law_told : List (Str × Nat) := [("_law_is_frac", 1)]
noncomputable def g_law_told : List FnI := [⟨[false], [], f_law_is_frac⟩]
noncomputable def f_law_told : List PD.Arg → FRes := runDef (md.gam g_law_told) ⟨2, b_law_told⟩
def N_check_complex : List Str := ["thing"]
def b_check_complex : Sts := (.cons (.if_ (.or_ (.not_ (.isi (.var 0) [.ty "tuple"] false)) (.or_ (.cmp .ne (.bfn .len (.cons (.var 0) .nil)) (.lit (.int (2)))) (.or_ (.not_ (.tru (.call 0 (.cons (.idx (.var 0) (.lit (.int (0)))) .nil)))) (.not_ (.tru (.call 0 (.cons (.idx (.var 0) (.lit (.int (1)))) .nil))))))) (.cons (.rais "BadNumber") .nil) .nil) (.cons (.exp (.call 1 (.cons (.idx (.var 0) (.lit (.int (0)))) .nil))) (.cons (.exp (.call 1 (.cons (.idx (.var 0) (.lit (.int (1)))) .nil))) (.cons (.ret (.var 0)) .nil))))
def t_check_complex : List (Str × Nat) := [("is_number", 1), ("check_number", 1)]
noncomputable def g_check_complex : List FnI := [⟨[false], [], f_is_number⟩, ⟨[false], [], f_check_number⟩]
noncomputable def f_check_complex : List PD.Arg → FRes := runDef (md.gam g_check_complex) ⟨1, b_check_complex⟩
def N_complex_times : List Str := ["a", "b"]
def b_complex_times : Sts := (.cons (.ret (.tup (.cons (.call 0 (.cons (.call 1 (.cons (.idx (.var 0) (.lit (.int (0)))) (.cons (.idx (.var 1) (.lit (.int (0)))) .nil))) (.cons (.call 1 (.cons (.idx (.var 0) (.lit (.int (1)))) (.cons (.idx (.var 1) (.lit (.int (1)))) .nil))) .nil))) (.cons (.call 2 (.cons (.call 1 (.cons (.idx (.var 0) (.lit (.int (0)))) (.cons (.idx (.var 1) (.lit (.int (1)))) .nil))) (.cons (.call 1 (.cons (.idx (.var 0) (.lit (.int (1)))) (.cons (.idx (.var 1) (.lit (.int (0)))) .nil))) .nil))) .nil)))) .nil)
def t_complex_times : List (Str × Nat) := [("minus", 2), ("product_of", 2), ("plus", 2)]
noncomputable def g_complex_times : List FnI := [⟨[false, false], [], f_minus⟩, ⟨[false, false], [], f_product_of⟩, ⟨[false, false], [], f_plus⟩]
noncomputable def f_complex_times : List PD.Arg → FRes := runDef (md.gam g_complex_times) ⟨2, b_complex_times⟩
def N_law_any : List Str := ["well", "top"]
def b_law_any : Sts := (.cons (.if_ (.cmp .eq (.call 0 (.cons (.var 0) (.cons (.lit (.int (2))) .nil))) (.lit (.int (0)))) (.cons (.ret (.call 1 (.cons (.var 0) .nil))) .nil) .nil) (.cons (.asg (.nm 1) (.call 2 (.cons (.var 0) .nil))) (.cons (.ret (.call 3 (.cons (.var 1) (.cons (.bin .add (.lit (.int (1))) (.bfn .abs (.cons (.call 2 (.cons (.var 0) .nil)) .nil))) .nil)))) .nil)))
def t_law_any : List (Str × Nat) := [("_law_pull", 2), ("_law_number", 1), ("_law_int", 1), ("_law_frac", 2)]
noncomputable def g_law_any : List FnI := [⟨[true, false], [], f_law_pull⟩, ⟨[true], [], f_law_number⟩, ⟨[true], [], f_law_int⟩, ⟨[false, false], [], f_law_frac⟩]
noncomputable def f_law_any : List PD.Arg → FRes := runDef (md.gam g_law_any) ⟨2, b_law_any⟩
def N_law_is_pair : List Str := ["told", "due"]
def b_law_is_pair : Sts := (.cons (.if_ (.or_ (.not_ (.isi (.var 0) [.ty "tuple"] false)) (.cmp .ne (.bfn .len (.cons (.var 0) .nil)) (.lit (.int (2))))) (.cons (.ret (.lit (.bl false))) .nil) .nil) (.cons (.ret (.and_ (.call 0 (.cons (.idx (.var 0) (.lit (.int (0)))) (.cons (.idx (.var 1) (.lit (.int (0)))) .nil))) (.call 0 (.cons (.idx (.var 0) (.lit (.int (1)))) (.cons (.idx (.var 1) (.lit (.int (1)))) .nil))))) .nil))
def t_law_is_pair : List (Str × Nat) := [("_law_told", 2)]
noncomputable def g_law_is_pair : List FnI := [⟨[false, false], [], f_law_told⟩]
noncomputable def f_law_is_pair : List PD.Arg → FRes := runDef (md.gam g_law_is_pair) ⟨2, b_law_is_pair⟩
def N_law_rows : List Str := ["row", "due", "one", "kept"]
def lp0_law_rows : Sts := (.cons (.asg (.nm 1) (.call 0 (.cons (.var 1) (.cons (.var 2) .nil)))) .nil)
def b_law_rows : Sts := (.cons (.asg (.nm 1) (.tup (.cons (.lit (.int (0))) (.cons (.lit (.int (1))) .nil)))) (.cons (.for_ (.nm 2) (.seq (.var 0)) lp0_law_rows) (.cons (.asg (.nm 3) (.bfn .tuple (.cons (.var 0) .nil))) (.cons (.if_ (.or_ (.not_ (.tru (.call 1 (.cons (.call 2 (.cons (.var 0) .nil)) (.cons (.var 1) .nil))))) (.or_ (.not_ (.tru (.call 1 (.cons (.call 2 (.cons (.var 3) .nil)) (.cons (.var 1) .nil))))) (.cmp .ne (.bfn .tuple (.cons (.var 0) .nil)) (.var 3)))) (.cons (.ret (.lit (.bl false))) .nil) .nil) (.cons (.ret (.and_ (.call 1 (.cons (.call 2 (.cons (.lst .nil) .nil)) (.cons (.tup (.cons (.lit (.int (0))) (.cons (.lit (.int (1))) .nil))) .nil))) (.call 1 (.cons (.call 2 (.cons (.tup .nil) .nil)) (.cons (.tup (.cons (.lit (.int (0))) (.cons (.lit (.int (1))) .nil))) .nil))))) .nil)))))
def t_law_rows : List (Str × Nat) := [("_law_add", 2), ("_law_told", 2), ("sum_of", 1)]
noncomputable def g_law_rows : List FnI := [⟨[false, false], [], f_law_add⟩, ⟨[false, false], [], f_law_told⟩, ⟨[false], [], f_sum_of⟩]
noncomputable def f_law_rows : List PD.Arg → FRes := runDef (md.gam g_law_rows) ⟨4, b_law_rows⟩
def N_complex_over : List Str := ["a", "b", "size", "made"]
def b_complex_over : Sts := (.cons (.asg (.nm 2) (.call 0 (.cons (.var 1) .nil))) (.cons (.if_ (.cmp .eq (.idx (.var 2) (.lit (.int (0)))) (.lit (.int (0)))) (.cons (.rais "BadNumber") .nil) .nil) (.cons (.asg (.nm 3) (.call 1 (.cons (.var 0) (.cons (.tup (.cons (.idx (.var 1) (.lit (.int (0)))) (.cons (.call 2 (.cons (.idx (.var 1) (.lit (.int (1)))) .nil)) .nil))) .nil)))) (.cons (.ret (.tup (.cons (.call 3 (.cons (.idx (.var 3) (.lit (.int (0)))) (.cons (.var 2) .nil))) (.cons (.call 3 (.cons (.idx (.var 3) (.lit (.int (1)))) (.cons (.var 2) .nil))) .nil)))) .nil))))
def t_complex_over : List (Str × Nat) := [("size_squared", 1), ("complex_times", 2), ("opposite", 1), ("over", 2)]
noncomputable def g_complex_over : List FnI := [⟨[false], [], f_size_squared⟩, ⟨[false, false], [], f_complex_times⟩, ⟨[false], [], f_opposite⟩, ⟨[false, false], [], f_over⟩]
noncomputable def f_complex_over : List PD.Arg → FRes := runDef (md.gam g_complex_over) ⟨4, b_complex_over⟩
def N_law_asked : List Str := ["door", "one", "two", "asked", "fault"]
def b_law_asked : Sts := (.cons (.asg (.nm 3) (.lit (.non))) (.cons (.try_ (.cons (.if_ (.cmp .eq (.var 0) (.lit (.str "fraction"))) (.cons (.asg (.nm 3) (.tup (.cons (.lit (.str "told")) (.cons (.call 0 (.cons (.var 1) (.cons (.var 2) .nil))) .nil)))) .nil) (.cons (.if_ (.cmp .eq (.var 0) (.lit (.str "whole"))) (.cons (.asg (.nm 3) (.tup (.cons (.lit (.str "told")) (.cons (.call 1 (.cons (.var 1) .nil)) .nil)))) .nil) (.cons (.if_ (.cmp .eq (.var 0) (.lit (.str "number"))) (.cons (.asg (.nm 3) (.tup (.cons (.lit (.str "told")) (.cons (.call 2 (.cons (.var 1) .nil)) .nil)))) .nil) (.cons (.if_ (.cmp .eq (.var 0) (.lit (.str "complex"))) (.cons (.asg (.nm 3) (.tup (.cons (.lit (.str "told")) (.cons (.call 3 (.cons (.var 1) .nil)) .nil)))) .nil) (.cons (.if_ (.cmp .eq (.var 0) (.lit (.str "over"))) (.cons (.asg (.nm 3) (.tup (.cons (.lit (.str "told")) (.cons (.call 4 (.cons (.var 1) (.cons (.var 2) .nil))) .nil)))) .nil) (.cons (.asg (.nm 3) (.tup (.cons (.lit (.str "told")) (.cons (.call 5 (.cons (.var 1) (.cons (.var 2) .nil))) .nil)))) .nil)) .nil)) .nil)) .nil)) .nil)) .nil) (.cons ["BadPoly", "BadMatrix", "BadWord", "BadLink", "BadRule", "BadRow", "BadRelation", "BadName", "NotNilpotent"] true none (.cons (.asg (.nm 3) (.tup (.cons (.lit (.str "odd")) .nil))) .nil) (.cons ["LowOrder", "MixedRow", "BadText", "Pole", "Unknown"] true none (.cons (.asg (.nm 3) (.tup (.cons (.lit (.str "odd")) .nil))) .nil) (.cons ["TooLarge"] false (some 4) (.cons (.asg (.nm 3) (.tup (.cons (.lit (.str "large")) (.cons (.xfld 4 "what") (.cons (.and_ (.isx 4 ["RunsError"] false) (.not_ (.isx 4 ["BadNumber"] false))) .nil))))) .nil) (.cons ["BadNumber"] false (some 4) (.cons (.asg (.nm 3) (.tup (.cons (.lit (.str "bad")) (.cons (.and_ (.isx 4 ["RunsError"] false) (.isv 4 "ValueError")) .nil)))) .nil) .nil))))) (.cons (.ret (.var 3)) .nil)))
def t_law_asked : List (Str × Nat) := [("fraction", 2), ("fraction", 1), ("check_number", 1), ("check_complex", 1), ("over", 2), ("complex_over", 2)]
noncomputable def g_law_asked : List FnI := [⟨[false, false], [], f_fraction⟩, ⟨[false, false], [.int (1)], f_fraction⟩, ⟨[false], [], f_check_number⟩, ⟨[false], [], f_check_complex⟩, ⟨[false, false], [], f_over⟩, ⟨[false, false], [], f_complex_over⟩]
noncomputable def f_law_asked : List PD.Arg → FRes := runDef (md.gam g_law_asked) ⟨5, b_law_asked⟩
def N_law_is_bad : List Str := ["door", "one", "two", "asked"]
def b_law_is_bad : Sts := (.cons (.asg (.nm 3) (.call 0 (.cons (.var 0) (.cons (.var 1) (.cons (.var 2) .nil))))) (.cons (.ret (.and_ (.cmp .eq (.idx (.var 3) (.lit (.int (0)))) (.lit (.str "bad"))) (.cmp .is_ (.idx (.var 3) (.lit (.int (1)))) (.lit (.bl true))))) .nil))
def t_law_is_bad : List (Str × Nat) := [("_law_asked", 3)]
noncomputable def g_law_is_bad : List FnI := [⟨[false, false, false], [], f_law_asked⟩]
noncomputable def f_law_is_bad : List PD.Arg → FRes := runDef (md.gam g_law_is_bad) ⟨4, b_law_is_bad⟩
def N_law_is_large : List Str := ["door", "one", "asked"]
def b_law_is_large : Sts := (.cons (.asg (.nm 2) (.call 0 (.cons (.var 0) (.cons (.var 1) (.cons (.lit (.non)) .nil))))) (.cons (.ret (.and_ (.cmp .eq (.idx (.var 2) (.lit (.int (0)))) (.lit (.str "large"))) (.and_ (.isi (.idx (.var 2) (.lit (.int (1)))) [.ty "str"] false) (.and_ (.cmp .eq (.idx (.var 2) (.lit (.int (1)))) (.lit (.str "figures"))) (.cmp .is_ (.idx (.var 2) (.lit (.int (2)))) (.lit (.bl true))))))) .nil))
def t_law_is_large : List (Str × Nat) := [("_law_asked", 3)]
noncomputable def g_law_is_large : List FnI := [⟨[false, false, false], [], f_law_asked⟩]
noncomputable def f_law_is_large : List PD.Arg → FRes := runDef (md.gam g_law_is_large) ⟨3, b_law_is_large⟩
def N_law_fractions : List Str := ["top", "bottom", "scale", "pair", "asked", "thing"]
def lp0_law_fractions : Sts := (.cons (.asg (.nm 4) (.call 0 (.cons (.lit (.str "fraction")) (.cons (.idx (.var 3) (.lit (.int (0)))) (.cons (.idx (.var 3) (.lit (.int (1)))) .nil))))) (.cons (.if_ (.or_ (.cmp .ne (.idx (.var 4) (.lit (.int (0)))) (.lit (.str "told"))) (.not_ (.tru (.call 1 (.cons (.idx (.var 4) (.lit (.int (1)))) (.cons (.call 2 (.cons (.idx (.var 3) (.lit (.int (0)))) (.cons (.idx (.var 3) (.lit (.int (1)))) .nil))) .nil)))))) (.cons (.ret (.lit (.bl false))) .nil) .nil) .nil))
def lp1_law_fractions : Sts := (.cons (.if_ (.or_ (.not_ (.tru (.call 3 (.cons (.lit (.str "fraction")) (.cons (.var 5) (.cons (.var 1) .nil)))))) (.not_ (.tru (.call 3 (.cons (.lit (.str "fraction")) (.cons (.var 0) (.cons (.var 5) .nil))))))) (.cons (.ret (.lit (.bl false))) .nil) .nil) (.cons (.if_ (.or_ (.not_ (.tru (.call 3 (.cons (.lit (.str "fraction")) (.cons (.var 5) (.cons (.lit (.int (0))) .nil)))))) (.not_ (.tru (.call 3 (.cons (.lit (.str "whole")) (.cons (.var 5) (.cons (.lit (.non)) .nil))))))) (.cons (.ret (.lit (.bl false))) .nil) .nil) .nil))
def b_law_fractions : Sts := (.cons (.for_ (.nm 3) (.seq (.tup (.cons (.tup (.cons (.var 0) (.cons (.var 1) .nil))) (.cons (.tup (.cons (.bin .mul (.var 0) (.var 2)) (.cons (.bin .mul (.var 1) (.var 2)) .nil))) (.cons (.tup (.cons (.var 0) (.cons (.neg (.var 1)) .nil))) (.cons (.tup (.cons (.bin .add (.bin .mul (.var 0) (.var 2)) (.lit (.int (1)))) (.cons (.bin .mul (.var 1) (.var 2)) .nil))) .nil)))))) lp0_law_fractions) (.cons (.asg (.nm 4) (.call 0 (.cons (.lit (.str "whole")) (.cons (.var 0) (.cons (.lit (.non)) .nil))))) (.cons (.if_ (.or_ (.cmp .ne (.idx (.var 4) (.lit (.int (0)))) (.lit (.str "told"))) (.not_ (.tru (.call 1 (.cons (.idx (.var 4) (.lit (.int (1)))) (.cons (.tup (.cons (.var 0) (.cons (.lit (.int (1))) .nil))) .nil)))))) (.cons (.ret (.lit (.bl false))) .nil) .nil) (.cons (.for_ (.nm 5) (.seq (.tup (.cons (.lit (.non)) (.cons (.lit (.bl true)) (.cons (.lit (.bl false)) (.cons (.lit (.str "3")) (.cons (.tup (.cons (.var 0) (.cons (.lit (.int (1))) .nil))) (.cons (.lst (.cons (.var 0) .nil)) .nil)))))))) lp1_law_fractions) (.cons (.ret (.call 3 (.cons (.lit (.str "fraction")) (.cons (.var 0) (.cons (.lit (.int (0))) .nil))))) .nil)))))
def t_law_fractions : List (Str × Nat) := [("_law_asked", 3), ("_law_told", 2), ("_law_frac", 2), ("_law_is_bad", 3)]
noncomputable def g_law_fractions : List FnI := [⟨[false, false, false], [], f_law_asked⟩, ⟨[false, false], [], f_law_told⟩, ⟨[false, false], [], f_law_frac⟩, ⟨[false, false, false], [], f_law_is_bad⟩]
noncomputable def f_law_fractions : List PD.Arg → FRes := runDef (md.gam g_law_fractions) ⟨6, b_law_fractions⟩
def N_law_numbers : List Str := ["x", "y", "p", "q", "thing", "great", "asked", "both"]
def lp0_law_numbers : Sts := (.cons (.if_ (.or_ (.cmp .isn (.call 0 (.cons (.var 4) .nil)) (.lit (.bl false))) (.not_ (.tru (.call 1 (.cons (.lit (.str "number")) (.cons (.var 4) (.cons (.lit (.non)) .nil))))))) (.cons (.ret (.lit (.bl false))) .nil) .nil) (.cons (.if_ (.or_ (.not_ (.tru (.call 1 (.cons (.lit (.str "complex")) (.cons (.tup (.cons (.var 1) (.cons (.var 4) .nil))) (.cons (.lit (.non)) .nil)))))) (.not_ (.tru (.call 1 (.cons (.lit (.str "complex")) (.cons (.tup (.cons (.var 4) (.cons (.var 1) .nil))) (.cons (.lit (.non)) .nil))))))) (.cons (.ret (.lit (.bl false))) .nil) .nil) .nil))
def lp1_law_numbers : Sts := (.cons (.if_ (.not_ (.tru (.call 1 (.cons (.lit (.str "complex")) (.cons (.var 4) (.cons (.lit (.non)) .nil)))))) (.cons (.ret (.lit (.bl false))) .nil) .nil) .nil)
def lp2_law_numbers : Sts := (.cons (.if_ (.cmp .isn (.call 0 (.cons (.var 4) .nil)) (.lit (.bl true))) (.cons (.ret (.lit (.bl false))) .nil) .nil) (.cons (.asg (.nm 6) (.call 2 (.cons (.lit (.str "number")) (.cons (.var 4) (.cons (.lit (.non)) .nil))))) (.cons (.asg (.nm 7) (.call 2 (.cons (.lit (.str "complex")) (.cons (.tup (.cons (.var 1) (.cons (.var 4) .nil))) (.cons (.lit (.non)) .nil))))) (.cons (.if_ (.or_ (.cmp .ge (.bfn .abs (.cons (.idx (.var 4) (.lit (.int (0)))) .nil)) (.var 5)) (.cmp .ge (.idx (.var 4) (.lit (.int (1)))) (.var 5))) (.cons (.if_ (.or_ (.not_ (.tru (.call 3 (.cons (.lit (.str "number")) (.cons (.var 4) .nil))))) (.or_ (.not_ (.tru (.call 3 (.cons (.lit (.str "complex")) (.cons (.tup (.cons (.var 4) (.cons (.var 1) .nil))) .nil))))) (.cmp .ne (.idx (.var 7) (.lit (.int (0)))) (.lit (.str "large"))))) (.cons (.ret (.lit (.bl false))) .nil) .nil) (.cons (.if_ (.or_ (.not_ (.tru (.call 3 (.cons (.lit (.str "number")) (.cons (.tup (.cons (.neg (.idx (.var 4) (.lit (.int (0))))) (.cons (.idx (.var 4) (.lit (.int (1)))) .nil))) .nil))))) (.not_ (.tru (.call 1 (.cons (.lit (.str "complex")) (.cons (.tup (.cons (.var 4) (.cons (.lit (.int (5))) .nil))) (.cons (.lit (.non)) .nil))))))) (.cons (.ret (.lit (.bl false))) .nil) .nil) .nil)) (.cons (.if_ (.or_ (.cmp .ne (.idx (.var 6) (.lit (.int (0)))) (.lit (.str "told"))) (.not_ (.tru (.call 4 (.cons (.idx (.var 6) (.lit (.int (1)))) (.cons (.var 4) .nil)))))) (.cons (.ret (.lit (.bl false))) .nil) (.cons (.if_ (.or_ (.cmp .ne (.idx (.var 7) (.lit (.int (0)))) (.lit (.str "told"))) (.not_ (.tru (.call 5 (.cons (.idx (.var 7) (.lit (.int (1)))) (.cons (.tup (.cons (.var 1) (.cons (.var 4) .nil))) .nil)))))) (.cons (.ret (.lit (.bl false))) .nil) .nil) .nil)) .nil)) .nil))))
def b_law_numbers : Sts := (.cons (.asg (.nm 2) (.idx (.var 0) (.lit (.int (0))))) (.cons (.asg (.nm 3) (.idx (.var 0) (.lit (.int (1))))) (.cons (.for_ (.nm 4) (.seq (.tup (.cons (.lst (.cons (.var 2) (.cons (.var 3) .nil))) (.cons (.tup (.cons (.bin .mul (.lit (.int (2))) (.var 2)) (.cons (.bin .mul (.lit (.int (2))) (.var 3)) .nil))) (.cons (.tup (.cons (.var 2) (.cons (.neg (.var 3)) .nil))) (.cons (.tup (.cons (.var 2) (.cons (.lit (.int (0))) .nil))) (.cons (.tup (.cons (.lit (.bl true)) (.cons (.var 3) .nil))) (.cons (.tup (.cons (.var 2) (.cons (.lit (.bl true)) .nil))) (.cons (.tup (.cons (.var 2) .nil)) (.cons (.tup (.cons (.var 2) (.cons (.var 3) (.cons (.lit (.int (1))) .nil)))) (.cons (.tup (.cons (.lit (.str "1")) (.cons (.var 3) .nil))) (.cons (.tup (.cons (.var 2) (.cons (.lit (.non)) .nil))) (.cons (.var 2) (.cons (.lit (.non)) (.cons (.lit (.str "1/2")) (.cons (.tup (.cons (.tup (.cons (.var 2) (.cons (.var 3) .nil))) (.cons (.tup (.cons (.lit (.int (1))) (.cons (.lit (.int (1))) .nil))) .nil))) (.cons (.lit (.bl true)) (.cons (.tup .nil) (.cons (.tup (.cons (.bin .mul (.lit (.int (2))) (.bin .pow (.bin .pow (.lit (.int (10))) (.lit (.int (50)))) (.lit (.int (8))))) (.cons (.lit (.int (2))) .nil))) .nil))))))))))))))))))) lp0_law_numbers) (.cons (.for_ (.nm 4) (.seq (.tup (.cons (.lst (.cons (.var 0) (.cons (.var 1) .nil))) (.cons (.tup (.cons (.var 0) .nil)) (.cons (.tup (.cons (.var 0) (.cons (.var 1) (.cons (.var 0) .nil)))) (.cons (.lit (.non)) (.cons (.var 0) (.cons (.lit (.str "i")) .nil)))))))) lp1_law_numbers) (.cons (.asg (.nm 5) (.bin .pow (.bin .pow (.lit (.int (10))) (.lit (.int (50)))) (.lit (.int (8))))) (.cons (.for_ (.nm 4) (.seq (.tup (.cons (.var 0) (.cons (.var 1) (.cons (.tup (.cons (.lit (.int (0))) (.cons (.lit (.int (1))) .nil))) (.cons (.tup (.cons (.bin .sub (.var 5) (.lit (.int (1)))) (.cons (.lit (.int (1))) .nil))) (.cons (.tup (.cons (.bin .sub (.lit (.int (1))) (.var 5)) (.cons (.lit (.int (1))) .nil))) (.cons (.tup (.cons (.lit (.int (1))) (.cons (.bin .sub (.var 5) (.lit (.int (1)))) .nil))) (.cons (.tup (.cons (.var 5) (.cons (.bin .sub (.var 5) (.lit (.int (1)))) .nil))) (.cons (.tup (.cons (.lit (.int (1))) (.cons (.var 5) .nil))) .nil)))))))))) lp2_law_numbers) (.cons (.ret (.lit (.bl true))) .nil)))))))
def t_law_numbers : List (Str × Nat) := [("is_number", 1), ("_law_is_bad", 3), ("_law_asked", 3), ("_law_is_large", 2), ("_law_told", 2), ("_law_is_pair", 2)]
noncomputable def g_law_numbers : List FnI := [⟨[false], [], f_is_number⟩, ⟨[false, false, false], [], f_law_is_bad⟩, ⟨[false, false, false], [], f_law_asked⟩, ⟨[false, false], [], f_law_is_large⟩, ⟨[false, false], [], f_law_told⟩, ⟨[false, false], [], f_law_is_pair⟩]
noncomputable def f_law_numbers : List PD.Arg → FRes := runDef (md.gam g_law_numbers) ⟨8, b_law_numbers⟩
def N_law_sums : List Str := ["x", "y", "k", "power", "turn", "order", "sign", "pair", "least", "most"]
def lp0_law_sums : Sts := (.cons (.asg (.nm 3) (.call 6 (.cons (.var 3) (.cons (.var 0) .nil)))) .nil)
def lp1_law_sums : Sts := (.cons (.if_ (.or_ (.not_ (.tru (.call 14 (.cons (.idx (.var 7) (.lit (.int (0)))) .nil)))) (.cmp .ne (.idx (.var 7) (.lit (.int (0)))) (.idx (.var 7) (.lit (.int (1)))))) (.cons (.ret (.lit (.bl false))) .nil) .nil) .nil)
def b_law_sums : Sts := (.cons (.if_ (.or_ (.not_ (.tru (.call 0 (.cons (.call 1 (.cons (.var 0) (.cons (.var 1) .nil))) (.cons (.call 2 (.cons (.var 0) (.cons (.var 1) .nil))) .nil))))) (.not_ (.tru (.call 0 (.cons (.call 3 (.cons (.var 0) (.cons (.var 1) .nil))) (.cons (.call 2 (.cons (.var 0) (.cons (.call 4 (.cons (.var 1) .nil)) .nil))) .nil)))))) (.cons (.ret (.lit (.bl false))) .nil) .nil) (.cons (.if_ (.or_ (.not_ (.tru (.call 0 (.cons (.call 5 (.cons (.var 0) (.cons (.var 1) .nil))) (.cons (.call 6 (.cons (.var 0) (.cons (.var 1) .nil))) .nil))))) (.not_ (.tru (.call 0 (.cons (.call 7 (.cons (.var 0) .nil)) (.cons (.call 4 (.cons (.var 0) .nil)) .nil)))))) (.cons (.ret (.lit (.bl false))) .nil) .nil) (.cons (.if_ (.not_ (.tru (.call 0 (.cons (.call 8 (.cons (.var 0) .nil)) (.cons (.tup (.cons (.bfn .abs (.cons (.idx (.var 0) (.lit (.int (0)))) .nil)) (.cons (.idx (.var 0) (.lit (.int (1)))) .nil))) .nil))))) (.cons (.ret (.lit (.bl false))) .nil) .nil) (.cons (.asg (.nm 3) (.tup (.cons (.lit (.int (1))) (.cons (.lit (.int (1))) .nil)))) (.cons (.for_ (.nm 4) (.rng1 (.var 2)) lp0_law_sums) (.cons (.if_ (.or_ (.not_ (.tru (.call 0 (.cons (.call 9 (.cons (.var 0) (.cons (.var 2) .nil))) (.cons (.var 3) .nil))))) (.not_ (.tru (.call 0 (.cons (.call 9 (.cons (.var 0) (.cons (.lit (.int (0))) .nil))) (.cons (.tup (.cons (.lit (.int (1))) (.cons (.lit (.int (1))) .nil))) .nil)))))) (.cons (.ret (.lit (.bl false))) .nil) .nil) (.cons (.if_ (.cmp .eq (.idx (.var 1) (.lit (.int (0)))) (.lit (.int (0)))) (.cons (.if_ (.not_ (.tru (.call 10 (.cons (.lit (.str "over")) (.cons (.var 0) (.cons (.var 1) .nil)))))) (.cons (.ret (.lit (.bl false))) .nil) .nil) .nil) (.cons (.if_ (.not_ (.tru (.call 0 (.cons (.call 11 (.cons (.var 0) (.cons (.var 1) .nil))) (.cons (.call 12 (.cons (.var 0) (.cons (.var 1) .nil))) .nil))))) (.cons (.ret (.lit (.bl false))) .nil) .nil) .nil)) (.cons (.asg (.nm 5) (.lit (.int (0)))) (.cons (.if_ (.tru (.call 13 (.cons (.var 0) (.cons (.var 1) .nil)))) (.cons (.asg (.nm 5) (.neg (.lit (.int (1))))) .nil) (.cons (.if_ (.tru (.call 13 (.cons (.var 1) (.cons (.var 0) .nil)))) (.cons (.asg (.nm 5) (.lit (.int (1)))) .nil) .nil) .nil)) (.cons (.asg (.nm 6) (.lit (.int (0)))) (.cons (.if_ (.cmp .ne (.idx (.var 0) (.lit (.int (0)))) (.lit (.int (0)))) (.cons (.asg (.nm 6) (.bin .fdv (.idx (.var 0) (.lit (.int (0)))) (.bfn .abs (.cons (.idx (.var 0) (.lit (.int (0)))) .nil)))) .nil) .nil) (.cons (.for_ (.nm 7) (.seq (.tup (.cons (.tup (.cons (.call 15 (.cons (.var 0) (.cons (.var 1) .nil))) (.cons (.var 5) .nil))) (.cons (.tup (.cons (.call 15 (.cons (.var 1) (.cons (.var 0) .nil))) (.cons (.neg (.var 5)) .nil))) (.cons (.tup (.cons (.call 15 (.cons (.var 0) (.cons (.var 0) .nil))) (.cons (.lit (.int (0))) .nil))) (.cons (.tup (.cons (.call 16 (.cons (.var 0) .nil)) (.cons (.var 6) .nil))) .nil)))))) lp1_law_sums) (.cons (.asg (.nm 8) (.var 1)) (.cons (.asg (.nm 9) (.var 0)) (.cons (.if_ (.cmp .lt (.var 5) (.lit (.int (0)))) (.cons (.asg (.nm 8) (.var 0)) (.cons (.asg (.nm 9) (.var 1)) .nil)) .nil) (.cons (.ret (.and_ (.call 0 (.cons (.call 17 (.cons (.var 0) (.cons (.var 1) .nil))) (.cons (.var 8) .nil))) (.call 0 (.cons (.call 18 (.cons (.var 0) (.cons (.var 1) .nil))) (.cons (.var 9) .nil))))) .nil))))))))))))))))
def t_law_sums : List (Str × Nat) := [("_law_told", 2), ("plus", 2), ("_law_add", 2), ("minus", 2), ("_law_neg", 1), ("product_of", 2), ("_law_mul", 2), ("opposite", 1), ("size_of", 1), ("powered", 2), ("_law_is_bad", 3), ("over", 2), ("_law_div", 2), ("_law_less", 2), ("_law_whole", 1), ("compared", 2), ("sign_of", 1), ("lesser", 2), ("greater", 2)]
noncomputable def g_law_sums : List FnI := [⟨[false, false], [], f_law_told⟩, ⟨[false, false], [], f_plus⟩, ⟨[false, false], [], f_law_add⟩, ⟨[false, false], [], f_minus⟩, ⟨[false], [], f_law_neg⟩, ⟨[false, false], [], f_product_of⟩, ⟨[false, false], [], f_law_mul⟩, ⟨[false], [], f_opposite⟩, ⟨[false], [], f_size_of⟩, ⟨[false, false], [], f_powered⟩, ⟨[false, false, false], [], f_law_is_bad⟩, ⟨[false, false], [], f_over⟩, ⟨[false, false], [], f_law_div⟩, ⟨[false, false], [], f_law_less⟩, ⟨[false], [], f_law_whole⟩, ⟨[false, false], [], f_compared⟩, ⟨[false], [], f_sign_of⟩, ⟨[false, false], [], f_lesser⟩, ⟨[false, false], [], f_greater⟩]
noncomputable def f_law_sums : List PD.Arg → FRes := runDef (md.gam g_law_sums) ⟨10, b_law_sums⟩
def N_law_complex : List Str := ["a", "b", "real", "other", "size"]
def b_law_complex : Sts := (.cons (.if_ (.not_ (.tru (.call 0 (.cons (.call 1 (.cons (.var 0) (.cons (.var 1) .nil))) (.cons (.tup (.cons (.call 2 (.cons (.idx (.var 0) (.lit (.int (0)))) (.cons (.idx (.var 1) (.lit (.int (0)))) .nil))) (.cons (.call 2 (.cons (.idx (.var 0) (.lit (.int (1)))) (.cons (.idx (.var 1) (.lit (.int (1)))) .nil))) .nil))) .nil))))) (.cons (.ret (.lit (.bl false))) .nil) .nil) (.cons (.asg (.nm 2) (.call 2 (.cons (.call 3 (.cons (.idx (.var 0) (.lit (.int (0)))) (.cons (.idx (.var 1) (.lit (.int (0)))) .nil))) (.cons (.call 4 (.cons (.call 3 (.cons (.idx (.var 0) (.lit (.int (1)))) (.cons (.idx (.var 1) (.lit (.int (1)))) .nil))) .nil)) .nil)))) (.cons (.asg (.nm 3) (.call 2 (.cons (.call 3 (.cons (.idx (.var 0) (.lit (.int (0)))) (.cons (.idx (.var 1) (.lit (.int (1)))) .nil))) (.cons (.call 3 (.cons (.idx (.var 0) (.lit (.int (1)))) (.cons (.idx (.var 1) (.lit (.int (0)))) .nil))) .nil)))) (.cons (.if_ (.not_ (.tru (.call 0 (.cons (.call 5 (.cons (.var 0) (.cons (.var 1) .nil))) (.cons (.tup (.cons (.var 2) (.cons (.var 3) .nil))) .nil))))) (.cons (.ret (.lit (.bl false))) .nil) .nil) (.cons (.asg (.nm 4) (.call 2 (.cons (.call 3 (.cons (.idx (.var 1) (.lit (.int (0)))) (.cons (.idx (.var 1) (.lit (.int (0)))) .nil))) (.cons (.call 3 (.cons (.idx (.var 1) (.lit (.int (1)))) (.cons (.idx (.var 1) (.lit (.int (1)))) .nil))) .nil)))) (.cons (.if_ (.not_ (.tru (.call 6 (.cons (.call 7 (.cons (.var 1) .nil)) (.cons (.var 4) .nil))))) (.cons (.ret (.lit (.bl false))) .nil) .nil) (.cons (.if_ (.cmp .eq (.idx (.var 4) (.lit (.int (0)))) (.lit (.int (0)))) (.cons (.ret (.call 8 (.cons (.lit (.str "across")) (.cons (.var 0) (.cons (.var 1) .nil))))) .nil) .nil) (.cons (.asg (.nm 2) (.call 2 (.cons (.call 3 (.cons (.idx (.var 0) (.lit (.int (0)))) (.cons (.idx (.var 1) (.lit (.int (0)))) .nil))) (.cons (.call 3 (.cons (.idx (.var 0) (.lit (.int (1)))) (.cons (.idx (.var 1) (.lit (.int (1)))) .nil))) .nil)))) (.cons (.asg (.nm 3) (.call 2 (.cons (.call 3 (.cons (.idx (.var 0) (.lit (.int (1)))) (.cons (.idx (.var 1) (.lit (.int (0)))) .nil))) (.cons (.call 4 (.cons (.call 3 (.cons (.idx (.var 0) (.lit (.int (0)))) (.cons (.idx (.var 1) (.lit (.int (1)))) .nil))) .nil)) .nil)))) (.cons (.ret (.call 0 (.cons (.call 9 (.cons (.var 0) (.cons (.var 1) .nil))) (.cons (.tup (.cons (.call 10 (.cons (.var 2) (.cons (.var 4) .nil))) (.cons (.call 10 (.cons (.var 3) (.cons (.var 4) .nil))) .nil))) .nil)))) .nil))))))))))
def t_law_complex : List (Str × Nat) := [("_law_is_pair", 2), ("complex_plus", 2), ("_law_add", 2), ("_law_mul", 2), ("_law_neg", 1), ("complex_times", 2), ("_law_told", 2), ("size_squared", 1), ("_law_is_bad", 3), ("complex_over", 2), ("_law_div", 2)]
noncomputable def g_law_complex : List FnI := [⟨[false, false], [], f_law_is_pair⟩, ⟨[false, false], [], f_complex_plus⟩, ⟨[false, false], [], f_law_add⟩, ⟨[false, false], [], f_law_mul⟩, ⟨[false], [], f_law_neg⟩, ⟨[false, false], [], f_complex_times⟩, ⟨[false, false], [], f_law_told⟩, ⟨[false], [], f_size_squared⟩, ⟨[false, false, false], [], f_law_is_bad⟩, ⟨[false, false], [], f_complex_over⟩, ⟨[false, false], [], f_law_div⟩]
noncomputable def f_law_complex : List PD.Arg → FRes := runDef (md.gam g_law_complex) ⟨5, b_law_complex⟩
def N_law : List Str := ["script", "well", "x", "y", "top", "bottom", "row", "turn", "small"]
def b_law : Sts := (.cons (.asg (.nm 1) (.call 0 (.cons (.var 0) .nil))) (.cons (.asg (.nm 2) (.call 1 (.cons (.var 1) .nil))) (.cons (.asg (.nm 3) (.call 1 (.cons (.var 1) .nil))) (.cons (.if_ (.cmp .eq (.call 2 (.cons (.var 1) (.cons (.lit (.int (5))) .nil))) (.lit (.int (4)))) (.cons (.asg (.nm 3) (.var 2)) .nil) .nil) (.cons (.asg (.nm 4) (.call 3 (.cons (.var 1) .nil))) (.cons (.asg (.nm 5) (.bin .add (.lit (.int (1))) (.bfn .abs (.cons (.call 3 (.cons (.var 1) .nil)) .nil)))) (.cons (.if_ (.not_ (.tru (.call 4 (.cons (.var 4) (.cons (.var 5) (.cons (.idx (.lst (.cons (.lit (.int (2))) (.cons (.neg (.lit (.int (1)))) (.cons (.lit (.int (6))) (.cons (.neg (.lit (.int (35)))) (.cons (.lit (.int (60))) .nil)))))) (.call 2 (.cons (.var 1) (.cons (.lit (.int (5))) .nil)))) .nil)))))) (.cons (.ret (.lit (.bl false))) .nil) .nil) (.cons (.if_ (.or_ (.not_ (.tru (.call 5 (.cons (.var 2) (.cons (.var 3) .nil))))) (.or_ (.not_ (.tru (.call 6 (.cons (.var 2) (.cons (.var 3) (.cons (.call 2 (.cons (.var 1) (.cons (.lit (.int (9))) .nil))) .nil)))))) (.not_ (.tru (.call 6 (.cons (.tup (.cons (.lit (.int (0))) (.cons (.lit (.int (1))) .nil))) (.cons (.var 2) (.cons (.lit (.int (3))) .nil)))))))) (.cons (.ret (.lit (.bl false))) .nil) .nil) (.cons (.if_ (.not_ (.tru (.call 6 (.cons (.var 2) (.cons (.tup (.cons (.lit (.int (0))) (.cons (.lit (.int (1))) .nil))) (.cons (.lit (.int (1))) .nil)))))) (.cons (.ret (.lit (.bl false))) .nil) .nil) (.cons (.asg (.nm 6) (.lc [7] (.nm 7) (.rng1 (.call 2 (.cons (.var 1) (.cons (.lit (.int (7))) .nil)))) (.lit (.bl true)) (.call 1 (.cons (.var 1) .nil)))) (.cons (.if_ (.or_ (.not_ (.tru (.call 7 (.cons (.var 6) .nil)))) (.not_ (.tru (.call 8 (.cons (.tup (.cons (.var 2) (.cons (.var 3) .nil))) (.cons (.tup (.cons (.call 9 (.cons (.var 1) .nil)) (.cons (.call 9 (.cons (.var 1) .nil)) .nil))) .nil)))))) (.cons (.ret (.lit (.bl false))) .nil) .nil) (.cons (.if_ (.not_ (.tru (.call 8 (.cons (.tup (.cons (.var 2) (.cons (.var 3) .nil))) (.cons (.tup (.cons (.tup (.cons (.lit (.int (0))) (.cons (.lit (.int (1))) .nil))) (.cons (.tup (.cons (.lit (.int (0))) (.cons (.lit (.int (1))) .nil))) .nil))) .nil))))) (.cons (.ret (.lit (.bl false))) .nil) .nil) (.cons (.asg (.nm 8) (.tup (.cons (.lit (.int (1))) (.cons (.bin .pow (.lit (.int (10))) (.lit (.int (60)))) .nil)))) (.cons (.ret (.call 10 (.cons (.call 11 (.cons (.call 12 (.cons (.tup (.cons (.lit (.int (1))) (.cons (.lit (.int (1))) .nil))) (.cons (.var 8) .nil))) (.cons (.tup (.cons (.lit (.int (1))) (.cons (.lit (.int (1))) .nil))) .nil))) (.cons (.var 8) .nil)))) .nil))))))))))))))
def t_law : List (Str × Nat) := [("_law_well", 1), ("_law_any", 1), ("_law_pull", 2), ("_law_int", 1), ("_law_fractions", 3), ("_law_numbers", 2), ("_law_sums", 3), ("_law_rows", 1), ("_law_complex", 2), ("_law_number", 1), ("_law_told", 2), ("minus", 2), ("plus", 2)]
noncomputable def g_law : List FnI := [⟨[false], [], f_law_well⟩, ⟨[true], [], f_law_any⟩, ⟨[true, false], [], f_law_pull⟩, ⟨[true], [], f_law_int⟩, ⟨[false, false, false], [], f_law_fractions⟩, ⟨[false, false], [], f_law_numbers⟩, ⟨[false, false, false], [], f_law_sums⟩, ⟨[false], [], f_law_rows⟩, ⟨[false, false], [], f_law_complex⟩, ⟨[true], [], f_law_number⟩, ⟨[false, false], [], f_law_told⟩, ⟨[false, false], [], f_minus⟩, ⟨[false, false], [], f_plus⟩]
noncomputable def f_law : List PD.Arg → FRes := runDef (md.gam g_law) ⟨9, b_law⟩
end K00

/-! K00Run -/
set_option Elab.async false
set_option linter.all false
set_option maxRecDepth 100000
set_option maxHeartbeats 0
/-! law_k00_fractions_in_one_form: the head run. -/
namespace K00
open PySem PySem.Spec PyProof.Rows PD L2

abbrev R : PySem.W.OpenRow := PySem.W.OpenLaw.row PySem.Challenge.rw_trueruns_k00_fractions_in_one_form
def addrsK : List Addr := [3, 2, 6, 4, 52, 65, 77, 89, 101, 113, 125, 137, 149, 161, 173, 185, 197, 218, 239, 260, 281, 284, 285, 292, 299, 307, 314, 321, 328, 335, 342, 349, 356, 363, 370, 377, 384, 391, 398, 405, 412, 419, 426, 433, 440, 447, 454, 461, 468, 475, 482, 489, 496, 503, 510, 517, 524, 531, 538, 545, 552, 559, 566, 573, 580, 587, 594, 601, 608, 613, 16, 20, 22, 27, 33, 38, 0, 51, 64, 76, 88, 100, 112, 124, 136, 148, 160, 172, 184, 196, 217, 238, 259, 280, 291, 298, 306, 300, 313, 320, 327, 334, 341, 348, 355, 362, 369, 376, 383, 390, 397, 404, 411, 418, 425, 432, 439, 446, 453, 460, 467, 474, 481, 488, 495, 502, 509, 516, 523, 530, 537, 544, 551, 558, 565, 572, 579, 586, 593, 600, 607, 612, 15, 21, 26, 32, 50, 53, 63, 75, 87, 99, 111, 123, 135, 147, 159, 171, 183, 195, 215, 216, 236, 237, 257, 258, 278, 279, 286, 287, 288, 289, 290, 293, 294, 295, 296, 297, 301, 302, 303, 304, 305, 308, 309, 310, 311, 312, 315, 316, 317, 318, 319, 322, 323, 324, 325, 326, 329, 330, 331, 332, 333, 336, 337, 338, 339, 340, 343, 344, 345, 346, 347, 350, 351, 352, 353, 354, 357, 358, 359, 360, 361, 364, 365, 366, 367, 368, 371, 372, 373, 374, 375, 378, 379, 380, 381, 382, 385, 386, 387, 388, 389, 392, 393, 394, 395, 396, 399, 400, 401, 402, 403, 406, 407, 408, 409, 410, 413, 414, 415, 416, 417, 420, 421, 422, 423, 424, 427, 428, 429, 430, 431, 434, 435, 436, 437, 438, 441, 442, 443, 444, 445, 448, 449, 450, 451, 452, 455, 456, 457, 458, 459, 462, 463, 464, 465, 466, 469, 470, 471, 472, 473, 476, 477, 478, 479, 480, 483, 484, 485, 486, 487, 490, 491, 492, 493, 494, 497, 498, 499, 500, 501, 504, 505, 506, 507, 508, 511, 512, 513, 514, 515, 518, 519, 520, 521, 522, 525, 526, 527, 528, 529, 532, 533, 534, 535, 536, 539, 540, 541, 542, 543, 546, 547, 548, 549, 550, 553, 554, 555, 556, 557, 560, 561, 562, 563, 564, 567, 568, 569, 570, 571, 574, 575, 576, 577, 578, 581, 582, 583, 584, 585, 588, 589, 590, 591, 592, 595, 596, 597, 598, 599, 602, 603, 604, 605, 606, 609, 610, 611, 17, 18, 19, 23, 24, 25, 28, 34, 35, 36, 214, 203, 235, 224, 256, 245, 277, 266]
/-- the observing of a list of addresses, told (found by a run of the head beforehand): the growing needs no repeating -/
def hk : PySem.W.Hook where
  α := AlP
  obs := fun s => obsK (PySem.Challenge.rw_trueruns_k00_fractions_in_one_form).prog md (He.frG s.heap.get? addrsK)
  val := fun _ => valK md
  says := fun _ h => ∃ K : PySem.W.Frag, K.In h ∧ SaysP (PySem.Challenge.rw_trueruns_k00_fractions_in_one_form).prog md K
  of := fun _ _ e => ⟨_, He.frG_in, e⟩
  keeps := fun _ _ _ ⟨K, hK, c⟩ k => ⟨K, PySem.W.Frag.In.keeps hK k, c⟩
def ob (s : PySem.W.SharedT) : AlP := obsK (PySem.Challenge.rw_trueruns_k00_fractions_in_one_form).prog md (He.frG (HandSHeadRun.getT s) addrsK)
theorem ob_eq (s : PySem.W.SharedT) : ob s = hk.obs s.abs := by
  have e : HandSHeadRun.getT s = s.abs.heap.get? := funext (HandSHeadRun.getT_eq s)
  unfold ob
  rw [e] <;> rfl
def names : List PySem.Str := (["is_whole", "lowest", "fraction", "is_number", "check_number", "check_complex", "plus", "minus", "product_of", "over", "opposite", "sign_of", "compared", "powered", "sum_of", "lesser", "greater", "size_of", "complex_times", "complex_plus", "size_squared", "complex_over", "_law_well", "_law_pull", "_law_gcd", "_law_frac", "_law_add", "_law_neg", "_law_mul", "_law_div"] : List PySem.Str) ++ (["_law_less", "_law_whole", "_law_is_frac", "_law_number", "_law_int", "_law_any", "_law_asked", "_law_is_bad", "_law_is_large", "_law_told", "_law_is_pair", "_law_fractions", "_law_numbers", "_law_sums", "_law_rows", "_law_complex", "RunsError", "BadNumber", "BadPoly", "BadMatrix", "BadWord", "BadLink", "BadRule", "BadRow", "BadRelation", "BadName", "NotNilpotent", "LowOrder", "MixedRow", "BadText"] : List PySem.Str) ++ (["Pole", "TooLarge", "Unknown", "ZERO", "ONE", "FIGURES_BOUND", "gcd"] : List PySem.Str)
open PySem.W PySem.Calls HandSHeadRun in
noncomputable abbrev out (w : World) := wholeF (fun p => stepQ (denQ tabQ) p w) fenceQ 6000 R.prog
open PySem.W PySem.Calls HandSHeadRun in
theorem runA (w : World) : (out w).map (fun x => (looksF R.prog x.1.heap x.2.abs, seenQ (PySem.W.view R.prog [70]) names (importedModules R.prog.main.body) (fun s => xlAt (PySem.W.view R.prog [70]) [] s && recOk R.toRowW.records s) x.2.abs)) = some (true, openGood (PySem.W.view R.prog [70]) names) := by
  kernel_rfl
theorem runB (w : World) : (out w).map (fun x => (ob x.2).1) = some (hk.val w).1 := by
  kernel_rfl
theorem runC (w : World) : (out w).map (fun x => (ob x.2).2) = some (hk.val w).2 := by
  kernel_rfl
theorem three_of {α β γ δ ε : Type} {o : Option α} {f : α → β} {g : α → γ} {h : α → δ × ε} {b : β} {c : γ} {d : δ × ε} (h1 : o.map (fun x => (f x, g x)) = some (b, c)) (h2 : o.map (fun x => (h x).1) = some d.1) (h3 : o.map (fun x => (h x).2) = some d.2) : o.map (fun x => (f x, g x, h x)) = some (b, c, d) := by
  cases o with
  | none => cases h1
  | some a =>
    have e1 : (f a, g a) = (b, c) := Option.some.inj h1
    have e2 : (h a).1 = d.1 := Option.some.inj h2
    have e3 : (h a).2 = d.2 := Option.some.inj h3
    obtain ⟨p, q⟩ := Prod.mk.inj e1
    show some (f a, g a, h a) = some (b, c, d)
    rw [p, q, Prod.ext e2 e3]
theorem run (w : World) : HandSHeadRun.RunEqI R (PySem.W.view R.prog [70]) hk ob 6000 names w := three_of (runA w) (runB w) (runC w)
end K00

/-! PE1 -/
set_option Elab.async false
set_option linter.all false
set_option maxRecDepth 100000
set_option maxHeartbeats 4000000
/-! PE: rules that evaluate the small language by simp, from the left, nothing under a binder. -/
namespace PD
open PySem PySem.Spec PyProof.Rows L2
section
variable {α β : Type} {G : Gam} {ρ : Slots} {st : Store} {a : α} {k : α → Store → Res β} {x : XD}
@[simp] theorem Res.bind_ok' : (Res.ok a st).bind k = k a st := by rfl
@[simp] theorem Res.bind_exc' : (Res.exc x st : Res α).bind k = .exc x st := by rfl
@[simp] theorem Res.nox_ok' : (Res.ok a st).nox = .ok a st := by rfl
@[simp] theorem Res.sr_ok' {k : α → Store → SR} : (Res.ok a st).sr ρ k = k a st := by rfl
@[simp] theorem Res.sr_exc' {k : α → Store → SR} : (Res.exc x st : Res α).sr ρ k = .exc x ρ st := by rfl
@[simp] theorem pick_some' {k : α → Res β} : pick (some a) k = k a := by rfl
@[simp] theorem pickS_some' {k : α → SR} : pickS (some a) k = k a := by rfl
@[simp] theorem SR.bind_nx' {k : Slots → Store → SR} : (SR.nx ρ st).bind k = k ρ st := by rfl
@[simp] theorem SR.bind_rt' {d : D} {k : Slots → Store → SR} : (SR.rt d st).bind k = .rt d st := by rfl
@[simp] theorem SR.bind_rtl' {d : List D} {k : Slots → Store → SR} : (SR.rtl d st).bind k = .rtl d st := by rfl
@[simp] theorem SR.bind_bk' {k : Slots → Store → SR} : (SR.bk ρ st).bind k = .bk ρ st := by rfl
@[simp] theorem SR.bind_ct' {k : Slots → Store → SR} : (SR.ct ρ st).bind k = .ct ρ st := by rfl
@[simp] theorem SR.bind_exc' {k : Slots → Store → SR} : (SR.exc x ρ st).bind k = .exc x ρ st := by rfl
@[simp] theorem dr_fz {d : D} : dr st (.fz d) = some d := by rfl
@[simp] theorem dr_loc {n : Nat} : dr st (.loc n) = (st[n]?).map Cont.d := by
  show (match st[n]? with | some c => some c.d | none => none) = _
  cases st[n]? <;> rfl
@[simp] theorem Cont.d_lst {ds : List D} : (Cont.lst ds).d = .lst ds := by rfl
@[simp] theorem Cont.d_fz {d : D} : (Cont.fz d).d = d := by rfl
@[simp] theorem fr_fz {io : Nat} {d : D} : fr io (.fz d) st = .ok d st := by rfl
theorem fr_loc {io n : Nat} {ds : List D} (h : st[n]? = some (.lst ds)) (hi : io ≤ n) : fr io (.loc n) st = .ok (.lst ds) (st.set n (.fz (.lst ds))) := by
  unfold fr
  simp only [h]
  rw [if_pos hi]
  rfl
theorem fr_locf {io n : Nat} {d : D} (h : st[n]? = some (.fz d)) : fr io (.loc n) st = .ok d st := by
  unfold fr
  simp only [h]
@[simp] theorem opRes_d {d : D} : opRes (.d d) st = .ok (.fz d) st := by rfl
@[simp] theorem opRes_l {ds : List D} : opRes (.l ds) st = .ok (.loc st.length) (st ++ [.lst ds]) := by rfl
/-! operations -/
@[simp] theorem bopS_add {i j : Int} : bopS .add (.int i) (.int j) = .d (.int (i + j)) := by rfl
@[simp] theorem bopS_sub {i j : Int} : bopS .sub (.int i) (.int j) = .d (.int (i - j)) := by rfl
theorem bopS_mul {i j : Int} (h : mok i j = true) : bopS .mul (.int i) (.int j) = .d (.int (i * j)) := if_pos h
theorem bopS_mod {i j : Int} (h : j ≠ 0) : bopS .mod (.int i) (.int j) = .d (.int (i.fmod j)) := if_neg h
theorem bopS_fdv {i j : Int} (h : j ≠ 0) (h2 : Builtin.divisionGoesByPylong i j = false) : bopS .fdv (.int i) (.int j) = .d (.int (i.fdiv j)) := if_neg (by rw [h2]; simp [h])
theorem bopS_pow {i j : Int} (h : 0 ≤ j ∧ (i.natAbs.log2 + 1) * j.toNat < 134217000) : bopS .pow (.int i) (.int j) = .d (.int (i ^ j.toNat)) := if_pos h
theorem bopS_addl {xs ys : List D} (h : xs.length + ys.length ≤ LIM) : bopS .add (.lst xs) (.lst ys) = .l (xs ++ ys) := if_pos h
theorem bopS_addt {xs ys : List D} (h : xs.length + ys.length ≤ LIM) : bopS .add (.tup xs) (.tup ys) = .d (.tup (xs ++ ys)) := if_pos h
@[simp] theorem cmpS_eq {d e : D} : cmpS .eq d e = eqS d e := by rfl
@[simp] theorem cmpS_ne {d e : D} : cmpS .ne d e = (eqS d e).map (!·) := by
  show (match eqS d e with | some r => some (!r) | none => none) = _
  cases eqS d e <;> rfl
@[simp] theorem eqS_int {i j : Int} : eqS (.int i) (.int j) = some (i == j) := by rfl
@[simp] theorem eqS_str {i j : Str} : eqS (.str i) (.str j) = some (i == j) := by rfl
@[simp] theorem eqS_bl {i j : Bool} : eqS (.bl i) (.bl j) = some (i == j) := by rfl
@[simp] theorem cmpS_lt {i j : Int} : cmpS .lt (.int i) (.int j) = some (decide (i < j)) := by rfl
@[simp] theorem cmpS_le {i j : Int} : cmpS .le (.int i) (.int j) = some (decide (i ≤ j)) := by rfl
@[simp] theorem cmpS_gt {i j : Int} : cmpS .gt (.int i) (.int j) = some (decide (j < i)) := by rfl
@[simp] theorem cmpS_ge {i j : Int} : cmpS .ge (.int i) (.int j) = some (decide (j ≤ i)) := by rfl
@[simp] theorem cmpS_is {a b : D} : cmpS .is_ a b = isS a b := by rfl
@[simp] theorem cmpS_isn {a b : D} : cmpS .isn a b = (isS a b).map (!·) := by
  show (match isS a b with | some r => some (!r) | none => none) = _
  cases isS a b <;> rfl
/-! expressions -/
def kBin2 (o : Bop) (x : Val) (y : Val) (st : Store) : Res Val := pick (dr st x) fun dx => pick (dr st y) fun dy => opRes (bopS o dx dy) st
def kBin (G : Gam) (ρ : Slots) (o : Bop) (b : Ex) (x : Val) (st : Store) : Res Val := (ev G b ρ st).bind (kBin2 o x)
@[simp] theorem ev_bin {o : Bop} {a b : Ex} : ev G (.bin o a b) ρ st = (ev G a ρ st).bind (kBin G ρ o b) := by rfl
@[simp] theorem kBin_eq {o : Bop} {b : Ex} {x : Val} : kBin G ρ o b x st = (ev G b ρ st).bind (kBin2 o x) := by rfl
@[simp] theorem kBin2_eq {o : Bop} {x y : Val} : kBin2 o x y st = pick (dr st x) fun dx => pick (dr st y) fun dy => opRes (bopS o dx dy) st := by rfl
def kCmp2 (o : Cop) (x : Val) (y : Val) (st : Store) : Res Val := pick (dr st x) fun dx => pick (dr st y) fun dy => pick (cmpS o dx dy) fun r => .ok (.fz (.bl r)) st
def kCmp (G : Gam) (ρ : Slots) (o : Cop) (b : Ex) (x : Val) (st : Store) : Res Val := (ev G b ρ st).bind (kCmp2 o x)
@[simp] theorem ev_cmp {o : Cop} {a b : Ex} : ev G (.cmp o a b) ρ st = (ev G a ρ st).bind (kCmp G ρ o b) := by rfl
@[simp] theorem kCmp_eq {o : Cop} {b : Ex} {x : Val} : kCmp G ρ o b x st = (ev G b ρ st).bind (kCmp2 o x) := by rfl
@[simp] theorem kCmp2_eq {o : Cop} {x y : Val} : kCmp2 o x y st = pick (dr st x) fun dx => pick (dr st y) fun dy => pick (cmpS o dx dy) fun r => .ok (.fz (.bl r)) st := by rfl
@[simp] theorem ev_var {i : Nat} {v : Val} (h : ρ[i]? = some (some v)) : ev G (.var i) ρ st = .ok v st := by
  show (match ρ[i]? with | some (some v) => Res.ok v st | _ => .stuck) = _
  rw [h]
@[simp] theorem ev_lit {d : D} : ev G (.lit d) ρ st = .ok (.fz d) st := by rfl
@[simp] theorem ev_none : ev G .none_ ρ st = .ok (.fz .non) st := by rfl
@[simp] theorem ev_glo {j : Nat} : ev G (.glo j) ρ st = pick G.con[j]? fun d => .ok (.fz d) st := by rfl
def kNeg (x : Val) (st : Store) : Res Val := match x with
  | .fz (.int i) => .ok (.fz (.int (-i))) st
  | _ => .stuck
@[simp] theorem ev_neg {a : Ex} : ev G (.neg a) ρ st = (ev G a ρ st).bind kNeg := by rfl
@[simp] theorem kNeg_eq {i : Int} : kNeg (.fz (.int i)) st = .ok (.fz (.int (-i))) st := by rfl
def kNot (x : Val) (st : Store) : Res Val := match x with
  | .fz (.bl b) => .ok (.fz (.bl (!b))) st
  | _ => .stuck
@[simp] theorem ev_not {a : Ex} : ev G (.not_ a) ρ st = (ev G a ρ st).bind kNot := by rfl
@[simp] theorem kNot_eq {b : Bool} : kNot (.fz (.bl b)) st = .ok (.fz (.bl (!b))) st := by rfl
def kAnd (G : Gam) (ρ : Slots) (b : Ex) (x : Val) (st : Store) : Res Val := match x with
  | .fz (.bl true) => ev G b ρ st
  | .fz (.bl false) => .ok (.fz (.bl false)) st
  | _ => .stuck
@[simp] theorem ev_and {a b : Ex} : ev G (.and_ a b) ρ st = (ev G a ρ st).bind (kAnd G ρ b) := by rfl
@[simp] theorem kAnd_eq {b : Ex} {t : Bool} : kAnd G ρ b (.fz (.bl t)) st = if t = true then ev G b ρ st else .ok (.fz (.bl false)) st := by cases t <;> rfl
def kOr (G : Gam) (ρ : Slots) (b : Ex) (x : Val) (st : Store) : Res Val := match x with
  | .fz (.bl true) => .ok (.fz (.bl true)) st
  | .fz (.bl false) => ev G b ρ st
  | _ => .stuck
@[simp] theorem ev_or {a b : Ex} : ev G (.or_ a b) ρ st = (ev G a ρ st).bind (kOr G ρ b) := by rfl
@[simp] theorem kOr_eq {b : Ex} {t : Bool} : kOr G ρ b (.fz (.bl t)) st = if t = true then .ok (.fz (.bl true)) st else ev G b ρ st := by cases t <;> rfl
def kIfe (G : Gam) (ρ : Slots) (a b : Ex) (x : Val) (st : Store) : Res Val := match x with
  | .fz (.bl true) => ev G a ρ st
  | .fz (.bl false) => ev G b ρ st
  | _ => .stuck
@[simp] theorem ev_ife {c a b : Ex} : ev G (.ife c a b) ρ st = (ev G c ρ st).bind (kIfe G ρ a b) := by rfl
@[simp] theorem kIfe_eq {a b : Ex} {t : Bool} : kIfe G ρ a b (.fz (.bl t)) st = if t = true then ev G a ρ st else ev G b ρ st := by cases t <;> rfl
def kTru (x : Val) (st : Store) : Res Val := pick (dr st x) fun d => pick (truS d) fun r => .ok (.fz (.bl r)) st
@[simp] theorem ev_tru {a : Ex} : ev G (.tru a) ρ st = (ev G a ρ st).bind kTru := by rfl
@[simp] theorem kTru_eq {x : Val} : kTru x st = pick (dr st x) fun d => pick (truS d) fun r => .ok (.fz (.bl r)) st := by rfl
@[simp] theorem truS_bl {b : Bool} : truS (.bl b) = some b := by rfl
@[simp] theorem truS_int {i : Int} : truS (.int i) = some (i != 0) := by rfl
def kEvs2 (v : Val) (vs : List Val) (st : Store) : Res (List Val) := .ok (v :: vs) st
def kEvs (G : Gam) (ρ : Slots) (es : Exs) (v : Val) (st : Store) : Res (List Val) := (evs G es ρ st).bind (kEvs2 v)
@[simp] theorem evs_nil : evs G .nil ρ st = .ok [] st := by rfl
@[simp] theorem evs_cons {e : Ex} {es : Exs} : evs G (.cons e es) ρ st = (ev G e ρ st).bind (kEvs G ρ es) := by rfl
@[simp] theorem kEvs_eq {es : Exs} {v : Val} : kEvs G ρ es v st = (evs G es ρ st).bind (kEvs2 v) := by rfl
@[simp] theorem kEvs2_eq {v : Val} {vs : List Val} : kEvs2 v vs st = .ok (v :: vs) st := by rfl
def kFrs2 (d : D) (ds : List D) (st : Store) : Res (List D) := .ok (d :: ds) st
def kFrs (io : Nat) (vs : List Val) (d : D) (st : Store) : Res (List D) := (PD.frs io vs st).bind (kFrs2 d)
@[simp] theorem frs_nil {io : Nat} : PD.frs io [] st = .ok [] st := by rfl
@[simp] theorem frs_cons {io : Nat} {v : Val} {vs : List Val} : PD.frs io (v :: vs) st = (fr io v st).bind (kFrs io vs) := by rfl
@[simp] theorem kFrs_eq {io : Nat} {vs : List Val} {d : D} : kFrs io vs d st = (PD.frs io vs st).bind (kFrs2 d) := by rfl
@[simp] theorem kFrs2_eq {d : D} {ds : List D} : kFrs2 d ds st = .ok (d :: ds) st := by rfl
def kTup2 (ds : List D) (st : Store) : Res Val := if ds.length ≤ LIM then .ok (.fz (.tup ds)) st else .stuck
def kTup (io : Nat) (vs : List Val) (st : Store) : Res Val := (PD.frs io vs st).bind kTup2
@[simp] theorem ev_tup {es : Exs} : ev G (.tup es) ρ st = (evs G es ρ st).bind (kTup G.io) := by rfl
@[simp] theorem kTup_eq {io : Nat} {vs : List Val} : kTup io vs st = (PD.frs io vs st).bind kTup2 := by rfl
theorem kTup2_eq {ds : List D} (h : ds.length ≤ LIM) : kTup2 ds st = .ok (.fz (.tup ds)) st := if_pos h
@[simp] theorem kTup2_1 {a : D} : kTup2 [a] st = .ok (.fz (.tup [a])) st := by rfl
@[simp] theorem kTup2_0 : kTup2 [] st = .ok (.fz (.tup [])) st := by rfl
@[simp] theorem kTup2_2 {a b : D} : kTup2 [a, b] st = .ok (.fz (.tup [a, b])) st := by rfl
@[simp] theorem kTup2_3 {a b c : D} : kTup2 [a, b, c] st = .ok (.fz (.tup [a, b, c])) st := by rfl
def kLst2 (ds : List D) (st : Store) : Res Val := if ds.length ≤ LIM then .ok (.loc st.length) (st ++ [.lst ds]) else .stuck
def kLst (io : Nat) (vs : List Val) (st : Store) : Res Val := (PD.frs io vs st).bind kLst2
@[simp] theorem ev_lst {es : Exs} : ev G (.lst es) ρ st = (evs G es ρ st).bind (kLst G.io) := by rfl
@[simp] theorem kLst_eq {io : Nat} {vs : List Val} : kLst io vs st = (PD.frs io vs st).bind kLst2 := by rfl
theorem kLst2_eq {ds : List D} (h : ds.length ≤ LIM) : kLst2 ds st = .ok (.loc st.length) (st ++ [.lst ds]) := if_pos h
@[simp] theorem kLst2_0 : kLst2 [] st = .ok (.loc st.length) (st ++ [.lst []]) := by rfl
@[simp] theorem kLst2_1 {a : D} : kLst2 [a] st = .ok (.loc st.length) (st ++ [.lst [a]]) := by rfl
@[simp] theorem kLst2_2 {a b : D} : kLst2 [a, b] st = .ok (.loc st.length) (st ++ [.lst [a, b]]) := by rfl
def kIdx2 (x y : Val) (st : Store) : Res Val := pick (dr st x) fun dx => pick (dr st y) fun dy => pick (idxS dx dy) fun d => .ok (.fz d) st
def kIdx (G : Gam) (ρ : Slots) (i : Ex) (x : Val) (st : Store) : Res Val := (ev G i ρ st).bind (kIdx2 x)
@[simp] theorem ev_idx {a i : Ex} : ev G (.idx a i) ρ st = (ev G a ρ st).bind (kIdx G ρ i) := by rfl
@[simp] theorem kIdx_eq {i : Ex} {x : Val} : kIdx G ρ i x st = (ev G i ρ st).bind (kIdx2 x) := by rfl
@[simp] theorem kIdx2_eq {x y : Val} : kIdx2 x y st = pick (dr st x) fun dx => pick (dr st y) fun dy => pick (idxS dx dy) fun d => .ok (.fz d) st := by rfl
theorem ixN_nat {n k : Nat} (h : k < n) : ixN n (k : Int) = some k := by
  unfold ixN
  rw [if_pos (by omega), if_pos (by omega)]
  simp
theorem atI_nat {xs : List D} {k : Nat} (h : k < xs.length) : atI xs (k : Int) = some xs[k] := by
  unfold atI
  rw [ixN_nat h]
  simp [h]
theorem idx_lst {ds : List D} {k : Nat} {i : Int} (hi : i = k) (h : k < ds.length) : idxS (.lst ds) (.int i) = some ds[k] := by
  subst hi
  exact atI_nat h
theorem idx_tup {ds : List D} {k : Nat} {i : Int} (hi : i = k) (h : k < ds.length) : idxS (.tup ds) (.int i) = some ds[k] := by
  subst hi
  exact atI_nat h
@[simp] theorem idx_tup0 {a : D} {ds : List D} : idxS (.tup (a :: ds)) (.int 0) = some a := idx_tup (k := 0) rfl (by simp)
@[simp] theorem idx_tup1 {a b : D} {ds : List D} : idxS (.tup (a :: b :: ds)) (.int 1) = some b := idx_tup (k := 1) rfl (by simp)
@[simp] theorem idx_lst0 {a : D} {ds : List D} : idxS (.lst (a :: ds)) (.int 0) = some a := idx_lst (k := 0) rfl (by simp)
@[simp] theorem idx_lst1 {a b : D} {ds : List D} : idxS (.lst (a :: b :: ds)) (.int 1) = some b := idx_lst (k := 1) rfl (by simp)
def kCall (io : Nat) (fi : FnI) (vs : List Val) (st : Store) : Res Val := callS io fi vs st
@[simp] theorem ev_call {j : Nat} {es : Exs} : ev G (.call j es) ρ st = pick G.fns[j]? fun fi => (evs G es ρ st).bind (kCall G.io fi) := by rfl
def kBfn (f : Bfn) (vs : List Val) (st : Store) : Res Val := pick (vs.mapM (dr st)) fun ds => opRes (bfnS f ds) st
@[simp] theorem ev_bfn {f : Bfn} {es : Exs} : ev G (.bfn f es) ρ st = (evs G es ρ st).bind (kBfn f) := by rfl
@[simp] theorem kBfn_eq {f : Bfn} {vs : List Val} : kBfn f vs st = pick (vs.mapM (dr st)) fun ds => opRes (bfnS f ds) st := by rfl

@[simp] theorem bfn_lenl {ds : List D} : bfnS .len [.lst ds] = .d (.int ds.length) := by rfl
@[simp] theorem bfn_lent {ds : List D} : bfnS .len [.tup ds] = .d (.int ds.length) := by rfl
@[simp] theorem bfn_abs {i : Int} : bfnS .abs [.int i] = .d (.int (if i < 0 then -i else i)) := by rfl
@[simp] theorem bfn_min {i j : Int} : bfnS .min2 [.int i, .int j] = .d (.int (if j < i then j else i)) := by rfl
@[simp] theorem bfn_max {i j : Int} : bfnS .max2 [.int i, .int j] = .d (.int (if j > i then j else i)) := by rfl
@[simp] theorem bfn_int {i : Int} : bfnS .int [.int i] = .d (.int i) := by rfl
@[simp] theorem bfn_intb {b : Bool} : bfnS .int [.bl b] = .d (.int (if b then 1 else 0)) := by rfl
@[simp] theorem bfn_tupl {ds : List D} : bfnS .tuple [.lst ds] = .d (.tup ds) := by rfl
@[simp] theorem bfn_tupt {ds : List D} : bfnS .tuple [.tup ds] = .d (.tup ds) := by rfl
@[simp] theorem bfn_lstl {ds : List D} : bfnS .list [.lst ds] = .l ds := by rfl
@[simp] theorem bfn_lstt {ds : List D} : bfnS .list [.tup ds] = .l ds := by rfl
@[simp] theorem bfn_gcd {i j : Int} : bfnS .gcd [.int i, .int j] = .d (.int ((Nat.gcd i.natAbs j.natAbs : Nat) : Int)) := by rfl
def kMth2 (m : Mth) (x : Val) (vs : List Val) (st : Store) : Res Val := pick (dr st x) fun d => pick (vs.mapM (dr st)) fun ds => opRes (mthS m d ds) st
def kMth (G : Gam) (ρ : Slots) (m : Mth) (es : Exs) (x : Val) (st : Store) : Res Val := (evs G es ρ st).bind (kMth2 m x)
@[simp] theorem ev_mth {m : Mth} {a : Ex} {es : Exs} : ev G (.mth m a es) ρ st = (ev G a ρ st).bind (kMth G ρ m es) := by rfl
@[simp] theorem kMth_eq {m : Mth} {es : Exs} {x : Val} : kMth G ρ m es x st = (evs G es ρ st).bind (kMth2 m x) := by rfl
@[simp] theorem kMth2_eq {m : Mth} {x : Val} {vs : List Val} : kMth2 m x vs st = pick (dr st x) fun d => pick (vs.mapM (dr st)) fun ds => opRes (mthS m d ds) st := by rfl
@[simp] theorem mth_bitlen {i : Int} : mthS .bitlen (.int i) [] = .d (.int (Builtin.Int.intBits i : Nat)) := by rfl
def kIsi (ex : Str → Str → Option Bool) (ts : List TyN) (x : Val) (st : Store) : Res Val := pick (dr st x) fun d => pick (isiS ex d ts) fun r => .ok (.fz (.bl r)) st
@[simp] theorem ev_isi {a : Ex} {ts : List TyN} {tp : Bool} : ev G (.isi a ts tp) ρ st = (ev G a ρ st).bind (kIsi G.exm ts) := by rfl
@[simp] theorem kIsi_eq {ex : Str → Str → Option Bool} {ts : List TyN} {x : Val} : kIsi ex ts x st = pick (dr st x) fun d => pick (isiS ex d ts) fun r => .ok (.fz (.bl r)) st := by rfl
theorem ev_isx {i : Nat} {ts : List Str} {tp : Bool} {y : XD} (h : ρ[i]? = some (some (.exn y))) : ev G (.isx i ts tp) ρ st = pick (isxS G.exm y.cls ts) fun r => .ok (.fz (.bl r)) st := by
  show (match ρ[i]? with
    | some (some (.exn x)) => pick (isxS G.exm x.cls ts) fun r => Res.ok (Val.fz (D.bl r)) st
    | _ => .stuck) = _
  rw [h]
theorem ev_isv {i : Nat} {n : String} {y : XD} (h : ρ[i]? = some (some (.exn y))) : ev G (.isv i n) ρ st = pick (G.exv y.cls n) fun r => .ok (.fz (.bl r)) st := by
  show (match ρ[i]? with
    | some (some (.exn x)) => pick (G.exv x.cls n) fun r => Res.ok (Val.fz (D.bl r)) st
    | _ => .stuck) = _
  rw [h]
theorem ev_xfld {i : Nat} {f : Str} {y : XD} (h : ρ[i]? = some (some (.exn y))) (h2 : G.xfl y.cls f = true) : ev G (.xfld i f) ρ st = pick (y.fs.lookup f) fun d => .ok (.fz d) st := by
  show (match ρ[i]? with
    | some (some (.exn x)) => if G.xfl x.cls f = true then pick (x.fs.lookup f) fun d => Res.ok (Val.fz d) st else .stuck
    | _ => .stuck) = _
  rw [h]
  exact if_pos h2
def kSlc3 (x : Val) (bl : Option Int) (bh : Option Int) (st : Store) : Res Val := pick (dr st x) fun dx => opRes (slcS dx bl bh) st
def kBnd (b : Bool) (l : Val) (st : Store) : Res (Option Int) := pick (bndV b l) fun b => .ok b st
def kSlc2 (G : Gam) (ρ : Slots) (hi : Ex) (x : Val) (bl : Option Int) (st : Store) : Res Val := ((ev G hi ρ st).bind (kBnd hi.isNone)).bind (kSlc3 x bl)
def kSlc (G : Gam) (ρ : Slots) (lo hi : Ex) (x : Val) (st : Store) : Res Val := ((ev G lo ρ st).bind (kBnd lo.isNone)).bind (kSlc2 G ρ hi x)
@[simp] theorem ev_slc {a lo hi : Ex} : ev G (.slc a lo hi) ρ st = (ev G a ρ st).bind (kSlc G ρ lo hi) := by rfl
@[simp] theorem kSlc_eq {lo hi : Ex} {x : Val} : kSlc G ρ lo hi x st = ((ev G lo ρ st).bind (kBnd lo.isNone)).bind (kSlc2 G ρ hi x) := by rfl
@[simp] theorem kSlc2_eq {hi : Ex} {x : Val} {bl : Option Int} : kSlc2 G ρ hi x bl st = ((ev G hi ρ st).bind (kBnd hi.isNone)).bind (kSlc3 x bl) := by rfl
@[simp] theorem kSlc3_eq {x : Val} {bl bh : Option Int} : kSlc3 x bl bh st = pick (dr st x) fun dx => opRes (slcS dx bl bh) st := by rfl
@[simp] theorem kBnd_eq {b : Bool} {l : Val} : kBnd b l st = pick (bndV b l) fun b => .ok b st := by rfl
@[simp] theorem bndV_n {v : Val} : bndV true v = some none := by unfold bndV; cases v <;> rfl
@[simp] theorem bndV_i {i : Int} : bndV false (.fz (.int i)) = some (some i) := by rfl
@[simp] theorem isNone_n : Ex.isNone .none_ = true := by rfl
@[simp] theorem isNone_v {i : Nat} : Ex.isNone (.var i) = false := by rfl
@[simp] theorem isNone_l {d : D} : Ex.isNone (.lit d) = false := by rfl
@[simp] theorem isNone_b {o : Bop} {a b : Ex} : Ex.isNone (.bin o a b) = false := by rfl
@[simp] theorem isNone_c {j : Nat} {es : Exs} : Ex.isNone (.call j es) = false := by rfl
@[simp] theorem slc_lst {ds : List D} {a b : Option Int} : slcS (.lst ds) a b = .l (cutD ds a b) := by rfl
@[simp] theorem slc_tup {ds : List D} {a b : Option Int} : slcS (.tup ds) a b = .d (.tup (cutD ds a b)) := by rfl
/-! ### calls -/
def kRes (ns : List Nat) (st : Store) : FRes → Res Val
  | .ok d cs => pick (putBack ns cs st) fun st => .ok (.fz d) st
  | .okl ds cs => pick (putBack ns cs st) fun st => .ok (.loc st.length) (st ++ [.lst ds])
  | .exc x cs => pick (putBack ns cs st) fun st => .exc x st
  | .stuck => .stuck
def kCal2 (fi : FnI) (as : List (Sum D Nat)) (st : Store) : Res Val := if noDup (locsA as) then
    pick (mkA st as) fun args => kRes (locsA as) st (fi.f (args ++ fi.dfl.map .fz))
  else .stuck
theorem callS_eq {io : Nat} {fi : FnI} {vs : List Val} : callS io fi vs st = (PD.frA io fi.muts vs st).bind (kCal2 fi) := by
  have e : (fun (as : List (Sum D Nat)) (st : Store) => if noDup (locsA as) then
      pick (mkA st as) fun args => match fi.f (args ++ fi.dfl.map .fz) with
        | .ok d cs => pick (putBack (locsA as) cs st) fun st => Res.ok (Val.fz d) st
        | .okl ds cs => pick (putBack (locsA as) cs st) fun st => .ok (.loc st.length) (st ++ [.lst ds])
        | .exc x cs => pick (putBack (locsA as) cs st) fun st => .exc x st
        | .stuck => .stuck
      else .stuck) = kCal2 fi := by
    funext as st
    have e2 : (fun args => match fi.f (args ++ fi.dfl.map .fz) with
        | .ok d cs => pick (putBack (locsA as) cs st) fun st => Res.ok (Val.fz d) st
        | .okl ds cs => pick (putBack (locsA as) cs st) fun st => .ok (.loc st.length) (st ++ [.lst ds])
        | .exc x cs => pick (putBack (locsA as) cs st) fun st => .exc x st
        | .stuck => .stuck) = fun args => kRes (locsA as) st (fi.f (args ++ fi.dfl.map .fz)) := by
      funext args
      cases fi.f (args ++ fi.dfl.map .fz) <;> rfl
    simp only [e2]
    rfl
  rw [← e]
  rfl
@[simp] theorem kCall_eq {io : Nat} {fi : FnI} {vs : List Val} : kCall io fi vs st = (PD.frA io fi.muts vs st).bind (kCal2 fi) := callS_eq
def kFa (io : Nat) (ms : List Bool) (vs : List Val) (d : D) (st : Store) : Res (List (Sum D Nat)) := (PD.frA io ms vs st).bind fun as st => .ok (.inl d :: as) st
def kFa2 (d : Sum D Nat) (as : List (Sum D Nat)) (st : Store) : Res (List (Sum D Nat)) := .ok (d :: as) st
@[simp] theorem frA_nil {io : Nat} {ms : List Bool} : PD.frA io ms [] st = .ok [] st := by
  cases ms with
  | nil => rfl
  | cons m ms => cases m <;> rfl
@[simp] theorem frA_nc {io : Nat} {v : Val} {vs : List Val} : PD.frA io [] (v :: vs) st = (fr io v st).bind (kFa io [] vs) := by rfl
@[simp] theorem frA_fc {io : Nat} {ms : List Bool} {v : Val} {vs : List Val} : PD.frA io (false :: ms) (v :: vs) st = (fr io v st).bind (kFa io ms vs) := by rfl
@[simp] theorem frA_tc {io n : Nat} {ms : List Bool} {vs : List Val} : PD.frA io (true :: ms) (.loc n :: vs) st = (PD.frA io ms vs st).bind (kFa2 (.inr n)) := by rfl
@[simp] theorem kFa_eq {io : Nat} {ms : List Bool} {vs : List Val} {d : D} : kFa io ms vs d st = (PD.frA io ms vs st).bind (kFa2 (.inl d)) := by rfl
@[simp] theorem kFa2_eq {d : Sum D Nat} {as : List (Sum D Nat)} : kFa2 d as st = .ok (d :: as) st := by rfl
@[simp] theorem kCal2_1 {muts : List Bool} {f : List PD.Arg → FRes} {a : D} : kCal2 ⟨muts, [], f⟩ [.inl a] st = kRes [] st (f [.fz a]) := by rfl
@[simp] theorem kCal2_2 {muts : List Bool} {f : List PD.Arg → FRes} {a b : D} : kCal2 ⟨muts, [], f⟩ [.inl a, .inl b] st = kRes [] st (f [.fz a, .fz b]) := by rfl
@[simp] theorem kCal2_3 {muts : List Bool} {f : List PD.Arg → FRes} {a b c : D} : kCal2 ⟨muts, [], f⟩ [.inl a, .inl b, .inl c] st = kRes [] st (f [.fz a, .fz b, .fz c]) := by rfl
@[simp] theorem kCal2_4 {muts : List Bool} {f : List PD.Arg → FRes} {a b c d : D} : kCal2 ⟨muts, [], f⟩ [.inl a, .inl b, .inl c, .inl d] st = kRes [] st (f [.fz a, .fz b, .fz c, .fz d]) := by rfl
theorem kCal2_m {muts : List Bool} {f : List PD.Arg → FRes} {n : Nat} {ds : List D} (h : st[n]? = some (.lst ds)) : kCal2 ⟨muts, [], f⟩ [.inr n] st = kRes [n] st (f [.mu (.lst ds)]) := by
  unfold kCal2
  simp [locsA, noDup, mkA, h, Cont.live]
theorem kCal2_m1 {muts : List Bool} {f : List PD.Arg → FRes} {n : Nat} {ds : List D} {a : D} (h : st[n]? = some (.lst ds)) : kCal2 ⟨muts, [], f⟩ [.inr n, .inl a] st = kRes [n] st (f [.mu (.lst ds), .fz a]) := by
  unfold kCal2
  simp [locsA, noDup, mkA, h, Cont.live]
@[simp] theorem kRes_ok {d : D} : kRes [] st (.ok d []) = .ok (.fz d) st := by rfl
@[simp] theorem kRes_okl {ds : List D} : kRes [] st (.okl ds []) = .ok (.loc st.length) (st ++ [.lst ds]) := by rfl
@[simp] theorem kRes_exc : kRes [] st (.exc x []) = .exc x st := by rfl
@[simp] theorem kRes_okm {n : Nat} {d : D} {ds : List D} : kRes [n] st (.ok d [.lst ds]) = .ok (.fz d) (st.set n (.lst ds)) := by rfl
@[simp] theorem kRes_excm {n : Nat} {ds : List D} : kRes [n] st (.exc x [.lst ds]) = .exc x (st.set n (.lst ds)) := by rfl
/-! ### statements -/
noncomputable def kSeq (G : Gam) (ss : Sts) (ρ : Slots) (st : Store) : SR := exs G ss ρ st
@[simp] theorem exs_nil : exs G .nil ρ st = .nx ρ st := by rfl
@[simp] theorem exs_cons {s : St} {ss : Sts} : exs G (.cons s ss) ρ st = (ex G s ρ st).bind (kSeq G ss) := by rfl
@[simp] theorem kSeq_eq {ss : Sts} : kSeq G ss ρ st = exs G ss ρ st := by rfl
def kAsg (ρ : Slots) (t : Tg) (v : Val) (st : Store) : SR := pickS (asgT t v ρ st) fun ρ => .nx ρ st
@[simp] theorem ex_asg {t : Tg} {e : Ex} : ex G (.asg t e) ρ st = (ev G e ρ st).sr ρ (kAsg ρ t) := by rfl
@[simp] theorem kAsg_nm {i : Nat} {v : Val} : kAsg ρ (.nm i) v st = .nx (ρ.set i (some v)) st := by rfl
@[simp] theorem kAsg_tp {is : List Nat} {ds : List D} : kAsg ρ (.tp is) (.fz (.tup ds)) st = pickS (setAll is ds ρ) fun ρ => .nx ρ st := by rfl
@[simp] theorem setAll_nil : setAll [] [] ρ = some ρ := by rfl
@[simp] theorem setAll_cons {i : Nat} {is : List Nat} {d : D} {ds : List D} : setAll (i :: is) (d :: ds) ρ = setAll is ds (ρ.set i (some (.fz d))) := by rfl
noncomputable def kIf (G : Gam) (ρ : Slots) (a b : Sts) (x : Val) (st : Store) : SR := match x with
  | .fz (.bl true) => exs G a ρ st
  | .fz (.bl false) => exs G b ρ st
  | _ => .stuck
@[simp] theorem ex_if {c : Ex} {a b : Sts} : ex G (.if_ c a b) ρ st = (ev G c ρ st).sr ρ (kIf G ρ a b) := by rfl
@[simp] theorem kIf_eq {a b : Sts} {t : Bool} : kIf G ρ a b (.fz (.bl t)) st = if t = true then exs G a ρ st else exs G b ρ st := by cases t <;> rfl
def kRet2 (d : D) (st : Store) : SR := .rt d st
def kRet (io : Nat) (ρ : Slots) (v : Val) (st : Store) : SR := (fr io v st).sr ρ kRet2
@[simp] theorem ex_ret {e : Ex} : ex G (.ret e) ρ st = (ev G e ρ st).sr ρ (kRet G.io ρ) := by rfl
@[simp] theorem kRet_eq {io : Nat} {v : Val} : kRet io ρ v st = (fr io v st).sr ρ kRet2 := by rfl
@[simp] theorem kRet2_eq {d : D} : kRet2 d st = .rt d st := by rfl
@[simp] theorem ex_retn : ex G .retn ρ st = .rt .non st := by rfl
@[simp] theorem ex_pass : ex G .pass ρ st = .nx ρ st := by rfl
@[simp] theorem ex_rais {c : Str} : ex G (.rais c) ρ st = .exc ⟨c, []⟩ ρ st := by rfl
def kRf2 (ρ : Slots) (c f : Str) (d : D) (st : Store) : SR := .exc ⟨c, [(f, d)]⟩ ρ st
def kRf (io : Nat) (ρ : Slots) (c f : Str) (v : Val) (st : Store) : SR := (fr io v st).sr ρ (kRf2 ρ c f)
@[simp] theorem ex_raisf {c f : Str} {e : Ex} : ex G (.raisf c f e) ρ st = (ev G e ρ st).sr ρ (kRf G.io ρ c f) := by rfl
@[simp] theorem kRf_eq {io : Nat} {c f : Str} {v : Val} : kRf io ρ c f v st = (fr io v st).sr ρ (kRf2 ρ c f) := by rfl
@[simp] theorem kRf2_eq {c f : Str} {d : D} : kRf2 ρ c f d st = .exc ⟨c, [(f, d)]⟩ ρ st := by rfl
def kExp (ρ : Slots) (v : Val) (st : Store) : SR := .nx ρ st
@[simp] theorem ex_exp {e : Ex} : ex G (.exp e) ρ st = (ev G e ρ st).sr ρ (kExp ρ) := by rfl
@[simp] theorem kExp_eq {v : Val} : kExp ρ v st = .nx ρ st := by rfl
def kApp2 (ρ : Slots) (n : Nat) (d : D) (st : Store) : SR := match st[n]? with
  | some (.lst ds) => if ds.length < LIM then .nx ρ (st.set n (.lst (ds ++ [d]))) else .stuck
  | _ => .stuck
def kApp (io : Nat) (ρ : Slots) (n : Nat) (v : Val) (st : Store) : SR := (fr io v st).sr ρ (kApp2 ρ n)
theorem ex_app {i n : Nat} {e : Ex} {ds : List D} (h : ρ[i]? = some (some (.loc n))) (h2 : st[n]? = some (.lst ds)) : ex G (.app i e) ρ st = (ev G e ρ st).sr ρ (kApp G.io ρ n) := by
  show (match ρ[i]? with
    | some (some (.loc n)) => (match st[n]? with
      | some (.lst _) => (ev G e ρ st).sr ρ fun v st => (fr G.io v st).sr ρ fun d st => (match st[n]? with
        | some (.lst ds) => if ds.length < LIM then SR.nx ρ (st.set n (.lst (ds ++ [d]))) else .stuck
        | _ => .stuck)
      | _ => .stuck)
    | _ => .stuck) = _
  simp only [h, h2]
  rfl
@[simp] theorem kApp_eq {io n : Nat} {v : Val} : kApp io ρ n v st = (fr io v st).sr ρ (kApp2 ρ n) := by rfl
theorem kApp2_eq {n : Nat} {ds : List D} {d : D} (h : st[n]? = some (.lst ds)) (h2 : ds.length < LIM) : kApp2 ρ n d st = .nx ρ (st.set n (.lst (ds ++ [d]))) := by
  unfold kApp2
  simp only [h]
  rw [if_pos h2]
def kSix3 (ρ : Slots) (n : Nat) (y : Val) (d : D) (st : Store) : SR := match dr st y, st[n]? with
  | some (.int j), some (.lst ds) => pickS (ixN ds.length j) fun m => .nx ρ (st.set n (.lst (ds.set m d)))
  | _, _ => .stuck
def kSix2 (io : Nat) (ρ : Slots) (n : Nat) (v y : Val) (st : Store) : SR := (fr io v st).sr ρ (kSix3 ρ n y)
def kSix (G : Gam) (ρ : Slots) (i : Nat) (k : Ex) (v : Val) (st : Store) : SR := match ρ[i]? with
  | some (some (.loc n)) => (ev G k ρ st).sr ρ (kSix2 G.io ρ n v)
  | _ => .stuck
@[simp] theorem ex_six {i : Nat} {k e : Ex} : ex G (.six i k e) ρ st = (ev G e ρ st).sr ρ (kSix G ρ i k) := by rfl
theorem kSix_eq {i n : Nat} {k : Ex} {v : Val} (h : ρ[i]? = some (some (.loc n))) : kSix G ρ i k v st = (ev G k ρ st).sr ρ (kSix2 G.io ρ n v) := by
  unfold kSix
  simp only [h]
@[simp] theorem kSix2_eq {io n : Nat} {v y : Val} : kSix2 io ρ n v y st = (fr io v st).sr ρ (kSix3 ρ n y) := by rfl
theorem kSix3_eq {n m : Nat} {j : Int} {d : D} {ds : List D} (h : st[n]? = some (.lst ds)) (h2 : j = m) (h3 : m < ds.length) : kSix3 ρ n (.fz (.int j)) d st = .nx ρ (st.set n (.lst (ds.set m d))) := by
  subst h2
  unfold kSix3
  simp only [h, dr_fz]
  rw [ixN_nat h3]
  rfl
noncomputable def fBody (G : Gam) (t : Tg) (b : Sts) (d : D) (ρ : Slots) (st : Store) : SR := pickS (asgT t (.fz d) ρ st) fun ρ => exs G b ρ st
noncomputable def kFor (G : Gam) (ρ : Slots) (t : Tg) (b : Sts) (I : Iter) (st : Store) : SR := pickS (I.size st) fun n => forLoop I (fBody G t b) n 0 ρ st
@[simp] theorem ex_for {t : Tg} {it : It} {b : Sts} : ex G (.for_ t it b) ρ st = (evI G it ρ st).sr ρ (kFor G ρ t b) := by rfl
theorem kFor_eq {t : Tg} {b : Sts} {I : Iter} {n : Nat} (h : I.size st = some n) : kFor G ρ t b I st = forLoop I (fBody G t b) n 0 ρ st := by
  unfold kFor
  rw [h]
  rfl
@[simp] theorem kFor_rng {t : Tg} {b : Sts} {lo : Int} {n : Nat} : kFor G ρ t b (.rng lo n) st = forLoop (.rng lo n) (fBody G t b) n 0 ρ st := by rfl
@[simp] theorem kFor_tup {t : Tg} {b : Sts} {ds : List D} : kFor G ρ t b (.tup ds) st = forLoop (.tup ds) (fBody G t b) ds.length 0 ρ st := by rfl
@[simp] theorem kFor_lst {t : Tg} {b : Sts} {ds : List D} : kFor G ρ t b (.lst (.fz (.lst ds))) st = forLoop (.lst (.fz (.lst ds))) (fBody G t b) ds.length 0 ρ st := by rfl
@[simp] theorem size_rng {lo : Int} {n : Nat} : Iter.size st (.rng lo n) = some n := by rfl
@[simp] theorem at_rng {lo : Int} {n i : Nat} : Iter.at st i (.rng lo n) = some (.int (lo + i)) := by rfl
@[simp] theorem size_tup {ds : List D} : Iter.size st (.tup ds) = some ds.length := by rfl
@[simp] theorem at_tup {ds : List D} {i : Nat} : Iter.at st i (.tup ds) = ds[i]? := by rfl
@[simp] theorem size_lst {ds : List D} : Iter.size st (.lst (.fz (.lst ds))) = some ds.length := by rfl
@[simp] theorem at_lst {ds : List D} {i : Nat} : Iter.at st i (.lst (.fz (.lst ds))) = ds[i]? := by rfl
@[simp] theorem fBody_nm {i : Nat} {b : Sts} {d : D} : fBody G (.nm i) b d ρ st = exs G b (ρ.set i (some (.fz d))) st := by rfl
def kRng (a : D) (y : Val) (st : Store) : Res Iter := pick (dr st y) fun e => pick (rngS a e) fun I => .ok I st
def kRng2 (G : Gam) (ρ : Slots) (b : Ex) (x : Val) (st : Store) : Res Iter := (ev G b ρ st).bind fun y st => pick (dr st x) fun d => pick (dr st y) fun e => pick (rngS d e) fun I => .ok I st
@[simp] theorem evI_rng1 {a : Ex} : evI G (.rng1 a) ρ st = (ev G a ρ st).bind (kRng (.int 0)) := by rfl
@[simp] theorem evI_rng2 {a b : Ex} : evI G (.rng2 a b) ρ st = (ev G a ρ st).bind (kRng2 G ρ b) := by rfl
theorem rngS_eq {i j : Int} (h : rngOk i = true) (h2 : rngOk j = true) : rngS (.int i) (.int j) = some (.rng i (j - i).toNat) := by
  unfold rngS
  simp [h, h2]
theorem kRng_eq {i j : Int} (h : rngOk i = true) (h2 : rngOk j = true) : kRng (.int i) (.fz (.int j)) st = .ok (.rng i (j - i).toNat) st := by
  unfold kRng
  simp [rngS_eq h h2]
theorem kRng2_eq {b : Ex} {i j : Int} (hb : ev G b ρ st = .ok (.fz (.int j)) st) (h : rngOk i = true) (h2 : rngOk j = true) : kRng2 G ρ b (.fz (.int i)) st = .ok (.rng i (j - i).toNat) st := by
  unfold kRng2
  simp [hb, rngS_eq h h2]
def kSeqI (x : Val) (st : Store) : Res Iter := pick (dr st x) fun d => pick (seqI x d) fun I => .ok I st
@[simp] theorem evI_seq {a : Ex} : evI G (.seq a) ρ st = (ev G a ρ st).bind kSeqI := by rfl
@[simp] theorem kSeqI_tup {ds : List D} : kSeqI (.fz (.tup ds)) st = .ok (.tup ds) st := by rfl
@[simp] theorem kSeqI_lst {ds : List D} : kSeqI (.fz (.lst ds)) st = .ok (.lst (.fz (.lst ds))) st := by rfl
noncomputable def kTry (G : Gam) (hs : Hds) : SR → SR
  | .exc x ρ st => exh G hs x ρ st
  | r => r
@[simp] theorem ex_try {b : Sts} {hs : Hds} : ex G (.try_ b hs) ρ st = kTry G hs (exs G b ρ st) := by
  show (match exs G b ρ st with
    | .exc x ρ st => exh G hs x ρ st
    | r => r) = _
  cases exs G b ρ st <;> rfl
@[simp] theorem kTry_nx {hs : Hds} : kTry G hs (.nx ρ st) = .nx ρ st := by rfl
@[simp] theorem kTry_rt {hs : Hds} {d : D} : kTry G hs (.rt d st) = .rt d st := by rfl
@[simp] theorem kTry_exc {hs : Hds} : kTry G hs (.exc x ρ st) = exh G hs x ρ st := by rfl
theorem hit_1 {ex : Str → Str → Option Bool} {c t : Str} {b : Bool} (h : ex c t = some b) : hitS ex c [t] = some b := by
  show (match ex c t, some false with
    | some b, some d => some (b || d)
    | _, _ => none) = _
  rw [h]
  simp
theorem hit_c {ex : Str → Str → Option Bool} {c t : Str} {ts : List Str} {b d : Bool} (h : ex c t = some b) (h2 : hitS ex c ts = some d) : hitS ex c (t :: ts) = some (b || d) := by
  show (match ex c t, hitS ex c ts with
    | some b, some d => some (b || d)
    | _, _ => none) = _
  rw [h, h2]
theorem exh_hit {tp : Bool} {as_ : Option Nat} {b : Sts} {hs : Hds} {cs : List Str} (h : hitS G.exm x.cls cs = some true) : exh G (.cons cs tp as_ b hs) x ρ st = endH as_ (exs G b (begH as_ x ρ) st) := by
  show (match hitS G.exm x.cls cs with
    | some true => endH as_ (exs G b (begH as_ x ρ) st)
    | some false => exh G hs x ρ st
    | none => .stuck) = _
  rw [h]
theorem exh_miss {tp : Bool} {as_ : Option Nat} {b : Sts} {hs : Hds} {cs : List Str} (h : hitS G.exm x.cls cs = some false) : exh G (.cons cs tp as_ b hs) x ρ st = exh G hs x ρ st := by
  show (match hitS G.exm x.cls cs with
    | some true => endH as_ (exs G b (begH as_ x ρ) st)
    | some false => exh G hs x ρ st
    | none => .stuck) = _
  rw [h]
@[simp] theorem gam_fns {m : ModD} {gs : List FnI} : (m.gam gs).fns = gs := by rfl
@[simp] theorem gam_io {m : ModD} {gs : List FnI} : (m.gam gs).io = 0 := by rfl
@[simp] theorem gam_con {m : ModD} {gs : List FnI} : (m.gam gs).con = m.con.map (·.2) := by rfl
@[simp] theorem gam_exm {m : ModD} {gs : List FnI} : (m.gam gs).exm = exmL m.exm := by rfl
/-! ### a def's end, by a name -/
def fin (n : Nat) : SR → FRes
  | .nx _ st => .ok .non (st.take n)
  | .rt d st => .ok d (st.take n)
  | .rtl ds st => .okl ds (st.take n)
  | .exc x _ st => .exc x (st.take n)
  | _ => .stuck
theorem runDef_eq {d : Def} {args : List PD.Arg} : runDef G d args = fin (contsOf args).length (exs { G with io := (contsOf args).length } d.body (slotsOf 0 args ++ List.replicate (d.n - args.length) none) (contsOf args)) := by
  unfold runDef
  generalize exs { G with io := (contsOf args).length } d.body (slotsOf 0 args ++ List.replicate (d.n - args.length) none) (contsOf args) = r
  cases r <;> rfl
@[simp] theorem fin_nx {n : Nat} : fin n (.nx ρ st) = .ok .non (st.take n) := by rfl
@[simp] theorem fin_rt {n : Nat} {d : D} : fin n (.rt d st) = .ok d (st.take n) := by rfl
@[simp] theorem fin_rtl {n : Nat} {ds : List D} : fin n (.rtl ds st) = .okl ds (st.take n) := by rfl
@[simp] theorem fin_exc {n : Nat} : fin n (.exc x ρ st) = .exc x (st.take n) := by rfl
end
end PD

/-! PE2 -/
set_option Elab.async false
set_option linter.all false
set_option maxRecDepth 100000
set_option maxHeartbeats 4000000
/-! PE: loops by an invariant. -/
namespace PD
open PySem PySem.Spec PyProof.Rows L2
/-- every turn goes on -/
theorem for_all {I : Iter} {body : D → Slots → Store → SR} {n : Nat} (Inv : Nat → Slots → Store → Prop)
    (hs : ∀ i ρ st, i ≤ n → Inv i ρ st → I.size st = some n)
    (step : ∀ i ρ st, i < n → Inv i ρ st → ∃ d, I.at st i = some d ∧ ∃ ρ' st', (body d ρ st = .nx ρ' st' ∨ body d ρ st = .ct ρ' st') ∧ Inv (i + 1) ρ' st') :
    ∀ (k i : Nat) (ρ : Slots) (st : Store), i + k = n → Inv i ρ st → ∃ ρ' st', forLoop I body k i ρ st = .nx ρ' st' ∧ Inv n ρ' st'
  | 0, i, ρ, st, e, h => by
    have e' : i = n := by omega
    subst e'
    refine ⟨ρ, st, ?_, h⟩
    show (if I.size st = some i then SR.nx ρ st else .stuck) = _
    rw [if_pos (hs i ρ st (Nat.le_refl _) h)]
  | k + 1, i, ρ, st, e, h => by
    obtain ⟨d, hd, ρ', st', hb, h'⟩ := step i ρ st (by omega) h
    obtain ⟨ρ2, st2, e2, h2⟩ := for_all Inv hs step k (i + 1) ρ' st' (by omega) h'
    refine ⟨ρ2, st2, ?_, h2⟩
    show (if I.size st = some (i + (k + 1)) then pickS (I.at st i) fun d => match body d ρ st with
      | .nx ρ' st' => forLoop I body k (i + 1) ρ' st'
      | .ct ρ' st' => forLoop I body k (i + 1) ρ' st'
      | .bk ρ' st' => .nx ρ' st'
      | r => r else .stuck) = _
    rw [if_pos (by rw [e]; exact hs i ρ st (by omega) h), hd]
    rcases hb with hb | hb <;> (simp only [pickS, hb]; exact e2)
/-- a turn may leave: by a return, or an exception -/
theorem for_out {I : Iter} {body : D → Slots → Store → SR} {n : Nat} (Inv : Nat → Slots → Store → Prop) (Out : SR → Prop)
    (hs : ∀ i ρ st, i ≤ n → Inv i ρ st → I.size st = some n)
    (step : ∀ i ρ st, i < n → Inv i ρ st → ∃ d, I.at st i = some d ∧ ((∃ ρ' st', (body d ρ st = .nx ρ' st' ∨ body d ρ st = .ct ρ' st') ∧ Inv (i + 1) ρ' st') ∨ ((∃ x s, body d ρ st = .rt x s) ∧ Out (body d ρ st)))) :
    ∀ (k i : Nat) (ρ : Slots) (st : Store), i + k = n → Inv i ρ st → (∃ ρ' st', forLoop I body k i ρ st = .nx ρ' st' ∧ Inv n ρ' st') ∨ Out (forLoop I body k i ρ st)
  | 0, i, ρ, st, e, h => by
    have e' : i = n := by omega
    subst e'
    refine .inl ⟨ρ, st, ?_, h⟩
    show (if I.size st = some i then SR.nx ρ st else .stuck) = _
    rw [if_pos (hs i ρ st (Nat.le_refl _) h)]
  | k + 1, i, ρ, st, e, h => by
    obtain ⟨d, hd, hb⟩ := step i ρ st (by omega) h
    have e0 : forLoop I body (k + 1) i ρ st = (match body d ρ st with
      | .nx ρ' st' => forLoop I body k (i + 1) ρ' st'
      | .ct ρ' st' => forLoop I body k (i + 1) ρ' st'
      | .bk ρ' st' => .nx ρ' st'
      | r => r) := by
      show (if I.size st = some (i + (k + 1)) then pickS (I.at st i) fun d => match body d ρ st with
        | .nx ρ' st' => forLoop I body k (i + 1) ρ' st'
        | .ct ρ' st' => forLoop I body k (i + 1) ρ' st'
        | .bk ρ' st' => .nx ρ' st'
        | r => r else .stuck) = _
      rw [if_pos (by rw [e]; exact hs i ρ st (by omega) h), hd]
      rfl
    rcases hb with ⟨ρ', st', hb, h'⟩ | ⟨⟨x, s, hb⟩, ho⟩
    · rw [e0]
      rcases hb with hb | hb <;> (simp only [hb]; exact for_out Inv Out hs step k (i + 1) ρ' st' (by omega) h')
    · right
      rw [e0]
      rw [hb] at ho ⊢
      exact ho
/-- a list comprehension, every element kept -/
theorem lc_all {I : Iter} {body : D → Store → Res (List D)} {n : Nat} (Inv : Nat → List D → Store → Prop)
    (hs : ∀ i acc st, i ≤ n → Inv i acc st → I.size st = some n)
    (step : ∀ i acc st, i < n → Inv i acc st → ∃ d, I.at st i = some d ∧ ∃ ds st', body d st = .ok ds st' ∧ Inv (i + 1) (acc ++ ds) st') :
    ∀ (k i : Nat) (acc : List D) (st : Store), i + k = n → Inv i acc st → ∃ acc' st', lcLoop I body k i acc st = .ok acc' st' ∧ Inv n acc' st'
  | 0, i, acc, st, e, h => by
    have e' : i = n := by omega
    subst e'
    refine ⟨acc, st, ?_, h⟩
    show (if I.size st = some i then Res.ok acc st else .stuck) = _
    rw [if_pos (hs i acc st (Nat.le_refl _) h)]
  | k + 1, i, acc, st, e, h => by
    obtain ⟨d, hd, ds, st', hb, h'⟩ := step i acc st (by omega) h
    obtain ⟨acc2, st2, e2, h2⟩ := lc_all Inv hs step k (i + 1) (acc ++ ds) st' (by omega) h'
    refine ⟨acc2, st2, ?_, h2⟩
    show (if I.size st = some (i + (k + 1)) then pick (I.at st i) fun d => (body d st).bind fun ds st' => lcLoop I body k (i + 1) (acc ++ ds) st' else .stuck) = _
    rw [if_pos (by rw [e]; exact hs i acc st (by omega) h), hd]
    show (body d st).bind _ = _
    rw [hb]
    exact e2
/-! ### the walked list comprehension -/
def lBody (G : Gam) (own : List Nat) (tg : Tg) (c elt : Ex) (ρ : Slots) (d : D) (st : Store) : Res (List D) :=
  pick (asgT tg (.fz d) (wipeS ρ own) st) fun ρ' => (ev G c ρ' st).nox.bind fun b st => lcTurn b ((ev G elt ρ' st).nox.bind fun v st => lcPut G.io v st) (.ok [] st)
def kLc (G : Gam) (ρ : Slots) (own : List Nat) (tg : Tg) (c elt : Ex) (I : Iter) (st : Store) : Res Val := pick (I.size st) fun n => if n ≤ LIM then (lcLoop I (lBody G own tg c elt ρ) n 0 [] st).bind lcEnd else .stuck
@[simp] theorem ev_lc {G : Gam} {ρ : Slots} {st : Store} {own : List Nat} {tg : Tg} {it : It} {c elt : Ex} : ev G (.lc own tg it c elt) ρ st = (evI G it ρ st).bind (kLc G ρ own tg c elt) := by rfl
theorem kLc_eq {G : Gam} {ρ : Slots} {st : Store} {own : List Nat} {tg : Tg} {c elt : Ex} {I : Iter} {n : Nat} (h : I.size st = some n) (h2 : n ≤ LIM) : kLc G ρ own tg c elt I st = (lcLoop I (lBody G own tg c elt ρ) n 0 [] st).bind lcEnd := by
  unfold kLc
  rw [h]
  exact if_pos h2
@[simp] theorem lcEnd_eq {ds : List D} {st : Store} : lcEnd ds st = .ok (.loc st.length) (st ++ [.lst ds]) := by rfl
/-- an element without a test -/
theorem lBody_1 {G : Gam} {ρ : Slots} {st st' : Store} {own : List Nat} {i : Nat} {elt : Ex} {d e : D} (h : ev G elt ((wipeS ρ own).set i (some (.fz d))) st = .ok (.fz e) st') : lBody G own (.nm i) (.lit (.bl true)) elt ρ d st = .ok [e] st' := by
  show (((ev G elt ((wipeS ρ own).set i (some (.fz d))) st).nox.bind fun v st => lcPut G.io v st)) = _
  rw [h] <;> rfl
end PD

/-! PE3 -/
set_option Elab.async false
set_option linter.all false
set_option maxRecDepth 100000
set_option maxHeartbeats 4000000
/-! PE: kinds, equality of fractions. -/
namespace PD
open PySem PySem.Spec PyProof.Rows L2
theorem isi1 {ex : Str → Str → Option Bool} {d : D} {u n : String} {b : Bool} (h : tyS d = some u) (k : kitB u n = some b) : isiS ex d [.ty n] = some b := by
  show (match (match tyS d with | some u => kitB u n | none => none) with | some true => some true | some false => some false | none => none) = _
  rw [h]
  simp only [k]
  cases b <;> rfl
section
variable {ex : Str → Str → Option Bool} {i : Int} {b : Bool} {s : Str} {ds : List D}
@[simp] theorem isi_ii : isiS ex (.int i) [.ty "int"] = some true := isi1 rfl (by decide +kernel)
@[simp] theorem isi_ib : isiS ex (.int i) [.ty "bool"] = some false := isi1 rfl (by decide +kernel)
@[simp] theorem isi_is : isiS ex (.int i) [.ty "str"] = some false := isi1 rfl (by decide +kernel)
@[simp] theorem isi_it : isiS ex (.int i) [.ty "tuple"] = some false := isi1 rfl (by decide +kernel)
@[simp] theorem isi_bi : isiS ex (.bl b) [.ty "int"] = some true := isi1 rfl (by decide +kernel)
@[simp] theorem isi_bb : isiS ex (.bl b) [.ty "bool"] = some true := isi1 rfl (by decide +kernel)
@[simp] theorem isi_bs : isiS ex (.bl b) [.ty "str"] = some false := isi1 rfl (by decide +kernel)
@[simp] theorem isi_bt : isiS ex (.bl b) [.ty "tuple"] = some false := isi1 rfl (by decide +kernel)
@[simp] theorem isi_ss : isiS ex (.str s) [.ty "str"] = some true := isi1 rfl (by decide +kernel)
@[simp] theorem isi_st : isiS ex (.str s) [.ty "tuple"] = some false := isi1 rfl (by decide +kernel)
@[simp] theorem isi_si : isiS ex (.str s) [.ty "int"] = some false := isi1 rfl (by decide +kernel)
@[simp] theorem isi_tt : isiS ex (.tup ds) [.ty "tuple"] = some true := isi1 rfl (by decide +kernel)
@[simp] theorem isi_ts : isiS ex (.tup ds) [.ty "str"] = some false := isi1 rfl (by decide +kernel)
@[simp] theorem isi_ti : isiS ex (.tup ds) [.ty "int"] = some false := isi1 rfl (by decide +kernel)
@[simp] theorem isi_lt : isiS ex (.lst ds) [.ty "tuple"] = some false := isi1 rfl (by decide +kernel)
@[simp] theorem isi_nt : isiS ex .non [.ty "tuple"] = some false := isi1 rfl (by decide +kernel)
@[simp] theorem isi_ni : isiS ex .non [.ty "int"] = some false := isi1 rfl (by decide +kernel)
end
section
variable {G : Gam} {ρ : Slots} {st : Store}
def kRetl (io : Nat) (v : Val) (st : Store) : SR := match v with
  | .loc n => if io ≤ n then (match st[n]? with
    | some (.lst ds) => .rtl ds st
    | _ => .stuck) else .stuck
  | _ => .stuck
@[simp] theorem ex_retl {e : Ex} : ex G (.retl e) ρ st = (ev G e ρ st).sr ρ (kRetl G.io) := by rfl
theorem kRetl_eq {io n : Nat} {ds : List D} (h : st[n]? = some (.lst ds)) (hi : io ≤ n) : kRetl io (.loc n) st = .rtl ds st := by
  unfold kRetl
  simp only [h]
  rw [if_pos hi]
end
end PD

/-! F1 -/
set_option linter.all false
/-! F1: fractions in plain Lean. -/
namespace FR
/-- the denominator divides M -/
theorem den_mkRat_dvd (n : Int) (d : Nat) (h : d ≠ 0) : (mkRat n d).den ∣ d := by
  rw [Rat.den_mkRat, if_neg h]
  exact Nat.div_dvd_of_dvd (Nat.gcd_dvd_left _ _)
theorem den_iff {x : Rat} {M : Nat} (hM : M ≠ 0) : x.den ∣ M ↔ ∃ a : Int, x = mkRat a M := by
  constructor
  · rintro ⟨c, rfl⟩
    have hc : c ≠ 0 := by intro z; subst z; exact hM (Nat.mul_zero _)
    refine ⟨x.num * c, ?_⟩
    rw [Rat.mkRat_mul_right hc, Rat.mkRat_self]
  · rintro ⟨a, rfl⟩
    exact den_mkRat_dvd a M hM
theorem den_add {x y : Rat} {M : Nat} (hM : M ≠ 0) (hx : x.den ∣ M) (hy : y.den ∣ M) : (x + y).den ∣ M := by
  obtain ⟨a, rfl⟩ := (den_iff hM).mp hx
  obtain ⟨b, rfl⟩ := (den_iff hM).mp hy
  rw [Rat.mkRat_add_mkRat _ _ hM hM]
  have e : mkRat (a * (M : Int) + b * (M : Int)) (M * M) = mkRat (a + b) M := by
    rw [← Int.add_mul, Rat.mkRat_mul_right hM]
  rw [e]
  exact den_mkRat_dvd _ _ hM
theorem den_mul {x y : Rat} {M N : Nat} (hM : M ≠ 0) (hN : N ≠ 0) (hx : x.den ∣ M) (hy : y.den ∣ N) : (x * y).den ∣ M * N := by
  obtain ⟨a, rfl⟩ := (den_iff hM).mp hx
  obtain ⟨b, rfl⟩ := (den_iff hN).mp hy
  rw [Rat.mkRat_mul_mkRat]
  exact den_mkRat_dvd _ _ (Nat.mul_ne_zero hM hN)
theorem den_neg (x : Rat) : (-x).den = x.den := rfl
theorem den_dvd_trans {x : Rat} {M N : Nat} (h : x.den ∣ M) (k : M ∣ N) : x.den ∣ N := Nat.dvd_trans h k
theorem den_le {x : Rat} {M : Nat} (hM : M ≠ 0) (h : x.den ∣ M) : x.den ≤ M := Nat.le_of_dvd (Nat.pos_of_ne_zero hM) h
/-! the numerators -/
theorem num_mkRat_le (n : Int) (d : Nat) (h : d ≠ 0) : (mkRat n d).num.natAbs ≤ n.natAbs := by
  rw [Rat.num_mkRat, if_neg h, Int.natAbs_ediv_of_dvd]
  · exact Nat.div_le_self _ _
  · have : ((d.gcd n.natAbs : Nat) : Int) ∣ n := by
      rw [Int.ofNat_dvd_left]
      exact Nat.gcd_dvd_right _ _
    exact this
theorem num_add (x y : Rat) : (x + y).num.natAbs ≤ x.num.natAbs * y.den + y.num.natAbs * x.den := by
  rw [Rat.add_def']
  refine Nat.le_trans (num_mkRat_le _ _ (Nat.mul_ne_zero x.den_nz y.den_nz)) ?_
  refine Nat.le_trans (Int.natAbs_add_le _ _) ?_
  rw [Int.natAbs_mul, Int.natAbs_mul, Int.natAbs_natCast, Int.natAbs_natCast]
  exact Nat.le_refl _
theorem num_mul (x y : Rat) : (x * y).num.natAbs ≤ x.num.natAbs * y.num.natAbs := by
  rw [Rat.mul_def']
  refine Nat.le_trans (num_mkRat_le _ _ (Nat.mul_ne_zero x.den_nz y.den_nz)) ?_
  rw [Int.natAbs_mul]
  exact Nat.le_refl _
/-- sizes: the numerator below 2^N, the denominator below 2^4400 -/
structure Sz (N : Nat) (x : Rat) : Prop where
  n : x.num.natAbs < 2 ^ N
  d : x.den < 2 ^ 4400
theorem Sz.mono {N M : Nat} {x : Rat} (h : Sz N x) (l : N ≤ M) : Sz M x := ⟨Nat.lt_of_lt_of_le h.n (Nat.pow_le_pow_right (by decide) l), h.d⟩
theorem Sz.neg {N : Nat} {x : Rat} (h : Sz N x) : Sz N (-x) := ⟨by rw [Rat.neg_num, Int.natAbs_neg]; exact h.n, h.d⟩
theorem Sz.add {N : Nat} {x y : Rat} (hx : Sz N x) (hy : Sz N y) (hd : (x + y).den < 2 ^ 4400) : Sz (N + 4401) (x + y) := by
  refine ⟨Nat.lt_of_le_of_lt (num_add x y) ?_, hd⟩
  have h1 : x.num.natAbs * y.den < 2 ^ (N + 4400) := by
    rw [Nat.pow_add]
    exact Nat.mul_lt_mul_of_lt_of_le hx.n (Nat.le_of_lt hy.d) (Nat.two_pow_pos _)
  have h2 : y.num.natAbs * x.den < 2 ^ (N + 4400) := by
    rw [Nat.pow_add]
    exact Nat.mul_lt_mul_of_lt_of_le hy.n (Nat.le_of_lt hx.d) (Nat.two_pow_pos _)
  have h3 : 2 ^ (N + 4401) = 2 ^ (N + 4400) + 2 ^ (N + 4400) := by
    rw [show N + 4401 = N + 4400 + 1 by omega, Nat.pow_succ]; omega
  omega
theorem Sz.mul {N M : Nat} {x y : Rat} (hx : Sz N x) (hy : Sz M y) (hd : (x * y).den < 2 ^ 4400) : Sz (N + M) (x * y) := by
  refine ⟨Nat.lt_of_le_of_lt (num_mul x y) ?_, hd⟩
  rw [Nat.pow_add]
  by_cases h : y.num.natAbs = 0
  · rw [h, Nat.mul_zero, ← Nat.pow_add]; exact Nat.two_pow_pos _
  · exact Nat.mul_lt_mul_of_lt_of_le hx.n (Nat.le_of_lt hy.n) (Nat.two_pow_pos _)
end FR

/-! PE4 -/
set_option Elab.async false
set_option linter.all false
set_option maxRecDepth 100000
set_option maxHeartbeats 4000000
/-! PE4 -/
namespace FR
theorem step_half {B S : Nat} (h : S ≤ B) (h0 : S ≠ 0) : 2 * (S * (B % S)) ≤ B * S := by
  have h1 : B % S < S := Nat.mod_lt _ (by omega)
  have h2 : B % S + S ≤ B := by
    have := Nat.div_add_mod B S
    have hd : 1 ≤ B / S := (Nat.le_div_iff_mul_le (by omega)).mpr (by omega)
    have : S * 1 ≤ S * (B / S) := Nat.mul_le_mul_left _ hd
    omega
  have h3 : 2 * (B % S) ≤ B := by omega
  calc 2 * (S * (B % S)) = S * (2 * (B % S)) := by rw [Nat.mul_left_comm]
    _ ≤ S * B := Nat.mul_le_mul_left _ h3
    _ = B * S := Nat.mul_comm _ _
theorem bits_lt (z : Int) : z.natAbs < 2 ^ (PySem.Builtin.Int.intBits z) := by
  unfold PySem.Builtin.Int.intBits
  split
  · rename_i h
    have : z = 0 := by simpa using h
    subst this
    decide
  · rename_i h
    exact Nat.lt_log2_self
theorem bits_le {z : Int} {N : Nat} (h : z.natAbs < 2 ^ N) : PySem.Builtin.Int.intBits z ≤ N := by
  unfold PySem.Builtin.Int.intBits
  split
  · omega
  · rename_i hz
    have hz' : z.natAbs ≠ 0 := by simpa using hz
    have := (Nat.log2_lt hz').mpr h
    omega
/-- sizes under which the operations work -/
abbrev NB : Nat := 1000000
end FR
/-! PE4: fractions as data, ranges, what is drawn from, stores. -/
namespace PD
open PySem PySem.Spec PyProof.Rows L2 FR
/-- a fraction -/
def frD (x : Rat) : D := .tup [.int x.num, .int (x.den : Int)]
theorem mok_of {i j : Int} {N M : Nat} (hi : i.natAbs < 2 ^ N) (hj : j.natAbs < 2 ^ M) (h : N + M < 134217000) : mok i j = true := by
  refine decide_eq_true ?_
  have h1 : i.natAbs.log2 ≤ N := by
    by_cases z : i.natAbs = 0
    · rw [z]; simp
    · exact Nat.le_of_lt ((Nat.log2_lt z).mpr hi)
  have h2 : j.natAbs.log2 ≤ M := by
    by_cases z : j.natAbs = 0
    · rw [z]; simp
    · exact Nat.le_of_lt ((Nat.log2_lt z).mpr hj)
  omega
theorem pyl_of {x y : Int} (h : y.natAbs < 2 ^ 9000) : Builtin.divisionGoesByPylong x y = false := by
  unfold Builtin.divisionGoesByPylong
  have h1 : (if y == 0 then 0 else y.natAbs.log2 / 30 + 1) ≤ 300 := by
    split
    · omega
    · rename_i z
      have z' : y.natAbs ≠ 0 := by simpa using z
      have := (Nat.log2_lt z').mpr h
      omega
  simp only [Bool.and_eq_false_iff, decide_eq_false_iff_not]
  left
  omega
theorem low_num {p q s : Int} (hq : q ≠ 0) (hs : s = (if q < 0 then -((Nat.gcd p.natAbs q.natAbs : Nat) : Int) else ((Nat.gcd p.natAbs q.natAbs : Nat) : Int))) : p.fdiv s = (Rat.divInt p q).num ∧ q.fdiv s = ((Rat.divInt p q).den : Int) := by
  have hg : (Nat.gcd p.natAbs q.natAbs) ≠ 0 := by
    intro z
    have := Nat.gcd_eq_zero_iff.mp z
    omega
  rw [Rat.num_divInt, Rat.den_divInt, if_neg hq]
  have e : Int.gcd q p = Nat.gcd p.natAbs q.natAbs := by rw [Int.gcd_comm]; rfl
  rw [e]
  generalize hgg : Nat.gcd p.natAbs q.natAbs = g at *
  have dp : (g : Int) ∣ p := by rw [← hgg]; exact Int.ofNat_dvd_left.mpr (Nat.gcd_dvd_left _ _)
  have dq : (g : Int) ∣ q := by rw [← hgg]; exact Int.ofNat_dvd_left.mpr (Nat.gcd_dvd_right _ _)
  obtain ⟨c, rfl⟩ := dp
  obtain ⟨d, rfl⟩ := dq
  have g0 : (g : Int) ≠ 0 := by omega
  by_cases h : (g : Int) * d < 0
  · rw [if_pos h] at hs
    subst hs
    have sg : ((g : Int) * d).sign = -1 := Int.sign_eq_neg_one_of_neg h
    have dneg : d < 0 := by
      rcases Int.lt_or_le d 0 with z | z
      · exact z
      · exact absurd h (Int.not_lt.mpr (show (0 : Int) ≤ (g : Int) * d from Int.mul_nonneg (by omega) z))
    refine ⟨?_, ?_⟩
    · rw [sg, show (g : Int) * c = -(g : Int) * (-c) by rw [Int.neg_mul_neg], Int.mul_fdiv_cancel_left _ (by omega)]
      rw [show (-1 : Int) * (-(g : Int) * -c) = g * (-c) by rw [Int.neg_mul_neg, Int.neg_mul, Int.one_mul, Int.mul_neg], Int.mul_ediv_cancel_left _ g0]
    · rw [show (g : Int) * d = -(g : Int) * (-d) by rw [Int.neg_mul_neg], Int.mul_fdiv_cancel_left _ (by omega)]
      rw [Int.neg_mul_neg, Int.natAbs_mul, Int.natAbs_natCast, Nat.mul_div_cancel_left _ (by omega)]
      omega
  · rw [if_neg h] at hs
    subst hs
    have dpos : 0 < d := by
      rcases Int.lt_or_le 0 d with z | z
      · exact z
      · rcases Int.lt_or_eq_of_le z with z | z
        · exact absurd (Int.mul_neg_of_pos_of_neg (by omega) z) h
        · subst z; exact absurd (Int.mul_zero _) hq
    have sg : ((g : Int) * d).sign = 1 := Int.sign_eq_one_of_pos (Int.mul_pos (by omega) dpos)
    refine ⟨?_, ?_⟩
    · rw [sg, Int.mul_fdiv_cancel_left _ g0, Int.one_mul, Int.mul_ediv_cancel_left _ g0]
    · rw [Int.mul_fdiv_cancel_left _ g0, Int.natAbs_mul, Int.natAbs_natCast, Nat.mul_div_cancel_left _ (by omega)]
      omega
def frP (x : Rat) : PyData := .tuple [.int x.num, .int (x.den : Int)]
theorem pyOf_fr (x : Rat) : pyOf (frD x) = some (frP x) := rfl
theorem pyOfs_fr : ∀ xs : List Rat, pyOfs (xs.map frD) = some (xs.map frP)
  | [] => rfl
  | x :: xs => by
    show (match pyOf (frD x) with
      | some p => (match pyOfs (xs.map frD) with
        | some ps => some (p :: ps)
        | none => none)
      | none => none) = _
    rw [pyOf_fr, pyOfs_fr xs]
    rfl
theorem eqv_fr (x y : Rat) : PyData.eqv (frP x) (frP y) = decide (x = y) := by
  have e : PyData.eqv (frP x) (frP y) = (x.num == y.num && ((x.den : Int) == (y.den : Int) && true)) := by
    simp [frP, PyData.eqv, PyData.eqvAll]
  rw [e]
  by_cases h : x = y
  · subst h; simp
  · rw [decide_eq_false h]
    rw [Bool.and_true, Bool.and_eq_false_iff]
    by_cases h1 : x.num = y.num
    · right
      have h2 : x.den ≠ y.den := fun z => h (Rat.ext h1 z)
      simp; omega
    · left; simpa using h1
theorem eqvAll_fr : ∀ xs ys : List Rat, PyData.eqvAll (xs.map frP) (ys.map frP) = decide (xs = ys)
  | [], [] => by simp [PyData.eqvAll]
  | [], _ :: _ => by simp [PyData.eqvAll]
  | _ :: _, [] => by simp [PyData.eqvAll]
  | x :: xs, y :: ys => by
    have e : PyData.eqvAll ((x :: xs).map frP) ((y :: ys).map frP) = (PyData.eqv (frP x) (frP y) && PyData.eqvAll (xs.map frP) (ys.map frP)) := by
      simp [PyData.eqvAll]
    rw [e, eqv_fr, eqvAll_fr xs ys]
    by_cases h1 : x = y <;> by_cases h2 : xs = ys <;> simp [h1, h2]
theorem lay_fr (x : Rat) : PyData.canLay0 (frP x) = true := by simp [frP, PyData.canLay0, PyData.canLayAll0]
theorem layAll_fr : ∀ xs : List Rat, PyData.canLayAll0 (xs.map frP) = true
  | [] => by simp [PyData.canLayAll0]
  | x :: xs => by simp [PyData.canLayAll0, lay_fr, layAll_fr xs]
theorem depth_fr (x : Rat) : PyData.depth (frP x) = 1 := by simp [frP, PyData.depth, PyData.depthAll]
theorem depthAll_fr : ∀ xs : List Rat, PyData.depthAll (xs.map frP) ≤ 1
  | [] => by simp [PyData.depthAll]
  | x :: xs => by
    have := depthAll_fr xs
    simp [PyData.depthAll, depth_fr]
    omega
theorem shaped_fr (x : Rat) : SeqAt.shaped (frP x) = true := by
  unfold SeqAt.shaped
  rw [lay_fr, depth_fr]
  rfl
theorem shaped_row (xs : List Rat) : SeqAt.shaped (.tuple (xs.map frP)) = true := by
  unfold SeqAt.shaped
  have h1 : PyData.canLay0 (.tuple (xs.map frP)) = true := by rw [PyData.canLay0]; exact layAll_fr xs
  have h2 : PyData.depth (.tuple (xs.map frP)) ≤ 64 := by
    rw [PyData.depth]
    have := depthAll_fr xs
    omega
  rw [h1, decide_eq_true h2]
  rfl
@[simp] theorem eqS_fr (x y : Rat) : eqS (frD x) (frD y) = some (decide (x = y)) := by
  show (match pyOf (frD x), pyOf (frD y) with
    | some p, some q => if SeqAt.shaped p && SeqAt.shaped q then some (PyData.eqv p q) else none
    | _, _ => none) = _
  rw [pyOf_fr, pyOf_fr]
  simp only [shaped_fr, Bool.and_self, if_true, eqv_fr]
theorem eqS_row (xs ys : List Rat) : eqS (.tup (xs.map frD)) (.tup (ys.map frD)) = some (decide (xs = ys)) := by
  have e : ∀ xs : List Rat, pyOf (.tup (xs.map frD)) = some (.tuple (xs.map frP)) := fun xs => by
    show (match pyOfs (xs.map frD) with
      | some ps => some (PyData.tuple ps)
      | none => none) = _
    rw [pyOfs_fr]
  show (match pyOf (.tup (xs.map frD)), pyOf (.tup (ys.map frD)) with
    | some p, some q => if SeqAt.shaped p && SeqAt.shaped q then some (PyData.eqv p q) else none
    | _, _ => none) = _
  rw [e, e]
  simp only [shaped_row, Bool.and_self, if_true]
  rw [PyData.eqv, eqvAll_fr]
def kRngB (x y : Val) (st : Store) : Res Iter := pick (dr st x) fun d => pick (dr st y) fun e => pick (rngS d e) fun I => .ok I st
theorem kRng2_bind {G : Gam} {ρ : Slots} {st : Store} {b : Ex} {x : Val} : kRng2 G ρ b x st = (ev G b ρ st).bind (kRngB x) := by rfl
theorem kRngB_eq {st : Store} {i j : Int} (h : rngOk i = true) (h2 : rngOk j = true) : kRngB (.fz (.int i)) (.fz (.int j)) st = .ok (.rng i (j - i).toNat) st := by
  unfold kRngB
  simp [rngS_eq h h2]
theorem rngOk_nat {k : Nat} (h : k < 2 ^ 60) : rngOk (k : Int) = true := by
  unfold rngOk; simp; omega
/-- what the law draws from -/
def IsWell (ds : List D) : Prop := ∃ (spot : Nat) (rows : List Int), rows.length ≤ 100000 ∧ ds = [.int spot, .lst (rows.map .int)]
theorem isx_1 {ex : Str → Str → Option Bool} {c t : Str} {b : Bool} (h : ex c t = some b) : isxS ex c [t] = some b := by
  show (match ex c t with | some true => some true | some false => some false | none => none) = _
  rw [h]
  cases b <;> rfl
theorem endH_nx {i : Nat} {ρ : Slots} {st : Store} (h : noExn (ρ.set i none) = true) : endH (some i) (.nx ρ st) = .nx (ρ.set i none) st := if_pos h
def frK (io n : Nat) (st : Store) : Option Cont → Res D
  | some (.fz d) => .ok d st
  | some c => if io ≤ n then .ok c.d (st.set n (.fz c.d)) else .stuck
  | none => .stuck
theorem fr_at {io n : Nat} {st : Store} : fr io (.loc n) st = frK io n st st[n]? := by
  unfold fr frK
  rfl
@[simp] theorem frK_fz {io n : Nat} {st : Store} {d : D} : frK io n st (some (.fz d)) = .ok d st := by rfl
@[simp] theorem frK_lst {n : Nat} {st : Store} {ds : List D} : frK 0 n st (some (.lst ds)) = .ok (.lst ds) (st.set n (.fz (.lst ds))) := by rfl

theorem frD_int (v : Int) : D.tup [.int v, .int 1] = frD (v : Rat) := by
  unfold frD
  rw [Rat.num_intCast, Rat.den_intCast]
  rfl
theorem fr0 (x : Rat) : idxS (frD x) (.int 0) = some (.int x.num) := by unfold frD; simp
theorem fr1 (x : Rat) : idxS (frD x) (.int 1) = some (.int (x.den : Int)) := by unfold frD; simp
end PD

/-! PE5 -/
set_option Elab.async false
set_option linter.all false
set_option maxRecDepth 100000
set_option maxHeartbeats 4000000
/-! PE5: while, kinds, lists as freezing arguments. -/
namespace PD
open PySem PySem.Spec PyProof.Rows L2 FR
theorem while_down {c : Slots → Store → Res Val} {body : Slots → Store → SR} (Inv : Nat → Slots → Store → Prop) (Done : Slots → Store → Prop)
    (step : ∀ k ρ st, Inv k ρ st → (c ρ st = .ok (.fz (.bl false)) st ∧ Done ρ st) ∨ (c ρ st = .ok (.fz (.bl true)) st ∧ ∃ k' ρ' st', k' < k ∧ (body ρ st = .nx ρ' st' ∨ body ρ st = .ct ρ' st') ∧ Inv k' ρ' st')) :
    ∀ (k : Nat) (ρ : Slots) (st : Store), Inv k ρ st → ∃ ρ' st', whileS c body ρ st = .nx ρ' st' ∧ Done ρ' st' := by
  have main : ∀ (k : Nat) (ρ : Slots) (st : Store), Inv k ρ st → ∃ n ρ' st', whileN c body n ρ st = some (.nx ρ' st') ∧ Done ρ' st' := by
    intro k
    induction k using Nat.strongRecOn with
    | ind k ih =>
      intro ρ st h
      rcases step k ρ st h with ⟨e, d⟩ | ⟨e, k', ρ', st', lt, hb, h'⟩
      · refine ⟨1, ρ, st, ?_, d⟩
        show (match c ρ st with
          | .ok (.fz (.bl true)) st => (match body ρ st with
            | .nx ρ' st' => whileN c body 0 ρ' st'
            | .ct ρ' st' => whileN c body 0 ρ' st'
            | .bk ρ' st' => some (.nx ρ' st')
            | r => some r)
          | .ok (.fz (.bl false)) st => some (.nx ρ st)
          | .exc x st => some (.exc x ρ st)
          | _ => some .stuck) = _
        rw [e]
      · obtain ⟨n, ρ2, st2, e2, d⟩ := ih k' lt ρ' st' h'
        refine ⟨n + 1, ρ2, st2, ?_, d⟩
        show (match c ρ st with
          | .ok (.fz (.bl true)) st => (match body ρ st with
            | .nx ρ' st' => whileN c body n ρ' st'
            | .ct ρ' st' => whileN c body n ρ' st'
            | .bk ρ' st' => some (.nx ρ' st')
            | r => some r)
          | .ok (.fz (.bl false)) st => some (.nx ρ st)
          | .exc x st => some (.exc x ρ st)
          | _ => some .stuck) = _
        rw [e]
        rcases hb with hb | hb <;> (simp only [hb]; exact e2)
  intro k ρ st h
  obtain ⟨n, ρ', st', e, d⟩ := main k ρ st h
  exact ⟨ρ', st', whileS_eq e, d⟩
@[simp] theorem ex_whl {G : Gam} {ρ : Slots} {st : Store} {c : Ex} {b : Sts} : ex G (.whl c b) ρ st = whileS (ev G c) (exs G b) ρ st := by rfl
section
variable {ex : Str → Str → Option Bool} {ds : List D}
@[simp] theorem isi_li : isiS ex (.lst ds) [.ty "int"] = some false := isi1 rfl (by decide +kernel)
@[simp] theorem isi_ns : isiS ex .non [.ty "str"] = some false := isi1 rfl (by decide +kernel)
@[simp] theorem isi_ls : isiS ex (.lst ds) [.ty "str"] = some false := isi1 rfl (by decide +kernel)
@[simp] theorem isi_sb {s : Str} : isiS ex (.str s) [.ty "bool"] = some false := isi1 rfl (by decide +kernel)
@[simp] theorem isi_tb : isiS ex (.tup ds) [.ty "bool"] = some false := isi1 rfl (by decide +kernel)
end
@[simp] theorem kCal2_1d {st : Store} {muts : List Bool} {f : List PD.Arg → FRes} {a d : D} : kCal2 ⟨muts, [d], f⟩ [.inl a] st = kRes [] st (f [.fz a, .fz d]) := by rfl
@[simp] theorem kCal2_2d {st : Store} {muts : List Bool} {f : List PD.Arg → FRes} {a b d : D} : kCal2 ⟨muts, [d], f⟩ [.inl a, .inl b] st = kRes [] st (f [.fz a, .fz b, .fz d]) := by rfl
@[simp] theorem kTup2_4 {st : Store} {a b c d : D} : kTup2 [a, b, c, d] st = .ok (.fz (.tup [a, b, c, d])) st := by rfl
@[simp] theorem kTup2_5 {st : Store} {a b c d e : D} : kTup2 [a, b, c, d, e] st = .ok (.fz (.tup [a, b, c, d, e])) st := by rfl
@[simp] theorem kTup2_6 {st : Store} {a b c d e f : D} : kTup2 [a, b, c, d, e, f] st = .ok (.fz (.tup [a, b, c, d, e, f])) st := by rfl
@[simp] theorem isS_bb {x y : Bool} : isS (.bl x) (.bl y) = some (x == y) := by rfl
end PD

/-! LW00 -/
set_option Elab.async false
set_option linter.all false
set_option maxRecDepth 100000
set_option maxHeartbeats 4000000
namespace K00
open PySem PD L2 FR
/-! F2 -/
theorem lowest_ok {p q : Int} (hq : q ≠ 0) (hb : q.natAbs < 2 ^ 9000) : f_lowest [.fz (.int p), .fz (.int q)] = .ok (frD (Rat.divInt p q)) [] := by
  obtain ⟨s, hs⟩ : ∃ s : Int, s = (if q < 0 then -((Nat.gcd p.natAbs q.natAbs : Nat) : Int) else ((Nat.gcd p.natAbs q.natAbs : Nat) : Int)) := ⟨_, rfl⟩
  have hg : Nat.gcd p.natAbs q.natAbs ≠ 0 := by
    intro z
    have := Nat.gcd_eq_zero_iff.mp z
    omega
  have s0 : s ≠ 0 := by
    rw [hs]; split <;> omega
  have sb : s.natAbs < 2 ^ 9000 := by
    have h1 : Nat.gcd p.natAbs q.natAbs ≤ q.natAbs := Nat.gcd_le_right _ (by omega)
    have h2 : s.natAbs = Nat.gcd p.natAbs q.natAbs := by rw [hs]; split <;> omega
    omega
  have h1 := pyl_of (x := p) sb
  have h2 := pyl_of (x := q) sb
  obtain ⟨e1, e2⟩ := low_num hq hs
  unfold frD
  rw [← e1, ← e2]
  clear e1 e2
  simp only [f_lowest, runDef, b_lowest, g_lowest, contsOf, slotsOf]
  by_cases h : q < 0
  · rw [if_pos h] at hs
    subst hs
    simp [h, bopS_fdv s0 h1, bopS_fdv s0 h2]
  · rw [if_neg h] at hs
    subst hs
    simp [h, bopS_fdv s0 h1, bopS_fdv s0 h2]
theorem den_prod {x y : Rat} {N M : Nat} (hx : Sz N x) (hy : Sz M y) : ((x.den : Int) * (y.den : Int)) ≠ 0 ∧ ((x.den : Int) * (y.den : Int)).natAbs < 2 ^ 9000 := by
  refine ⟨Int.mul_ne_zero (by have := x.den_nz; omega) (by have := y.den_nz; omega), ?_⟩
  rw [Int.natAbs_mul, Int.natAbs_natCast, Int.natAbs_natCast]
  refine Nat.lt_of_lt_of_le (Nat.mul_lt_mul_of_lt_of_le hx.d (Nat.le_of_lt hy.d) (Nat.two_pow_pos _)) ?_
  rw [← Nat.pow_add]
  exact Nat.pow_le_pow_right (by decide) (by decide)
theorem add_divInt (x y : Rat) : Rat.divInt (x.num * (y.den : Int) + y.num * (x.den : Int)) ((x.den : Int) * (y.den : Int)) = x + y := by
  rw [Rat.add_def', ← Rat.divInt_ofNat, Int.natCast_mul]
theorem mul_divInt (x y : Rat) : Rat.divInt (x.num * y.num) ((x.den : Int) * (y.den : Int)) = x * y := by
  rw [Rat.mul_def', ← Rat.divInt_ofNat, Int.natCast_mul]
theorem plus_ok {x y : Rat} (hx : Sz NB x) (hy : Sz NB y) : f_plus [.fz (frD x), .fz (frD y)] = .ok (frD (x + y)) [] := by
  have m1 : mok x.num (y.den : Int) = true := mok_of hx.n (by rw [Int.natAbs_natCast]; exact hy.d) (by decide)
  have m2 : mok y.num (x.den : Int) = true := mok_of hy.n (by rw [Int.natAbs_natCast]; exact hx.d) (by decide)
  have m3 : mok (x.den : Int) (y.den : Int) = true := mok_of (by rw [Int.natAbs_natCast]; exact hx.d) (by rw [Int.natAbs_natCast]; exact hy.d) (by decide)
  obtain ⟨d0, db⟩ := den_prod hx hy
  have lo := lowest_ok (p := x.num * (y.den : Int) + y.num * (x.den : Int)) d0 db
  rw [add_divInt] at lo
  have lo' : f_lowest [.fz (.int (x.num * (y.den : Int) + y.num * (x.den : Int))), .fz (.int ((x.den : Int) * (y.den : Int)))] = .ok (.tup [.int (x + y).num, .int ((x + y).den : Int)]) [] := lo
  have cc : ∀ n : Nat, n ≠ 1 → ((n : Int) == 1) = false := fun n h => by simp; omega
  simp only [f_plus, runDef, b_plus, g_plus, contsOf, slotsOf, frD]
  by_cases h1 : x.den = 1
  · have k1 : ((x.den : Int) == 1) = true := by rw [h1]; rfl
    by_cases h2 : y.den = 1
    · have k2 : ((y.den : Int) == 1) = true := by rw [h2]; rfl
      have e : x + y = Rat.divInt (x.num + y.num) 1 := by
        rw [Rat.add_def', h1, h2]; simp [Rat.mkRat_eq_div, Rat.divInt_eq_div]
      have e1 : (x + y).num = x.num + y.num := by rw [e, Rat.num_divInt]; simp
      have e2 : (x + y).den = 1 := by rw [e, Rat.den_divInt]; simp
      simp [k1, k2, e1, e2]
    · simp [k1, cc _ h2, bopS_mul m1, bopS_mul m2, bopS_mul m3, lo']
  · simp [cc _ h1, bopS_mul m1, bopS_mul m2, bopS_mul m3, lo']
theorem minus_ok {x y : Rat} (hx : Sz NB x) (hy : Sz NB y) : f_minus [.fz (frD x), .fz (frD y)] = .ok (frD (x - y)) [] := by
  have h := plus_ok hx hy.neg
  rw [← Rat.sub_eq_add_neg] at h
  have h' : f_plus [.fz (.tup [.int x.num, .int (x.den : Int)]), .fz (.tup [.int (-y.num), .int (y.den : Int)])] = .ok (.tup [.int (x - y).num, .int ((x - y).den : Int)]) [] := h
  simp only [f_minus, runDef, b_minus, g_minus, contsOf, slotsOf, frD]
  simp [h']
theorem product_ok {x y : Rat} (hx : Sz NB x) (hy : Sz NB y) : f_product_of [.fz (frD x), .fz (frD y)] = .ok (frD (x * y)) [] := by
  have m1 : mok x.num y.num = true := mok_of hx.n hy.n (by decide)
  have m3 : mok (x.den : Int) (y.den : Int) = true := mok_of (by rw [Int.natAbs_natCast]; exact hx.d) (by rw [Int.natAbs_natCast]; exact hy.d) (by decide)
  obtain ⟨d0, db⟩ := den_prod hx hy
  have lo := lowest_ok (p := x.num * y.num) d0 db
  rw [mul_divInt] at lo
  simp only [f_product_of, runDef, b_product_of, g_product_of, contsOf, slotsOf, frD] at lo ⊢
  simp [bopS_mul m1, bopS_mul m3, lo]
theorem div_divInt {x y : Rat} (hy : y ≠ 0) : Rat.divInt (x.num * (y.den : Int)) ((x.den : Int) * y.num) = x / y := by
  have hn : y.num ≠ 0 := fun z => hy (Rat.num_eq_zero.mp z)
  rw [Rat.div_def, Rat.inv_def]
  conv => rhs; rw [← Rat.num_divInt_den x]
  rw [Rat.divInt_mul_divInt]
/-- y is not 0 -/
theorem over_ok {x y : Rat} (hx : Sz NB x) (hy : Sz NB y) (h0 : y ≠ 0) (hb : y.num.natAbs < 2 ^ 4500) : f_over [.fz (frD x), .fz (frD y)] = .ok (frD (x / y)) [] := by
  have hn : y.num ≠ 0 := fun z => h0 (Rat.num_eq_zero.mp z)
  have m1 : mok x.num (y.den : Int) = true := mok_of hx.n (by rw [Int.natAbs_natCast]; exact hy.d) (by decide)
  have m3 : mok (x.den : Int) y.num = true := mok_of (by rw [Int.natAbs_natCast]; exact hx.d) hy.n (by decide)
  have db : ((x.den : Int) * y.num).natAbs < 2 ^ 9000 := by
    rw [Int.natAbs_mul, Int.natAbs_natCast]
    refine Nat.lt_of_lt_of_le (Nat.mul_lt_mul_of_lt_of_le hx.d (Nat.le_of_lt hb) (Nat.two_pow_pos _)) ?_
    rw [← Nat.pow_add]
    exact Nat.pow_le_pow_right (by decide) (by decide)
  have lo := lowest_ok (p := x.num * (y.den : Int)) (q := (x.den : Int) * y.num) (Int.mul_ne_zero (by have := x.den_nz; omega) hn) db
  rw [div_divInt h0] at lo
  have k0 : (y.num == 0) = false := by simpa using hn
  simp only [f_over, runDef, b_over, g_over, contsOf, slotsOf, frD] at lo ⊢
  simp [k0, bopS_mul m1, bopS_mul m3, lo]
/-! F3 -/
/-- what holds before turn i of Euclid's loop -/
def GInv (a b : Nat) (i : Nat) (ρ : Slots) (st : Store) : Prop := st = [] ∧ ∃ (B S : Nat) (x y t r : Option Val), ρ = [x, y, some (.fz (.int (B : Int))), some (.fz (.int (S : Int))), t, r] ∧ Nat.gcd B S = Nat.gcd a b ∧
  (i = 0 → B = a ∧ S = b) ∧ (i ≠ 0 → S < B ∧ B * S * 2 ^ (i - 1) ≤ a * b)
theorem gcd_turn {G : Gam} {a b i n : Nat} {ρ : Slots} {st : Store} (h : GInv a b i ρ st) :
    (∃ ρ' st', fBody G (.nm 4) lp0_law_gcd (.int ((0 : Int) + i)) ρ st = .nx ρ' st' ∧ GInv a b (i + 1) ρ' st') ∨ (fBody G (.nm 4) lp0_law_gcd (.int ((0 : Int) + i)) ρ st = .rt (.int ((Nat.gcd a b : Nat) : Int)) []) := by
  obtain ⟨rfl, B, S, x, y, t, r, rfl, hg, h0, h1⟩ := h
  by_cases hS : S = 0
  · right
    subst hS
    have : B = Nat.gcd a b := by rw [← hg]; simp
    subst this
    simp [lp0_law_gcd]
  · left
    have k0 : ((S : Int) == 0) = false := by simp; omega
    have sn : (S : Int) ≠ 0 := by omega
    refine ⟨[x, y, some (.fz (.int (S : Int))), some (.fz (.int ((B % S : Nat) : Int))), some (.fz (.int ((0 : Int) + i))), some (.fz (.int ((B % S : Nat) : Int)))], [], ?_, rfl, S, B % S, _, _, _, _, rfl, ?_, ?_, ?_⟩
    · have e : (B : Int).fmod (S : Int) = ((B % S : Nat) : Int) := by
        rw [Int.fmod_eq_emod_of_nonneg _ (by omega)]; rfl
      simp [lp0_law_gcd, k0, bopS_mod sn, e]
    · rw [← hg, Nat.gcd_comm B S, Nat.gcd_rec S B, Nat.gcd_comm]
    · intro z; omega
    · intro _
      have hm : B % S < S := Nat.mod_lt _ (by omega)
      refine ⟨hm, ?_⟩
      rw [Nat.add_sub_cancel]
      by_cases hi : i = 0
      · obtain ⟨rfl, rfl⟩ := h0 hi
        subst hi
        rw [Nat.pow_zero, Nat.mul_one]
        calc S * (B % S) ≤ S * B := Nat.mul_le_mul_left _ (Nat.mod_le _ _)
          _ = B * S := Nat.mul_comm _ _
      · obtain ⟨h2, h3⟩ := h1 hi
        have hh := step_half (B := B) (S := S) (by omega) hS
        have e : 2 ^ i = 2 * 2 ^ (i - 1) := by
          rw [show i = (i - 1) + 1 by omega, Nat.pow_succ]; simp; rw [Nat.mul_comm]
        rw [e]
        calc S * (B % S) * (2 * 2 ^ (i - 1)) = 2 * (S * (B % S)) * 2 ^ (i - 1) := by
              rw [← Nat.mul_assoc, Nat.mul_comm (S * (B % S)) 2]
          _ ≤ B * S * 2 ^ (i - 1) := Nat.mul_le_mul_right _ hh
          _ ≤ a * b := h3
theorem gcd_ok {a b : Int} (ba : Builtin.Int.intBits a ≤ 4000000) (bb : Builtin.Int.intBits b ≤ 4000000) : f_law_gcd [.fz (.int a), .fz (.int b)] = .ok (.int ((Nat.gcd a.natAbs b.natAbs : Nat) : Int)) [] := by
  have abs : ∀ z : Int, (if z < 0 then -z else z) = ((z.natAbs : Nat) : Int) := fun z => by split <;> omega
  have bitsAbs : ∀ z : Int, Builtin.Int.intBits ((z.natAbs : Nat) : Int) = Builtin.Int.intBits z := fun z => by
    unfold Builtin.Int.intBits
    simp
  generalize hA : Builtin.Int.intBits a = A at *
  generalize hB : Builtin.Int.intBits b = Bb at *
  have m1 : mok 2 (A : Int) = true := by
    refine mok_of (N := 2) (M := 30) (by decide) ?_ (by decide)
    rw [Int.natAbs_natCast]
    exact Nat.lt_of_le_of_lt ba (show 4000000 < 2 ^ 30 by decide)
  have m2 : mok 2 (Bb : Int) = true := by
    refine mok_of (N := 2) (M := 30) (by decide) ?_ (by decide)
    rw [Int.natAbs_natCast]
    exact Nat.lt_of_le_of_lt bb (show 4000000 < 2 ^ 30 by decide)
  have r1 : rngOk 0 = true := by decide
  have r2 : rngOk (2 * (A : Int) + 2 * (Bb : Int) + 10) = true := by
    unfold rngOk
    simp
    omega
  obtain ⟨n, hn0⟩ : ∃ n, n = 2 * A + 2 * Bb + 10 := ⟨_, rfl⟩
  have hn : (2 * (A : Int) + 2 * (Bb : Int) + 10).toNat = n := by omega
  have start : GInv a.natAbs b.natAbs 0 [some (.fz (.int a)), some (.fz (.int b)), some (.fz (.int (a.natAbs : Int))), some (.fz (.int (b.natAbs : Int))), none, none] [] :=
    ⟨rfl, _, _, _, _, _, _, rfl, rfl, fun _ => ⟨rfl, rfl⟩, fun z => absurd rfl z⟩
  obtain ⟨G, hG⟩ : ∃ G : Gam, G = { md.gam g_law_gcd with io := 0 } := ⟨_, rfl⟩
  have loop := for_out (I := .rng 0 n) (body := fBody G (.nm 4) lp0_law_gcd) (n := n) (GInv a.natAbs b.natAbs) (fun r => r = .rt (.int ((Nat.gcd a.natAbs b.natAbs : Nat) : Int)) []) (fun i ρ st _ _ => rfl)
    (fun i ρ st hi h => ⟨_, rfl, by
      rcases gcd_turn (G := G) (n := 0) h with ⟨ρ', st', e, k⟩ | e
      · exact .inl ⟨ρ', st', .inl e, k⟩
      · exact .inr ⟨⟨_, _, e⟩, e⟩⟩) n 0 _ _ (by omega) start
  have fin : ∀ {ρ' : Slots} {st' : Store}, GInv a.natAbs b.natAbs n ρ' st' → st' = [] ∧ ρ'[2]? = some (some (.fz (.int ((Nat.gcd a.natAbs b.natAbs : Nat) : Int)))) := fun {ρ' st'} h => by
    obtain ⟨e, B, S, x, y, t, r, rfl, hg, _, h1⟩ := h
    obtain ⟨h2, h3⟩ := h1 (by omega)
    have hS : S = 0 := by
      rcases Nat.eq_zero_or_pos S with z | z
      · exact z
      · exfalso
        have p1 : a.natAbs * b.natAbs < 2 ^ A * 2 ^ Bb := by
          have q1 := bits_lt a
          have q2 := bits_lt b
          rw [hA] at q1
          rw [hB] at q2
          exact Nat.mul_lt_mul_of_lt_of_le q1 (Nat.le_of_lt q2) (Nat.two_pow_pos _)
        rw [← Nat.pow_add] at p1
        have p2 : 2 ^ (A + Bb) ≤ 2 ^ (n - 1) := Nat.pow_le_pow_right (by decide) (by omega)
        have p3 : 1 * 2 ^ (n - 1) ≤ B * S * 2 ^ (n - 1) := Nat.mul_le_mul_right _ (Nat.mul_pos (by omega) z)
        omega
    subst hS
    refine ⟨e, ?_⟩
    rw [← hg]
    simp
  simp only [f_law_gcd, runDef, b_law_gcd, contsOf, slotsOf]
  have eG : ({ md.gam g_law_gcd with io := ([] : List Cont).length } : Gam) = G := by rw [hG]; rfl
  rw [eG]
  rcases loop with ⟨ρ', st', e, k⟩ | e
  · obtain ⟨e1, e2⟩ := fin k
    simp [abs, bitsAbs, hA, hB, bopS_mul m1, bopS_mul m2, kRng_eq r1 r2, hn, e, e1, ev_var e2]

  · simp [abs, bitsAbs, hA, hB, bopS_mul m1, bopS_mul m2, kRng_eq r1 r2, hn, e]
/-! F4 -/
theorem bits_of {z : Int} {N : Nat} (h : z.natAbs < 2 ^ N) (l : N ≤ 4000000) : Builtin.Int.intBits z ≤ 4000000 := Nat.le_trans (bits_le h) l
theorem frac_pos {p q : Int} (hq : 0 < q) (bp : Builtin.Int.intBits p ≤ 4000000) (hb : q.natAbs < 2 ^ 9000) :
    f_law_gcd [.fz (.int p), .fz (.int q)] = .ok (.int ((Nat.gcd p.natAbs q.natAbs : Nat) : Int)) [] ∧ ((Nat.gcd p.natAbs q.natAbs : Nat) : Int) ≠ 0 ∧
    bopS .fdv (.int p) (.int ((Nat.gcd p.natAbs q.natAbs : Nat) : Int)) = .d (.int (Rat.divInt p q).num) ∧ bopS .fdv (.int q) (.int ((Nat.gcd p.natAbs q.natAbs : Nat) : Int)) = .d (.int ((Rat.divInt p q).den : Int)) := by
  have hg : Nat.gcd p.natAbs q.natAbs ≠ 0 := by
    intro z
    have := Nat.gcd_eq_zero_iff.mp z
    omega
  have g0 : ((Nat.gcd p.natAbs q.natAbs : Nat) : Int) ≠ 0 := by omega
  have sb : ((Nat.gcd p.natAbs q.natAbs : Nat) : Int).natAbs < 2 ^ 9000 := by
    rw [Int.natAbs_natCast]
    exact Nat.lt_of_le_of_lt (Nat.gcd_le_right _ (by omega)) hb
  obtain ⟨e1, e2⟩ := low_num (p := p) (q := q) (s := ((Nat.gcd p.natAbs q.natAbs : Nat) : Int)) (by omega) (by rw [if_neg (by omega)])
  exact ⟨gcd_ok bp (bits_of hb (by decide)), g0, by rw [bopS_fdv g0 (pyl_of sb), e1], by rw [bopS_fdv g0 (pyl_of sb), e2]⟩
theorem frac_ok {p q : Int} (hq : q ≠ 0) (bp : Builtin.Int.intBits p ≤ 4000000) (hb : q.natAbs < 2 ^ 9000) : f_law_frac [.fz (.int p), .fz (.int q)] = .ok (frD (Rat.divInt p q)) [] := by
  simp only [f_law_frac, runDef, b_law_frac, g_law_frac, contsOf, slotsOf, frD]
  by_cases h : q < 0
  · have bp' : Builtin.Int.intBits (-p) ≤ 4000000 := by
      have e : Builtin.Int.intBits (-p) = Builtin.Int.intBits p := by unfold Builtin.Int.intBits; simp
      rw [e]; exact bp
    obtain ⟨e1, e2, e3, e4⟩ := frac_pos (p := -p) (q := -q) (by omega) bp' (by rw [Int.natAbs_neg]; exact hb)
    rw [Rat.neg_divInt_neg] at e3 e4
    rw [Int.natAbs_neg, Int.natAbs_neg] at e1 e3 e4
    simp [h, e1, e3, e4]
  · obtain ⟨e1, e2, e3, e4⟩ := frac_pos (p := p) (q := q) (by omega) bp hb
    simp [h, e1, e3, e4]
theorem ladd_ok {x y : Rat} (hx : Sz NB x) (hy : Sz NB y) : f_law_add [.fz (frD x), .fz (frD y)] = .ok (frD (x + y)) [] := by
  have m1 : mok x.num (y.den : Int) = true := mok_of hx.n (by rw [Int.natAbs_natCast]; exact hy.d) (by decide)
  have m2 : mok y.num (x.den : Int) = true := mok_of hy.n (by rw [Int.natAbs_natCast]; exact hx.d) (by decide)
  have m3 : mok (x.den : Int) (y.den : Int) = true := mok_of (by rw [Int.natAbs_natCast]; exact hx.d) (by rw [Int.natAbs_natCast]; exact hy.d) (by decide)
  obtain ⟨d0, db⟩ := den_prod hx hy
  have nb : (x.num * (y.den : Int) + y.num * (x.den : Int)).natAbs < 2 ^ (NB + 4401) := by
    have h1 : (x.num * (y.den : Int)).natAbs < 2 ^ (NB + 4400) := by
      rw [Int.natAbs_mul, Int.natAbs_natCast, Nat.pow_add]
      exact Nat.mul_lt_mul_of_lt_of_le hx.n (Nat.le_of_lt hy.d) (Nat.two_pow_pos _)
    have h2 : (y.num * (x.den : Int)).natAbs < 2 ^ (NB + 4400) := by
      rw [Int.natAbs_mul, Int.natAbs_natCast, Nat.pow_add]
      exact Nat.mul_lt_mul_of_lt_of_le hy.n (Nat.le_of_lt hx.d) (Nat.two_pow_pos _)
    have h3 : 2 ^ (NB + 4401) = 2 ^ (NB + 4400) + 2 ^ (NB + 4400) := by
      rw [show NB + 4401 = NB + 4400 + 1 by rfl, Nat.pow_succ, Nat.mul_two]
    have h4 := Int.natAbs_add_le (x.num * (y.den : Int)) (y.num * (x.den : Int))
    rw [h3]
    exact Nat.lt_of_le_of_lt h4 (Nat.add_lt_add h1 h2)
  have lo := frac_ok (p := x.num * (y.den : Int) + y.num * (x.den : Int)) d0 (bits_of nb (by decide)) db
  rw [add_divInt] at lo
  simp only [f_law_add, runDef, b_law_add, g_law_add, contsOf, slotsOf, frD] at lo ⊢
  simp [bopS_mul m1, bopS_mul m2, bopS_mul m3, lo]
theorem lmul_ok {x y : Rat} (hx : Sz NB x) (hy : Sz NB y) : f_law_mul [.fz (frD x), .fz (frD y)] = .ok (frD (x * y)) [] := by
  have m1 : mok x.num y.num = true := mok_of hx.n hy.n (by decide)
  have m3 : mok (x.den : Int) (y.den : Int) = true := mok_of (by rw [Int.natAbs_natCast]; exact hx.d) (by rw [Int.natAbs_natCast]; exact hy.d) (by decide)
  obtain ⟨d0, db⟩ := den_prod hx hy
  have nb : (x.num * y.num).natAbs < 2 ^ (NB + NB) := by
    rw [Int.natAbs_mul, Nat.pow_add]
    by_cases z : y.num.natAbs = 0
    · rw [z, Nat.mul_zero, ← Nat.pow_add]; exact Nat.two_pow_pos _
    · exact Nat.mul_lt_mul_of_lt_of_le hx.n (Nat.le_of_lt hy.n) (Nat.two_pow_pos _)
  have lo := frac_ok (p := x.num * y.num) d0 (bits_of nb (by decide)) db
  rw [mul_divInt] at lo
  simp only [f_law_mul, runDef, b_law_mul, g_law_mul, contsOf, slotsOf, frD] at lo ⊢
  simp [bopS_mul m1, bopS_mul m3, lo]
theorem ldiv_ok {x y : Rat} (hx : Sz NB x) (hy : Sz NB y) (h0 : y ≠ 0) (hb : y.num.natAbs < 2 ^ 4500) : f_law_div [.fz (frD x), .fz (frD y)] = .ok (frD (x / y)) [] := by
  have hn : y.num ≠ 0 := fun z => h0 (Rat.num_eq_zero.mp z)
  have m1 : mok x.num (y.den : Int) = true := mok_of hx.n (by rw [Int.natAbs_natCast]; exact hy.d) (by decide)
  have m3 : mok (x.den : Int) y.num = true := mok_of (by rw [Int.natAbs_natCast]; exact hx.d) hy.n (by decide)
  have db : ((x.den : Int) * y.num).natAbs < 2 ^ 9000 := by
    rw [Int.natAbs_mul, Int.natAbs_natCast]
    refine Nat.lt_of_lt_of_le (Nat.mul_lt_mul_of_lt_of_le hx.d (Nat.le_of_lt hb) (Nat.two_pow_pos _)) ?_
    rw [← Nat.pow_add]
    exact Nat.pow_le_pow_right (by decide) (by decide)
  have nb : (x.num * (y.den : Int)).natAbs < 2 ^ (NB + 4400) := by
    rw [Int.natAbs_mul, Int.natAbs_natCast, Nat.pow_add]
    exact Nat.mul_lt_mul_of_lt_of_le hx.n (Nat.le_of_lt hy.d) (Nat.two_pow_pos _)
  have lo := frac_ok (p := x.num * (y.den : Int)) (q := (x.den : Int) * y.num) (Int.mul_ne_zero (by have := x.den_nz; omega) hn) (bits_of nb (by decide)) db
  rw [div_divInt h0] at lo
  simp only [f_law_div, runDef, b_law_div, g_law_div, contsOf, slotsOf, frD] at lo ⊢
  simp [bopS_mul m1, bopS_mul m3, lo]
/-! ### what is a fraction, a row -/
/-! F5 -/
@[simp] theorem whole_int {i : Int} : f_law_whole [.fz (.int i)] = .ok (.bl true) [] := by
  simp only [f_law_whole, runDef, b_law_whole, g_law_whole, contsOf, slotsOf]
  simp
theorem isfrac_ok {x : Rat} {N : Nat} (hx : Sz N x) (hN : N ≤ 4000000) : f_law_is_frac [.fz (frD x)] = .ok (.bl true) [] := by
  have bn := bits_of hx.n hN
  have bd : Builtin.Int.intBits (x.den : Int) ≤ 4000000 := bits_of (z := (x.den : Int)) (N := 4400) (by rw [Int.natAbs_natCast]; exact hx.d) (by decide)
  have g := gcd_ok bn bd
  have red : Nat.gcd x.num.natAbs (x.den : Int).natAbs = 1 := by rw [Int.natAbs_natCast]; exact x.reduced
  rw [red] at g
  have pos : (1 : Int) ≤ (x.den : Int) := by have := x.den_pos; omega
  simp only [f_law_is_frac, runDef, b_law_is_frac, g_law_is_frac, contsOf, slotsOf, frD]
  simp [g, pos]
/-! F18 -/
theorem pull_ok {ds : List D} (h : IsWell ds) {t : Int} (ht : 0 < t) : ∃ (r : Int) (ds' : List D), 0 ≤ r ∧ r < t ∧ IsWell ds' ∧ f_law_pull [.mu (.lst ds), .fz (.int t)] = .ok (.int r) [.lst ds'] := by
  obtain ⟨spot, rows, hl, rfl⟩ := h
  have i1 : idxS (.lst [.int (spot : Int), .lst (rows.map .int)]) (.int 1) = some (.lst (rows.map .int)) := by simp
  have six : ∀ (ρ : Slots), ρ[0]? = some (some (.loc 0)) → ∀ d, kSix3 ρ 0 (.fz (.int 0)) d [.lst [.int (spot : Int), .lst (rows.map .int)]] = .nx ρ [.lst [d, .lst (rows.map .int)]] := fun ρ _ d => kSix3_eq (st := [.lst [.int (spot : Int), .lst (rows.map .int)]]) (n := 0) (m := 0) (ds := [.int (spot : Int), .lst (rows.map .int)]) (by rfl) (by rfl) (by simp)
  by_cases hs : spot < rows.length
  · refine ⟨(rows[spot]).fmod t, [.int ((spot : Int) + 1), .lst (rows.map .int)], Int.fmod_nonneg_of_pos _ ht, Int.fmod_lt_of_pos _ ht, ⟨spot + 1, rows, hl, rfl⟩, ?_⟩
    rw [show f_law_pull = runDef (md.gam g_law_pull) ⟨4, b_law_pull⟩ from rfl, runDef_eq]
    simp only [b_law_pull, contsOf, slotsOf]
    obtain ⟨G, hG⟩ : ∃ G : Gam, G = { md.gam g_law_pull with io := ([.lst [.int (spot : Int), .lst (rows.map .int)]] : List Cont).length } := ⟨_, rfl⟩
    have io : G.io = 1 := by rw [hG]; rfl
    rw [← hG]
    have ix : idxS (.lst (rows.map .int)) (.int (spot : Int)) = some (.int rows[spot]) := by
      rw [idx_lst (k := spot) rfl (by simpa using hs)]
      simp
    have md : bopS .mod (.int rows[spot]) (.int t) = .d (.int (rows[spot].fmod t)) := bopS_mod (by omega)
    simp [io, i1]
    rw [kSix_eq (n := 0) (by rfl)]
    simp [io]
    rw [six _ (by rfl)]
    have ng : ¬ (rows.length : Int) ≤ (spot : Int) := by omega
    have ng2 : ¬ rows.length ≤ spot := by omega
    simp [ng, ng2, ix, md, io]
  · refine ⟨0, [.int ((spot : Int) + 1), .lst (rows.map .int)], by omega, ht, ⟨spot + 1, rows, hl, rfl⟩, ?_⟩
    rw [show f_law_pull = runDef (md.gam g_law_pull) ⟨4, b_law_pull⟩ from rfl, runDef_eq]
    simp only [b_law_pull, contsOf, slotsOf]
    obtain ⟨G, hG⟩ : ∃ G : Gam, G = { md.gam g_law_pull with io := ([.lst [.int (spot : Int), .lst (rows.map .int)]] : List Cont).length } := ⟨_, rfl⟩
    have io : G.io = 1 := by rw [hG]; rfl
    rw [← hG]
    simp [io, i1]
    rw [kSix_eq (n := 0) (by rfl)]
    simp [io]
    rw [six _ (by rfl)]
    have ng : (rows.length : Int) ≤ (spot : Int) := by omega
    have ng2 : rows.length ≤ spot := by omega
    simp [ng, ng2, io]
/-- a drawn number -/
structure Nm (x : Rat) : Prop where
  n : x.num.natAbs < 2 ^ 71
  d : x.den < 2 ^ 64
theorem nm_frac {p q : Int} (hq : 0 < q) (hp : p.natAbs < 2 ^ 71) (h : q < 2 ^ 64) : Nm (Rat.divInt p q) := by
  obtain ⟨k, rfl⟩ := Int.eq_ofNat_of_zero_le (Int.le_of_lt hq)
  have k0 : k ≠ 0 := by omega
  rw [Rat.divInt_ofNat]
  exact ⟨Nat.lt_of_le_of_lt (num_mkRat_le _ _ k0) hp, Nat.lt_of_le_of_lt (Nat.le_of_dvd (by omega) (den_mkRat_dvd _ _ k0)) (by omega)⟩
theorem frac_nm {p q : Int} (hq : 0 < q) (hp : p.natAbs < 2 ^ 71) (h : q < 2 ^ 64) : f_law_frac [.fz (.int p), .fz (.int q)] = .ok (frD (Rat.divInt p q)) [] :=
  frac_ok (by omega) (bits_of hp (by decide)) (Nat.lt_of_lt_of_le (m := 2 ^ 64) (by omega) (Nat.pow_le_pow_right (by decide) (by decide)))
theorem tops {r : Int} (h0 : 0 ≤ r) (h1 : r < 12) : ∃ v : Int, -7 ≤ v ∧ v ≤ 7 ∧ idxS (.lst [.int 1, .int 2, .int 0, .int (-1), .int 3, .int (-2), .int 5, .int 1, .int (-3), .int 7, .int (-1), .int 4]) (.int r) = some (.int v) := by
  obtain ⟨k, rfl⟩ := Int.eq_ofNat_of_zero_le h0
  have hk : k < 12 := by omega
  rw [idx_lst (k := k) rfl (by simpa using hk)]
  match k, hk with
  | 0, _ => exact ⟨1, by decide, by decide, rfl⟩
  | 1, _ => exact ⟨2, by decide, by decide, rfl⟩
  | 2, _ => exact ⟨0, by decide, by decide, rfl⟩
  | 3, _ => exact ⟨-1, by decide, by decide, rfl⟩
  | 4, _ => exact ⟨3, by decide, by decide, rfl⟩
  | 5, _ => exact ⟨-2, by decide, by decide, rfl⟩
  | 6, _ => exact ⟨5, by decide, by decide, rfl⟩
  | 7, _ => exact ⟨1, by decide, by decide, rfl⟩
  | 8, _ => exact ⟨-3, by decide, by decide, rfl⟩
  | 9, _ => exact ⟨7, by decide, by decide, rfl⟩
  | 10, _ => exact ⟨-1, by decide, by decide, rfl⟩
  | 11, _ => exact ⟨4, by decide, by decide, rfl⟩
theorem number_ok {ds : List D} (h : IsWell ds) : ∃ (x : Rat) (ds' : List D), Nm x ∧ IsWell ds' ∧ f_law_number [.mu (.lst ds)] = .ok (frD x) [.lst ds'] := by
  obtain ⟨w, ds1, w0, w1, hw, e1⟩ := pull_ok h (t := 12) (by decide)
  obtain ⟨r, ds2, r0, r1, hr, e2⟩ := pull_ok hw (t := 12) (by decide)
  obtain ⟨v, v0, v1, ev_⟩ := tops r0 r1
  rw [show f_law_number = runDef (md.gam g_law_number) ⟨3, b_law_number⟩ from rfl, runDef_eq]
  simp only [b_law_number, contsOf, slotsOf]
  obtain ⟨G, hG⟩ : ∃ G : Gam, G = { md.gam g_law_number with io := ([.lst ds] : List Cont).length } := ⟨_, rfl⟩
  have fns : G.fns = g_law_number := by rw [hG]; rfl
  have io : G.io = 1 := by rw [hG]; rfl
  rw [← hG]
  have nn : ([D.int 1, .int 2, .int 0, .int (-1), .int 3, .int (-2), .int 5, .int 1, .int (-3), .int 7, .int (-1), .int 4] : List D).length ≤ LIM := by decide
  by_cases c1 : w < 5
  · refine ⟨(v : Rat), ds2, ⟨by rw [Rat.num_intCast]; omega, by rw [Rat.den_intCast]; decide⟩, hr, ?_⟩
    rw [← frD_int]
    simp [fns, g_law_number, io, kCal2_m1, e1, e2, kLst2_eq nn, ev_, c1]
  · by_cases c2 : w < 8
    · refine ⟨_, ds2, nm_frac (p := v) (q := 2) (by decide) (by omega) (by decide), hr, ?_⟩
      simp [fns, g_law_number, io, kCal2_m1, e1, e2, kLst2_eq nn, ev_, c1, c2, frac_nm (p := v) (q := 2) (by decide) (by omega) (by decide)]
    · by_cases c3 : w < 10
      · obtain ⟨s, ds3, s0, s1, hs, e3⟩ := pull_ok hr (t := 5) (by decide)
        refine ⟨_, ds3, nm_frac (p := v) (q := 3 + s) (by omega) (by omega) (by omega), hs, ?_⟩
        simp [fns, g_law_number, io, kCal2_m1, e1, e2, e3, kLst2_eq nn, ev_, c1, c2, c3, frac_nm (p := v) (q := 3 + s) (by omega) (by omega) (by omega)]
      · by_cases c4 : w = 10
        · obtain ⟨s, ds3, s0, s1, hs, e3⟩ := pull_ok hr (t := 60) (by decide)
          obtain ⟨t, ds4, t0, t1, ht, e4⟩ := pull_ok hs (t := 60) (by decide)
          have m : mok v 60 = true := mok_of (N := 4) (M := 6) (by omega) (by decide) (by decide)
          refine ⟨_, ds4, nm_frac (p := v * 60 + s) (q := 1 + t) (by omega) (by omega) (by omega), ht, ?_⟩
          simp [fns, g_law_number, io, kCal2_m1, e1, e2, e3, e4, kLst2_eq nn, ev_, c1, c2, c3, c4, bopS_mul m, frac_nm (p := v * 60 + s) (q := 1 + t) (by omega) (by omega) (by omega)]
        · obtain ⟨s, ds3, s0, s1, hs, e3⟩ := pull_ok hr (t := 60) (by decide)
          have m : mok v (10 ^ 20) = true := mok_of (N := 4) (M := 67) (by omega) (by decide) (by decide)
          have m2 : mok 7 s = true := mok_of (N := 4) (M := 67) (by decide) (by omega) (by decide)
          have p1 : bopS .pow (.int 10) (.int 20) = .d (.int (10 ^ 20)) := bopS_pow (i := 10) (j := 20) (by decide)
          have p2 : bopS .pow (.int 10) (.int 19) = .d (.int (10 ^ 19)) := bopS_pow (i := 10) (j := 19) (by decide)
          refine ⟨_, ds3, nm_frac (p := v * 10 ^ 20 + 1) (q := 10 ^ 19 + 7 * s) (by omega) (by omega) (by omega), hs, ?_⟩
          have fr := frac_nm (p := v * 10 ^ 20 + 1) (q := 10 ^ 19 + 7 * s) (by omega) (by omega) (by omega)
          have c4' : (w == 10) = false := by simpa using c4
          have m' := bopS_mul m
          have m2' := bopS_mul m2
          generalize (10 : Int) ^ 20 = A at *
          generalize (10 : Int) ^ 19 = B at *
          simp [fns, g_law_number, io, kCal2_m1, e1, e2, e3, kLst2_eq nn, ev_, c1, c2, c3, c4', m', m2', p1, p2, fr]
/-! F19 -/
def RowsI (n : Nat) (st : Store) : Prop := ∃ rows : List Int, rows.length ≤ n ∧ st = [.lst (rows.map .int)]
theorem rows_app {n : Nat} {rows : List Int} (h : rows.length ≤ n) (v : Int) : RowsI (n + 1) [.lst (rows.map .int ++ [.int v])] := ⟨rows ++ [v], by simpa using h, by simp⟩
theorem well_mix {G : Gam} (io : G.io = 0) {S : D} {spot n : Nat} {c m : Int} (hs : spot < 100) (m0 : 0 ≤ m) (m1 : m < 2147483648) (hn : n < 100000) (o : Option Val) {st : Store} (h : RowsI n st) :
    ∃ m' o' st', forLoop (.rng 0 5) (fBody G (.nm 5) lp0_law_well) 5 0 [some (.fz S), some (.loc 0), some (.fz (.int spot)), some (.fz (.int c)), some (.fz (.int m)), o] st = .nx [some (.fz S), some (.loc 0), some (.fz (.int spot)), some (.fz (.int c)), some (.fz (.int m')), o'] st' ∧ RowsI (n + 5) st' := by
  have loop := for_all (I := .rng 0 5) (body := fBody G (.nm 5) lp0_law_well) (n := 5) (fun i ρ st => RowsI (n + i) st ∧ ∃ (m : Int) (o : Option Val), 0 ≤ m ∧ m < 2147483648 ∧ ρ = [some (.fz S), some (.loc 0), some (.fz (.int spot)), some (.fz (.int c)), some (.fz (.int m)), o]) (fun i ρ st _ _ => rfl)
    (fun i ρ st hi ⟨⟨rows, hr, e1⟩, m, o, m0, m1, e2⟩ => by
      subst e1 e2
      have k1 : mok m m = true := mok_of (N := 31) (M := 31) (by omega) (by omega) (by decide)
      have k2 : mok 40014 (i : Int) = true := mok_of (N := 31) (M := 31) (by decide) (by omega) (by decide)
      have md : bopS .mod (.int (m * m + 40014 * (i : Int) + (spot : Int) + 1)) (.int 2147483563) = .d (.int ((m * m + 40014 * (i : Int) + (spot : Int) + 1).fmod 2147483563)) := bopS_mod (by decide)
      obtain ⟨m', hm'⟩ : ∃ m', m' = (m * m + 40014 * (i : Int) + (spot : Int) + 1).fmod 2147483563 := ⟨_, rfl⟩
      rw [← hm'] at md
      have b0 : 0 ≤ m' := by rw [hm']; exact Int.fmod_nonneg_of_pos _ (by decide)
      have b1 : m' < 2147483563 := by rw [hm']; exact Int.fmod_lt_of_pos _ (by decide)
      have fd : bopS .fdv (.int m') (.int 7) = .d (.int (m'.fdiv 7)) := bopS_fdv (by decide) (pyl_of (by decide +kernel))
      refine ⟨.int (0 + i), rfl, [some (.fz S), some (.loc 0), some (.fz (.int spot)), some (.fz (.int c)), some (.fz (.int m')), some (.fz (.int i))], [.lst (rows.map .int ++ [.int (m'.fdiv 7)])], .inl ?_, rows_app hr _, m', _, b0, by omega, rfl⟩
      simp only [fBody_nm, lp0_law_well]
      simp [bopS_mul k1, bopS_mul k2, md]
      rw [ex_app (n := 0) (ds := rows.map .int) (by rfl) (by rfl)]
      simp [fd, io]
      rw [kApp2_eq (ds := rows.map .int) (by rfl) (by rw [List.length_map]; unfold LIM; omega)]
      simp) 5 0 _ st (by omega) ⟨h, m, o, m0, m1, rfl⟩
  obtain ⟨ρ', st', e, hr, m', o', _, _, rfl⟩ := loop
  exact ⟨m', o', st', e, hr⟩
theorem well_cut {G : Gam} (io : G.io = 0) {S : D} {spot n : Nat} {c : Int} (c0 : 0 ≤ c) (hn : n < 100000) (x o : Option Val) {st : Store} (h : RowsI n st) :
    ∃ c' o' st', forLoop (.rng 0 50) (fBody G (.nm 5) lp1_law_well) 50 0 [some (.fz S), some (.loc 0), some (.fz (.int spot)), some (.fz (.int c)), x, o] st = .nx [some (.fz S), some (.loc 0), some (.fz (.int spot)), some (.fz (.int c')), x, o'] st' ∧ RowsI (n + 50) st' := by
  have loop := for_all (I := .rng 0 50) (body := fBody G (.nm 5) lp1_law_well) (n := 50) (fun i ρ st => RowsI (n + i) st ∧ ∃ (c : Int) (o : Option Val), 0 ≤ c ∧ ρ = [some (.fz S), some (.loc 0), some (.fz (.int spot)), some (.fz (.int c)), x, o]) (fun i ρ st _ _ => rfl)
    (fun i ρ st hi ⟨⟨rows, hr, e1⟩, c, o, c0, e2⟩ => by
      subst e1 e2
      by_cases hc : 0 < c
      · have md : bopS .mod (.int c) (.int 60) = .d (.int (c.fmod 60)) := bopS_mod (by decide)
        have fd : bopS .fdv (.int c) (.int 60) = .d (.int (c.fdiv 60)) := bopS_fdv (by decide) (pyl_of (by decide +kernel))
        refine ⟨.int (0 + i), rfl, [some (.fz S), some (.loc 0), some (.fz (.int spot)), some (.fz (.int (c.fdiv 60))), x, some (.fz (.int i))], [.lst (rows.map .int ++ [.int (c.fmod 60)])], .inl ?_, rows_app hr _, _, _, Int.fdiv_nonneg c0 (by decide), rfl⟩
        simp only [fBody_nm, lp1_law_well]
        simp [hc]
        rw [ex_app (n := 0) (ds := rows.map .int) (by rfl) (by rfl)]
        simp [md, io]
        rw [kApp2_eq (ds := rows.map .int) (by rfl) (by rw [List.length_map]; unfold LIM; omega)]
        simp [fd]
      · refine ⟨.int (0 + i), rfl, [some (.fz S), some (.loc 0), some (.fz (.int spot)), some (.fz (.int c)), x, some (.fz (.int i))], [.lst (rows.map .int)], .inl ?_, ⟨rows, by omega, rfl⟩, c, _, c0, rfl⟩
        simp only [fBody_nm, lp1_law_well]
        simp [hc]) 50 0 _ st (by omega) ⟨h, c, o, c0, rfl⟩
  obtain ⟨ρ', st', e, hr, c', o', _, rfl⟩ := loop
  exact ⟨c', o', st', e, hr⟩
theorem well_ok {ns : List Int} (hl : ns.length ≤ 63) (hb : ∀ z ∈ ns, Builtin.Int.intBits z ≤ 1048576) : ∃ ds, IsWell ds ∧ f_law_well [.fz (.lst (ns.map .int))] = .okl ds [] := by
  rw [show f_law_well = runDef (md.gam g_law_well) ⟨6, b_law_well⟩ from rfl, runDef_eq]
  simp only [b_law_well, contsOf, slotsOf]
  obtain ⟨G, hG⟩ : ∃ G : Gam, G = { md.gam g_law_well with io := ([] : List Cont).length } := ⟨_, rfl⟩
  have io : G.io = 0 := by rw [hG]; rfl
  rw [← hG]
  obtain ⟨S, hS⟩ : ∃ S, S = D.lst (ns.map .int) := ⟨_, rfl⟩
  have len : bfnS .len [S] = .d (.int ns.length) := by rw [hS]; simp
  have at_ : ∀ (k : Nat) (hk : k < ns.length), idxS S (.int k) = some (.int ns[k]) := fun k hk => by
    rw [hS, idx_lst (k := k) rfl (by simpa using hk)]
    simp
  have p18 : bopS .pow (.int 10) (.int 18) = .d (.int (10 ^ 18)) := bopS_pow (i := 10) (j := 18) (by decide)
  rw [← hS]
  have loop := for_all (I := .rng 0 63) (body := fBody G (.nm 2) lp2_law_well) (n := 63) (fun i ρ st => RowsI (50 * i) st ∧ ∃ a b c d, ρ = [some (.fz S), some (.loc 0), a, b, c, d]) (fun i ρ st _ _ => rfl)
    (fun i ρ st hi ⟨hr, a, b, c, d, e2⟩ => by
      subst e2
      have hr0 := hr
      obtain ⟨rows, hr, rfl⟩ := hr
      by_cases hs : i < ns.length
      · have hz := hb ns[i] (List.getElem_mem hs)
        have hzb := bits_lt ns[i]
        have m3 : mok 3 ns[i] = true := mok_of (N := 31) (M := 1048576) (by decide) (Nat.lt_of_lt_of_le hzb (Nat.pow_le_pow_right (by decide) hz)) (by decide)
        obtain ⟨z, hz_⟩ : ∃ z : Int, z = (if ns[i] < 0 then 2 - 3 * ns[i] else ns[i]) := ⟨_, rfl⟩
        have z0 : 0 ≤ z := by rw [hz_]; split <;> omega
        by_cases hc : z < 10 ^ 18
        · have k1 : mok z 16807 = true := mok_of (N := 61) (M := 31) (by omega) (by decide) (by decide)
          have k2 : mok (i : Int) 7919 = true := mok_of (N := 31) (M := 31) (by omega) (by decide) (by decide)
          have md : bopS .mod (.int (z * 16807 + (i : Int) * 7919 + 3)) (.int 2147483647) = .d (.int ((z * 16807 + (i : Int) * 7919 + 3).fmod 2147483647)) := bopS_mod (by decide)
          have b0 : 0 ≤ (z * 16807 + (i : Int) * 7919 + 3).fmod 2147483647 := Int.fmod_nonneg_of_pos _ (by decide)
          have b1 : (z * 16807 + (i : Int) * 7919 + 3).fmod 2147483647 < 2147483647 := Int.fmod_lt_of_pos _ (by decide)
          obtain ⟨m', o', st', e, hr'⟩ := well_mix (G := G) io (S := S) (spot := i) (c := z) (by omega) b0 (by omega) (n := 50 * i) (by omega) d hr0
          refine ⟨.int (0 + i), rfl, _, st', .inl ?_, ?_, some (.fz (.int i)), some (.fz (.int z)), some (.fz (.int m')), o', rfl⟩
          · simp only [fBody_nm, lp2_law_well]
            generalize (10 : Int) ^ 18 = A at *
            generalize (z * 16807 + (i : Int) * 7919 + 3).fmod 2147483647 = M at *
            by_cases hn : ns[i] < 0
            · rw [if_pos hn] at hz_
              simp [len, hs, at_ i hs, hn, bopS_mul m3, ← hz_, p18, hc, bopS_mul k1, bopS_mul k2, md, kRng_eq (i := 0) (j := 5) (by decide) (by decide), e]
            · rw [if_neg hn] at hz_
              rw [← hz_] at hn
              simp [len, hs, at_ i hs, ← hz_, hn, p18, hc, bopS_mul k1, bopS_mul k2, md, kRng_eq (i := 0) (j := 5) (by decide) (by decide), e]
          · obtain ⟨r, h1, h2⟩ := hr'
            exact ⟨r, by omega, h2⟩
        · obtain ⟨c', o', st', e, hr'⟩ := well_cut (G := G) io (S := S) (spot := i) (c := z) z0 (n := 50 * i) (by omega) c d hr0
          refine ⟨.int (0 + i), rfl, _, st', .inl ?_, ?_, some (.fz (.int i)), some (.fz (.int c')), c, o', rfl⟩
          · simp only [fBody_nm, lp2_law_well]
            generalize (10 : Int) ^ 18 = A at *
            by_cases hn : ns[i] < 0
            · rw [if_pos hn] at hz_
              simp [len, hs, at_ i hs, hn, bopS_mul m3, ← hz_, p18, hc, kRng_eq (i := 0) (j := 50) (by decide) (by decide), e]
            · rw [if_neg hn] at hz_
              rw [← hz_] at hn
              simp [len, hs, at_ i hs, ← hz_, hn, p18, hc, kRng_eq (i := 0) (j := 50) (by decide) (by decide), e]
          · obtain ⟨r, h1, h2⟩ := hr'
            exact ⟨r, by omega, h2⟩
      · refine ⟨.int (0 + i), rfl, _, [.lst (rows.map .int)], .inl ?_, ⟨rows, by omega, rfl⟩, some (.fz (.int i)), b, c, d, rfl⟩
        simp only [fBody_nm, lp2_law_well]
        have hs' : ¬ ((i : Int) < (ns.length : Int)) := by omega
        simp [len, hs]) 63 0 [some (.fz S), some (.loc 0), none, none, none, none] [.lst []] (by omega) ⟨⟨[], by simp, rfl⟩, _, _, _, _, rfl⟩
  obtain ⟨ρ', st', e, ⟨rows, hr, rfl⟩, a, b, c, d, rfl⟩ := loop
  refine ⟨[.int 0, .lst (rows.map .int)], ⟨0, rows, by omega, rfl⟩, ?_⟩
  have fl : fr 0 (.loc 0) [.lst (rows.map .int)] = .ok (.lst (rows.map .int)) [.fz (.lst (rows.map .int))] := fr_loc rfl (Nat.le_refl _)
  have rl : kRetl 0 (.loc 1) [.fz (.lst (rows.map .int)), .lst [.int 0, .lst (rows.map .int)]] = .rtl [.int 0, .lst (rows.map .int)] [.fz (.lst (rows.map .int)), .lst [.int 0, .lst (rows.map .int)]] := kRetl_eq rfl (by omega)
  simp [io, kRng_eq (i := 0) (j := 63) (by decide) (by decide), e, fl, rl]
end K00

/-! SER -/
set_option linter.all false
/-! SER: power series over the fractions, in plain Lean. -/
namespace FR
@[simp] theorem radd_0 (a : Rat) : a + 0 = a := Rat.add_zero a
@[simp] theorem r0_add (a : Rat) : 0 + a = a := Rat.zero_add a
def ps (h : Nat → Rat) : Nat → Rat
  | 0 => 0
  | n + 1 => ps h n + h n
/-- the product of two series -/
def cv (f g : Nat → Rat) (k : Nat) : Rat := ps (fun j => f j * g (k - j)) (k + 1)
theorem ps_congr {f g : Nat → Rat} : ∀ {n : Nat}, (∀ j < n, f j = g j) → ps f n = ps g n
  | 0, _ => rfl
  | n + 1, h => by
    show ps f n + f n = ps g n + g n
    rw [ps_congr (n := n) (fun j hj => h j (by omega)), h n (by omega)]
theorem ps_add (f g : Nat → Rat) : ∀ n, ps (fun j => f j + g j) n = ps f n + ps g n
  | 0 => by simp [ps]
  | n + 1 => by
    simp only [ps, ps_add f g n]
    grind
theorem ps_mul (c : Rat) (f : Nat → Rat) : ∀ n, ps (fun j => c * f j) n = c * ps f n
  | 0 => by simp [ps]
  | n + 1 => by
    simp only [ps, ps_mul c f n]
    grind
theorem ps_zero {f : Nat → Rat} : ∀ {n : Nat}, (∀ j < n, f j = 0) → ps f n = 0
  | 0, _ => rfl
  | n + 1, h => by
    show ps f n + f n = 0
    rw [ps_zero (n := n) (fun j hj => h j (by omega)), h n (by omega)]
    exact Rat.add_zero 0
/-- the first one apart -/
theorem ps_first (f : Nat → Rat) : ∀ n, ps f (n + 1) = f 0 + ps (fun j => f (j + 1)) n
  | 0 => by simp [ps]
  | n + 1 => by
    show ps f (n + 1) + f (n + 1) = f 0 + (ps (fun j => f (j + 1)) n + f (n + 1))
    rw [ps_first f n]
    grind
def sh (f : Nat → Rat) (k : Nat) : Rat := f (k + 1)
theorem cv_0 (f g : Nat → Rat) : cv f g 0 = f 0 * g 0 := by simp [cv, ps]
theorem cv_s (f g : Nat → Rat) (k : Nat) : cv f g (k + 1) = f 0 * g (k + 1) + cv (sh f) g k := by
  unfold cv
  rw [ps_first]
  have e : ps (fun j => f (j + 1) * g (k + 1 - (j + 1))) (k + 1) = ps (fun j => sh f j * g (k - j)) (k + 1) := ps_congr fun j hj => by
    simp [sh]
  rw [e]
  rfl
theorem cv_t (f g : Nat → Rat) (k : Nat) : cv f g (k + 1) = cv f (sh g) k + f (k + 1) * g 0 := by
  show ps (fun j => f j * g (k + 1 - j)) (k + 1) + f (k + 1) * g (k + 1 - (k + 1)) = _
  rw [Nat.sub_self]
  congr 1
  exact ps_congr fun j hj => by
    rw [show k + 1 - j = (k - j) + 1 by omega]
    rfl
theorem cv_congr {f f' g g' : Nat → Rat} {k : Nat} (h1 : ∀ j ≤ k, f j = f' j) (h2 : ∀ j ≤ k, g j = g' j) : cv f g k = cv f' g' k :=
  ps_congr fun j hj => by rw [h1 j (by omega), h2 (k - j) (by omega)]
theorem cv_add_l (f f' g : Nat → Rat) (k : Nat) : cv (fun j => f j + f' j) g k = cv f g k + cv f' g k := by
  unfold cv
  rw [← ps_add]
  exact ps_congr fun j _ => by grind
theorem cv_add_r (f g g' : Nat → Rat) (k : Nat) : cv f (fun j => g j + g' j) k = cv f g k + cv f g' k := by
  unfold cv
  rw [← ps_add]
  exact ps_congr fun j _ => by grind
theorem cv_mul_l (c : Rat) (f g : Nat → Rat) (k : Nat) : cv (fun j => c * f j) g k = c * cv f g k := by
  unfold cv
  rw [← ps_mul]
  exact ps_congr fun j _ => by grind
theorem cv_mul_r (c : Rat) (f g : Nat → Rat) (k : Nat) : cv f (fun j => c * g j) k = c * cv f g k := by
  unfold cv
  rw [← ps_mul]
  exact ps_congr fun j _ => by grind
theorem cv_comm : ∀ (k : Nat) (f g : Nat → Rat), cv f g k = cv g f k
  | 0, f, g => by rw [cv_0, cv_0, Rat.mul_comm]
  | k + 1, f, g => by
    rw [cv_s, cv_t, cv_comm k, Rat.mul_comm, Rat.add_comm]
theorem sh_cv (f g : Nat → Rat) (k : Nat) : sh (cv f g) k = f 0 * sh g k + cv (sh f) g k := cv_s f g k
theorem cv_assoc : ∀ (k : Nat) (f g h : Nat → Rat), cv (cv f g) h k = cv f (cv g h) k
  | 0, f, g, h => by simp only [cv_0]; grind
  | k + 1, f, g, h => by
    rw [cv_s, cv_s f (cv g h), cv_0]
    have e : cv (sh (cv f g)) h k = f 0 * cv (sh g) h k + cv (cv (sh f) g) h k := by
      rw [← cv_mul_l, ← cv_add_l]
      exact cv_congr (fun j _ => sh_cv f g j) fun _ _ => rfl
    rw [e, cv_assoc k, cv_s g h]
    grind
/-- z d/dz -/
def th (f : Nat → Rat) (k : Nat) : Rat := (k : Rat) * f k
theorem th_cv (f g : Nat → Rat) (k : Nat) : th (cv f g) k = cv (th f) g k + cv f (th g) k := by
  unfold th cv
  rw [← ps_add, ← ps_mul]
  refine ps_congr fun j hj => ?_
  have e : (k : Rat) = (j : Rat) + ((k - j : Nat) : Rat) := by
    rw [← Rat.natCast_add]
    congr 1
    omega
  rw [e]
  grind
def one (k : Nat) : Rat := if k = 0 then 1 else 0
theorem one_s (k : Nat) : one (k + 1) = 0 := rfl
theorem cv_one_l (f : Nat → Rat) : ∀ k, cv one f k = f k
  | 0 => by rw [cv_0]; simp [one]
  | k + 1 => by
    rw [cv_s]
    have e : cv (sh one) f k = 0 := ps_zero fun j _ => by simp [sh, one]
    rw [e]
    simp [one]
def pw (x : Nat → Rat) : Nat → Nat → Rat
  | 0 => one
  | m + 1 => cv (pw x m) x
theorem cv_low {f g : Nat → Rat} {a b : Nat} (hf : ∀ j < a, f j = 0) (hg : ∀ j < b, g j = 0) {k : Nat} (hk : k < a + b) : cv f g k = 0 :=
  ps_zero fun j hj => by
    by_cases h : j < a
    · rw [hf j h, Rat.zero_mul]
    · rw [hg (k - j) (by omega), Rat.mul_zero]
theorem pw_low {x : Nat → Rat} (h0 : x 0 = 0) : ∀ (m k : Nat), k < m → pw x m k = 0
  | m + 1, k, hk => cv_low (a := m) (b := 1) (fun j hj => pw_low h0 m j hj) (fun j hj => by rw [show j = 0 by omega]; exact h0) hk
/-- z d/dz of a power -/
theorem th_pw (x : Nat → Rat) : ∀ (m k : Nat), th (pw x (m + 1)) k = ((m + 1 : Nat) : Rat) * cv (pw x m) (th x) k
  | 0, k => by
    show th (cv one x) k = _
    have e : th (cv one x) k = th x k := by unfold th; rw [cv_one_l]
    rw [e]
    show _ = ((1 : Nat) : Rat) * cv one (th x) k
    rw [cv_one_l]
    simp
  | m + 1, k => by
    show th (cv (pw x (m + 1)) x) k = _
    rw [th_cv]
    have e : cv (th (pw x (m + 1))) x k = ((m + 1 : Nat) : Rat) * cv (pw x (m + 1)) (th x) k := by
      rw [cv_congr (f' := fun j => ((m + 1 : Nat) : Rat) * cv (pw x m) (th x) j) (fun j _ => th_pw x m j) (fun _ _ => rfl), cv_mul_l]
      congr 1
      rw [cv_assoc, show pw x (m + 1) = cv (pw x m) x from rfl, cv_assoc]
      exact cv_congr (fun _ _ => rfl) fun j _ => cv_comm j _ _
    rw [e, show ((m + 1 + 1 : Nat) : Rat) = ((m + 1 : Nat) : Rat) + 1 by rw [Rat.natCast_add]; rfl]
    grind
/-- t^k / k! -/
def expS (t : Rat) : Nat → Rat
  | 0 => 1
  | k + 1 => expS t k * t / ((k + 1 : Nat) : Rat)
/-- sums of series -/
def sums (F : Nat → Nat → Rat) (n k : Nat) : Rat := ps (fun m => F m k) n
theorem sums_cv (F : Nat → Nat → Rat) (g : Nat → Rat) (k : Nat) : ∀ n, cv (sums F n) g k = ps (fun m => cv (F m) g k) n
  | 0 => ps_zero fun j _ => by simp [sums, ps]
  | n + 1 => by
    rw [show ps (fun m => cv (F m) g k) (n + 1) = ps (fun m => cv (F m) g k) n + cv (F n) g k from rfl, ← sums_cv F g k n, ← cv_add_l]
    rfl
theorem ps_mul' (c : Rat) (f : Nat → Rat) (n : Nat) : c * ps f n = ps (fun j => c * f j) n := (ps_mul c f n).symm
theorem nat_ne {k : Nat} : ((k + 1 : Nat) : Rat) ≠ 0 := by
  intro z
  have := congrArg Rat.num z
  rw [Rat.num_natCast] at this
  have : ((k + 1 : Nat) : Int) = 0 := this
  omega
/-- a logarithm's recurrence decides it -/
def IsLog (s L : Nat → Rat) (n : Nat) : Prop := L 0 = 0 ∧ ∀ k < n, th s k = cv (th L) s k
/-- the last of the product's terms apart: s 0 = 1, L 0 = 0 -/
theorem log_step {s L : Nat → Rat} (h0 : s 0 = 1) (k : Nat) : cv (th L) s (k + 1) = ps (fun j => th L (j + 1) * s (k - j)) k + th L (k + 1) := by
  rw [cv_s, show th L 0 = 0 by simp [th], Rat.zero_mul, Rat.zero_add]
  show ps (fun j => sh (th L) j * s (k - j)) k + sh (th L) k * s (k - k) = _
  rw [Nat.sub_self, h0, Rat.mul_one]
  rfl
theorem log_unique {s L M : Nat → Rat} {n : Nat} (h0 : s 0 = 1) (h1 : IsLog s L n) (h2 : IsLog s M n) : ∀ k < n, L k = M k := by
  intro k
  induction k using Nat.strongRecOn with
  | ind k ih =>
    intro hk
    cases k with
    | zero => rw [h1.1, h2.1]
    | succ k =>
      have e1 := h1.2 (k + 1) hk
      have e2 := h2.2 (k + 1) hk
      rw [log_step h0] at e1 e2
      have e : ps (fun j => th L (j + 1) * s (k - j)) k = ps (fun j => th M (j + 1) * s (k - j)) k := ps_congr fun j hj => by
        unfold th
        rw [ih (j + 1) (by omega) (by omega)]
      rw [e] at e1
      have e3 : th L (k + 1) = th M (k + 1) := by
        rw [e1] at e2
        grind
      unfold th at e3
      have := nat_ne (k := k)
      grind
theorem log_congr {s s' L L' : Nat → Rat} {n : Nat} (h : ∀ k < n, s k = s' k) (h' : ∀ k < n, L k = L' k) (i : IsLog s L n) (hn : 0 < n) : IsLog s' L' n := by
  refine ⟨by rw [← h' 0 hn]; exact i.1, fun k hk => ?_⟩
  have e := i.2 k hk
  have e1 : th s k = th s' k := by unfold th; rw [h k hk]
  rw [← e1, e]
  exact cv_congr (fun j hj => by unfold th; rw [h' j (by omega)]) fun j hj => h j (by omega)
/-- the logarithm of a product -/
theorem log_mul {s r L M : Nat → Rat} {n : Nat} (h1 : IsLog s L n) (h2 : IsLog r M n) : IsLog (cv s r) (fun k => L k + M k) n := by
  refine ⟨by simp [h1.1, h2.1], fun k hk => ?_⟩
  rw [th_cv]
  have e1 : cv (th s) r k = cv (th L) (cv s r) k := by
    rw [← cv_assoc]
    exact cv_congr (fun j hj => h1.2 j (by omega)) fun _ _ => rfl
  have e2 : cv s (th r) k = cv (th M) (cv s r) k := by
    rw [cv_congr (g' := cv (th M) r) (fun _ _ => rfl) (fun j hj => h2.2 j (by omega)), ← cv_assoc, ← cv_assoc]
    exact cv_congr (fun j _ => cv_comm j _ _) fun _ _ => rfl
  rw [e1, e2, ← cv_add_l]
  exact cv_congr (fun j _ => by unfold th; grind) fun _ _ => rfl
/-- sums of the powers with numbers c : the logarithm's and the exponential's -/
def psum (c : Nat → Rat) (x : Nat → Rat) (n k : Nat) : Rat := ps (fun m => pw x (m + 1) k * c (m + 1)) n
theorem th_psum (c : Nat → Rat) (x : Nat → Rat) (n k : Nat) : th (psum c x n) k = ps (fun m => c (m + 1) * ((m + 1 : Nat) : Rat) * cv (pw x m) (th x) k) n := by
  unfold th psum
  rw [← ps_mul]
  refine ps_congr fun m _ => ?_
  have e := th_pw x m k
  unfold th at e
  unfold th at *
  grind
theorem psum_log {x : Nat → Rat} (h0 : x 0 = 0) {c : Nat → Rat} (hc : ∀ m, c (m + 1) * ((m + 1 : Nat) : Rat) = if m % 2 = 0 then 1 else -1) (n : Nat) : IsLog (fun k => one k + x k) (psum c x n) (n + 1) := by
  refine ⟨ps_zero fun m _ => by rw [pw_low h0 (m + 1) 0 (by omega), Rat.zero_mul], fun k hk => ?_⟩
  have e1 : th (fun k => one k + x k) k = th x k := by
    unfold th one
    by_cases h : k = 0
    · subst h; simp
    · simp [h]
  rw [e1]
  have e2 : cv (th (psum c x n)) (fun k => one k + x k) k = ps (fun m => (if m % 2 = 0 then 1 else -1) * (cv (pw x m) (th x) k + cv (pw x (m + 1)) (th x) k)) n := by
    have e3 : cv (th (psum c x n)) (fun k => one k + x k) k = cv (sums (fun m j => (if m % 2 = 0 then 1 else -1) * cv (pw x m) (th x) j) n) (fun k => one k + x k) k := cv_congr (fun j _ => by
      rw [th_psum]
      exact ps_congr fun m _ => by rw [hc]) fun _ _ => rfl
    rw [e3, sums_cv]
    refine ps_congr fun m _ => ?_
    rw [cv_mul_l, cv_add_r]
    congr 1
    congr 1
    · rw [cv_comm, cv_one_l]
    · rw [show pw x (m + 1) = cv (pw x m) x from rfl, cv_assoc, cv_assoc]
      exact cv_congr (fun _ _ => rfl) fun j _ => cv_comm j _ _
  rw [e2]
  have tele : ∀ n, ps (fun m => (if m % 2 = 0 then 1 else -1) * (cv (pw x m) (th x) k + cv (pw x (m + 1)) (th x) k)) n = th x k - (if n % 2 = 0 then 1 else -1) * cv (pw x n) (th x) k := by
    intro n
    induction n with
    | zero =>
      show (0 : Rat) = th x k - (1 : Rat) * cv one (th x) k
      rw [cv_one_l]
      grind
    | succ n ih =>
      show ps _ n + _ = _
      rw [ih]
      by_cases h : n % 2 = 0
      · have h' : (n + 1) % 2 ≠ 0 := by omega
        simp only [h, h', if_true, if_false]
        grind
      · have h' : (n + 1) % 2 = 0 := by omega
        simp only [h, h', if_true, if_false]
        grind
  rw [tele]
  have e4 : cv (pw x n) (th x) k = 0 := cv_low (a := n) (b := 1) (fun j hj => pw_low h0 n j hj) (fun j hj => by rw [show j = 0 by omega]; simp [th]) hk
  rw [e4]
  grind
/-- an exponential's recurrence -/
def IsExp (x E : Nat → Rat) (n : Nat) : Prop := E 0 = 1 ∧ ∀ k < n, th E k = cv (th x) E k
theorem exp_step {x E : Nat → Rat} (k : Nat) : cv (th x) E (k + 1) = ps (fun j => th x (j + 1) * E (k - j)) (k + 1) := by
  rw [cv_s, show th x 0 = 0 by simp [th], Rat.zero_mul, Rat.zero_add]
  rfl
theorem exp_unique {x E F : Nat → Rat} {n : Nat} (h1 : IsExp x E n) (h2 : IsExp x F n) : ∀ k < n, E k = F k := by
  intro k
  induction k using Nat.strongRecOn with
  | ind k ih =>
    intro hk
    cases k with
    | zero => rw [h1.1, h2.1]
    | succ k =>
      have e1 := h1.2 (k + 1) hk
      have e2 := h2.2 (k + 1) hk
      rw [exp_step] at e1 e2
      have e : ps (fun j => th x (j + 1) * E (k - j)) (k + 1) = ps (fun j => th x (j + 1) * F (k - j)) (k + 1) := ps_congr fun j hj => by
        rw [ih (k - j) (by omega) (by omega)]
      rw [e] at e1
      have e3 : th E (k + 1) = th F (k + 1) := by rw [e1, e2]
      unfold th at e3
      have := nat_ne (k := k)
      grind
theorem exp_of_log {s L : Nat → Rat} {n : Nat} (h0 : s 0 = 1) (h : IsLog s L n) : IsExp L s n := ⟨h0, h.2⟩
theorem psum_exp {x : Nat → Rat} (h0 : x 0 = 0) {c : Nat → Rat} (hc : ∀ m, c (m + 1) * ((m + 1 : Nat) : Rat) = c m) (c0 : c 0 = 1) (n : Nat) : IsExp x (fun k => one k + psum c x n k) (n + 1) := by
  refine ⟨?_, fun k hk => ?_⟩
  · have e : psum c x n 0 = 0 := ps_zero fun m _ => by rw [pw_low h0 (m + 1) 0 (by omega), Rat.zero_mul]
    show one 0 + psum c x n 0 = 1
    rw [e]
    exact Rat.add_zero 1
  · have e1 : th (fun k => one k + psum c x n k) k = th (psum c x n) k := by
      unfold th one
      by_cases h : k = 0
      · subst h; simp
      · simp [h]
    rw [e1, th_psum, cv_comm]
    have e2 : cv (fun k => one k + psum c x n k) (th x) k = ps (fun m => c m * cv (pw x m) (th x) k) (n + 1) := by
      rw [← show ∀ n, cv (sums (fun m j => c m * pw x m j) n) (th x) k = ps (fun m => c m * cv (pw x m) (th x) k) n from fun n => by
        rw [sums_cv]
        exact ps_congr fun m _ => by rw [cv_mul_l]]
      refine cv_congr (fun j _ => ?_) fun _ _ => rfl
      show _ = ps (fun m => c m * pw x m j) (n + 1)
      rw [ps_first, c0, Rat.one_mul]
      show one j + _ = one j + _
      congr 1
      exact ps_congr fun m _ => by rw [Rat.mul_comm]
    rw [e2]
    show _ = ps (fun m => c m * cv (pw x m) (th x) k) n + c n * cv (pw x n) (th x) k
    have e4 : cv (pw x n) (th x) k = 0 := cv_low (a := n) (b := 1) (fun j hj => pw_low h0 n j hj) (fun j hj => by rw [show j = 0 by omega]; simp [th]) hk
    rw [e4, Rat.mul_zero, Rat.add_zero]
    exact ps_congr fun m _ => by rw [hc]
theorem th_expS (t : Rat) : ∀ k, th (expS t) (k + 1) = t * expS t k := fun k => by
  unfold th
  show ((k + 1 : Nat) : Rat) * (expS t k * t / ((k + 1 : Nat) : Rat)) = _
  have := nat_ne (k := k)
  grind
/-- the product of two exponentials -/
theorem expS_add (t u : Rat) : ∀ k, cv (expS t) (expS u) k = expS (t + u) k
  | 0 => by rw [cv_0]; simp [expS]
  | k + 1 => by
    have e := th_cv (expS t) (expS u) (k + 1)
    rw [cv_s (th (expS t)), cv_t (expS t) (th (expS u))] at e
    rw [show th (expS t) 0 = 0 by simp [th], show th (expS u) 0 = 0 by simp [th]] at e
    have e1 : cv (sh (th (expS t))) (expS u) k = t * cv (expS t) (expS u) k := by
      rw [← cv_mul_l]
      exact cv_congr (fun j _ => th_expS t j) fun _ _ => rfl
    have e2 : cv (expS t) (sh (th (expS u))) k = u * cv (expS t) (expS u) k := by
      rw [← cv_mul_r]
      exact cv_congr (fun _ _ => rfl) fun j _ => th_expS u j
    rw [e1, e2, expS_add t u k] at e
    have e3 := th_expS (t + u) k
    unfold th at e e3
    have := nat_ne (k := k)
    grind
theorem log_rec {s L : Nat → Rat} {n : Nat} (h0 : s 0 = 1) (h : IsLog s L n) {k : Nat} (hk : k + 1 < n) : L (k + 1) = s (k + 1) - ps (fun i => ((i + 1 : Nat) : Rat) * (L (i + 1) * s (k + 1 - (i + 1)))) k / ((k + 1 : Nat) : Rat) := by
  have e := h.2 (k + 1) hk
  rw [log_step h0] at e
  have e1 : ps (fun j => th L (j + 1) * s (k - j)) k = ps (fun i => ((i + 1 : Nat) : Rat) * (L (i + 1) * s (k + 1 - (i + 1)))) k := ps_congr fun j hj => by
    unfold th
    rw [show k + 1 - (j + 1) = k - j by omega, Rat.mul_assoc]
  rw [e1] at e
  unfold th at e
  have := nat_ne (k := k)
  grind
theorem exp_rec {x E : Nat → Rat} {n : Nat} (h : IsExp x E n) {k : Nat} (hk : k + 1 < n) : E (k + 1) = ps (fun i => ((i + 1 : Nat) : Rat) * (x (i + 1) * E (k + 1 - (i + 1)))) (k + 1) / ((k + 1 : Nat) : Rat) := by
  have e := h.2 (k + 1) hk
  rw [exp_step] at e
  have e1 : ps (fun j => th x (j + 1) * E (k - j)) (k + 1) = ps (fun i => ((i + 1 : Nat) : Rat) * (x (i + 1) * E (k + 1 - (i + 1)))) (k + 1) := ps_congr fun j hj => by
    unfold th
    rw [show k + 1 - (j + 1) = k - j by omega, Rat.mul_assoc]
  rw [e1] at e
  unfold th at e
  have := nat_ne (k := k)
  grind
end FR

/-! QZ -/
set_option linter.all false
/-! QZ: sizes by a common denominator. -/
namespace FR
/-- the denominator divides W, the numerator is below 2^N -/
structure Qz (W N : Nat) (x : Rat) : Prop where
  d : x.den ∣ W
  n : x.num.natAbs < 2 ^ N
/-- W serves as a common denominator -/
structure Ok (W : Nat) : Prop where
  p : W ≠ 0
  l : W < 2 ^ 4400
theorem Qz.mono {W V N M : Nat} {x : Rat} (h : Qz W N x) (hd : W ∣ V) (hn : N ≤ M) : Qz V M x := ⟨Nat.dvd_trans h.d hd, Nat.lt_of_lt_of_le h.n (Nat.pow_le_pow_right (by decide) hn)⟩
theorem Qz.up {W N M : Nat} {x : Rat} (h : Qz W N x) (hn : N ≤ M) : Qz W M x := h.mono (Nat.dvd_refl _) hn
theorem Qz.sz {W N M : Nat} {x : Rat} (h : Qz W N x) (w : Ok W) (hn : N ≤ M) : Sz M x := ⟨Nat.lt_of_lt_of_le h.n (Nat.pow_le_pow_right (by decide) hn), Nat.lt_of_le_of_lt (den_le w.p h.d) w.l⟩
theorem Qz.neg {W N : Nat} {x : Rat} (h : Qz W N x) : Qz W N (-x) := ⟨h.d, by rw [Rat.neg_num, Int.natAbs_neg]; exact h.n⟩
theorem Qz.add {W N : Nat} {x y : Rat} (w : Ok W) (hx : Qz W N x) (hy : Qz W N y) : Qz W (N + 4401) (x + y) := by
  have hd := den_add w.p hx.d hy.d
  exact ⟨hd, ((hx.sz w (Nat.le_refl _)).add (hy.sz w (Nat.le_refl _)) (Nat.lt_of_le_of_lt (den_le w.p hd) w.l)).n⟩
theorem Qz.sub {W N : Nat} {x y : Rat} (w : Ok W) (hx : Qz W N x) (hy : Qz W N y) : Qz W (N + 4401) (x - y) := by
  rw [Rat.sub_eq_add_neg]
  exact hx.add w hy.neg
theorem Qz.mul {W V N M : Nat} {x y : Rat} (hW : W ≠ 0) (hV : V ≠ 0) (hx : Qz W N x) (hy : Qz V M y) : Qz (W * V) (N + M) (x * y) := by
  refine ⟨den_mul hW hV hx.d hy.d, ?_⟩
  refine Nat.lt_of_le_of_lt (num_mul x y) ?_
  rw [Nat.pow_add]
  by_cases h : y.num.natAbs = 0
  · rw [h, Nat.mul_zero, ← Nat.pow_add]; exact Nat.two_pow_pos _
  · exact Nat.mul_lt_mul_of_lt_of_le hx.n (Nat.le_of_lt hy.n) (Nat.two_pow_pos _)
theorem Qz.zero (W N : Nat) : Qz W N 0 := ⟨Nat.one_dvd _, Nat.two_pow_pos _⟩
theorem Qz.one (W : Nat) {N : Nat} (h : 1 ≤ N) : Qz W N 1 := ⟨Nat.one_dvd _, show (1 : Nat) < 2 ^ N from Nat.one_lt_two_pow (by omega)⟩
theorem Qz.nat (W : Nat) {N k : Nat} (h : k < 2 ^ N) : Qz W N (k : Rat) := ⟨by rw [Rat.den_natCast]; exact Nat.one_dvd _, by rw [Rat.num_natCast, Int.natAbs_natCast]; exact h⟩
theorem Qz.ps {W N : Nat} (w : Ok W) {f : Nat → Rat} : ∀ {n : Nat}, (∀ j < n, Qz W N (f j)) → Qz W (N + 4401 * n) (FR.ps f n)
  | 0, _ => Qz.zero _ _
  | n + 1, h => by
    have h1 := Qz.ps w (n := n) fun j hj => h j (by omega)
    exact (h1.add w ((h n (by omega)).up (by omega))).up (by omega)
theorem Qz.inv {W N K : Nat} {x : Rat} (h0 : x ≠ 0) (h : Qz W N x) (hW : W ≠ 0) (hK : W < 2 ^ K) : Qz x.num.natAbs K x⁻¹ := by
  have hn : x.num ≠ 0 := fun z => h0 (Rat.num_eq_zero.mp z)
  have e : (x⁻¹).den = x.num.natAbs := by
    rw [Rat.den_inv]
    simp [h0]
  have e2 : (x⁻¹).num.natAbs = x.den := by
    rw [Rat.num_inv]
    rw [Int.natAbs_mul, Int.natAbs_natCast, Int.natAbs_sign_of_ne_zero hn, Nat.one_mul]
  refine ⟨by rw [e]; exact Nat.dvd_refl _, ?_⟩
  rw [e2]
  exact Nat.lt_of_le_of_lt (den_le hW h.d) hK
theorem Qz.div {W V N M K : Nat} {x y : Rat} (hW : W ≠ 0) (hV : V ≠ 0) (hK : V < 2 ^ K) (hx : Qz W N x) (hy : Qz V M y) (h0 : y ≠ 0) : Qz (W * y.num.natAbs) (N + K) (x / y) := by
  rw [Rat.div_def]
  exact Qz.mul hW (fun z => h0 (Rat.num_eq_zero.mp (Int.natAbs_eq_zero.mp z))) hx (hy.inv h0 hV hK)
theorem nat_ne' {k : Nat} (h : k ≠ 0) : (k : Rat) ≠ 0 := by
  obtain ⟨j, rfl⟩ := Nat.exists_eq_succ_of_ne_zero h
  exact nat_ne
theorem Qz.divN {W N k : Nat} {x : Rat} (hW : W ≠ 0) (hk : k ≠ 0) (hx : Qz W N x) : Qz (W * k) (N + 1) (x / (k : Rat)) := by
  have h := Qz.div hW (V := 1) (M := k) (K := 1) (by decide) (by decide) hx (Qz.nat 1 (Nat.lt_two_pow_self)) (nat_ne' hk)
  rw [Rat.num_natCast, Int.natAbs_natCast] at h
  exact h
def fct : Nat → Nat
  | 0 => 1
  | n + 1 => fct n * (n + 1)
theorem fct_ne : ∀ n, fct n ≠ 0
  | 0 => by decide
  | n + 1 => Nat.mul_ne_zero (fct_ne n) (by omega)
theorem fct_dvd : ∀ {m n : Nat}, m ≤ n → fct m ∣ fct n
  | m, 0, h => by rw [show m = 0 by omega]; exact Nat.dvd_refl _
  | m, n + 1, h => by
    by_cases e : m = n + 1
    · subst e; exact Nat.dvd_refl _
    · exact Nat.dvd_trans (fct_dvd (n := n) (by omega)) (Nat.dvd_mul_right _ _)
theorem dvd_fct {m n : Nat} (h0 : m ≠ 0) (h : m ≤ n) : m ∣ fct n := by
  obtain ⟨k, rfl⟩ := Nat.exists_eq_succ_of_ne_zero h0
  exact Nat.dvd_trans (Nat.dvd_mul_left _ _) (fct_dvd h)
theorem Ok.of_le {W V : Nat} (h : Ok V) (l : W ∣ V) : Ok W := ⟨fun z => h.p (by rw [z] at l; exact Nat.eq_zero_of_zero_dvd l), Nat.lt_of_le_of_lt (Nat.le_of_dvd (Nat.pos_of_ne_zero h.p) l) h.l⟩
theorem dvd_eq {a b : Nat} (h : a = b) : a ∣ b := h ▸ Nat.dvd_refl a
theorem pow_nz {W : Nat} (k : Nat) (h : W ≠ 0) : W ^ k ≠ 0 := Nat.ne_of_gt (Nat.pow_pos (Nat.pos_of_ne_zero h))
/-- the exponential's numbers -/
theorem Qz.expS {t : Rat} {W N : Nat} (hW : W ≠ 0) (ht : Qz W N t) : ∀ k, Qz (W ^ k * fct k) (k * (N + 1) + 1) (FR.expS t k)
  | 0 => Qz.one _ (by omega)
  | k + 1 => by
    have h := Qz.expS hW ht k
    have h1 := Qz.mul (Nat.mul_ne_zero (pow_nz k hW) (fct_ne k)) hW h ht
    have h2 := Qz.divN (Nat.mul_ne_zero (Nat.mul_ne_zero (pow_nz k hW) (fct_ne k)) hW) (k := k + 1) (by omega) h1
    refine h2.mono (dvd_eq ?_) ?_
    · show _ = W ^ (k + 1) * (fct k * (k + 1))
      rw [Nat.pow_succ]
      ac_rfl
    · rw [Nat.add_mul]
      omega
theorem Qz.cv {W V N M n : Nat} {f g : Nat → Rat} (w : Ok (W * V)) (hf : ∀ j < n, Qz W N (f j)) (hg : ∀ j < n, Qz V M (g j)) : ∀ k < n, Qz (W * V) (N + M + 4401 * n) (FR.cv f g k) := by
  intro k hk
  have h1 : W ≠ 0 := fun z => w.p (by rw [z, Nat.zero_mul])
  have h2 : V ≠ 0 := fun z => w.p (by rw [z, Nat.mul_zero])
  exact (Qz.ps w (n := k + 1) fun j hj => Qz.mul h1 h2 (hf j (by omega)) (hg (k - j) (by omega))).up (by omega)
theorem Qz.pw {W N n : Nat} {x : Nat → Rat} (hx : ∀ j < n, Qz W N (x j)) : ∀ (m : Nat), Ok (W ^ m) → ∀ k < n, Qz (W ^ m) (1 + m * (N + 4401 * n)) (FR.pw x m k)
  | 0, _, k, _ => by
    show Qz 1 _ (FR.one k)
    unfold FR.one
    split
    · exact Qz.one _ (by omega)
    · exact Qz.zero _ _
  | m + 1, w, k, hk => by
    have w' : Ok (W ^ m * W) := by rw [← Nat.pow_succ]; exact w
    have h := Qz.pw hx m (w'.of_le (Nat.dvd_mul_right _ _))
    have h2 := Qz.cv (n := n) w' h hx k hk
    rw [← Nat.pow_succ] at h2
    exact h2.up (by rw [Nat.add_mul]; omega)
end FR

/-! G1 -/
set_option Elab.async false
set_option linter.all false
set_option maxRecDepth 100000
set_option maxHeartbeats 4000000
namespace K00
open PySem PD L2 FR
/-- the bound of figures -/
def GR : Int := (10 ^ 50) ^ 8
theorem con2 : (md.con.map (·.2))[2]? = some (.int GR) := by
  show some (D.int _) = some (D.int GR)
  congr 2
def isI : D → Bool
  | .int _ => true
  | _ => false
def okD : D → Bool
  | .dct _ _ => false
  | .obj _ _ _ => false
  | _ => true
theorem is_whole_ok {d : D} (h : okD d = true) : f_is_whole [.fz d] = .ok (.bl (isI d)) [] := by
  rw [show f_is_whole = runDef (md.gam g_is_whole) ⟨1, b_is_whole⟩ from rfl, runDef_eq]
  simp only [b_is_whole, contsOf, slotsOf]
  obtain ⟨G, hG⟩ : ∃ G : Gam, G = { md.gam g_is_whole with io := ([] : List Cont).length } := ⟨_, rfl⟩
  have fns : G.fns = g_is_whole := by rw [hG]; rfl
  have io : G.io = 0 := by rw [hG]; rfl
  have con : G.con = md.con.map (·.2) := by rw [hG]; rfl
  have exq : G.exm = exmL md.exm := by rw [hG]; rfl
  have gq : g_is_whole = g_is_whole := rfl
  rw [← hG]
  cases d <;> first
    | exact Bool.noConfusion (show false = true from h)
    | simp [isI, io]
theorem fraction_ok {p q : Int} (hq : q ≠ 0) (hb : q.natAbs < 2 ^ 9000) : f_fraction [.fz (.int p), .fz (.int q)] = .ok (frD (Rat.divInt p q)) [] := by
  have lo := lowest_ok (p := p) hq hb
  have w : ∀ i : Int, f_is_whole [.fz (.int i)] = .ok (.bl true) [] := fun i => is_whole_ok (d := .int i) rfl
  rw [show f_fraction = runDef (md.gam g_fraction) ⟨2, b_fraction⟩ from rfl, runDef_eq]
  simp only [b_fraction, contsOf, slotsOf]
  obtain ⟨G, hG⟩ : ∃ G : Gam, G = { md.gam g_fraction with io := ([] : List Cont).length } := ⟨_, rfl⟩
  have fns : G.fns = g_fraction := by rw [hG]; rfl
  have io : G.io = 0 := by rw [hG]; rfl
  have con : G.con = md.con.map (·.2) := by rw [hG]; rfl
  have exq : G.exm = exmL md.exm := by rw [hG]; rfl
  have gq : g_fraction = g_fraction := rfl
  rw [← hG]
  simp [fns, io, gq, g_fraction, w, hq, lo]
theorem fraction_bad {a b : D} (ha : okD a = true) (hb : okD b = true) (h : (isI a && isI b) = false ∨ b = .int 0) : f_fraction [.fz a, .fz b] = .exc ⟨"BadNumber", []⟩ [] := by
  have wa := is_whole_ok ha
  have wb := is_whole_ok hb
  rw [show f_fraction = runDef (md.gam g_fraction) ⟨2, b_fraction⟩ from rfl, runDef_eq]
  simp only [b_fraction, contsOf, slotsOf]
  obtain ⟨G, hG⟩ : ∃ G : Gam, G = { md.gam g_fraction with io := ([] : List Cont).length } := ⟨_, rfl⟩
  have fns : G.fns = g_fraction := by rw [hG]; rfl
  have io : G.io = 0 := by rw [hG]; rfl
  have con : G.con = md.con.map (·.2) := by rw [hG]; rfl
  have exq : G.exm = exmL md.exm := by rw [hG]; rfl
  have gq : g_fraction = g_fraction := rfl
  rw [← hG]
  cases ia : isI a with
  | false =>
    rw [ia] at wa
    simp [fns, io, gq, g_fraction, wa]
  | true =>
    rw [ia] at wa
    cases ib : isI b with
    | false =>
      rw [ib] at wb
      simp [fns, io, gq, g_fraction, wa, wb]
    | true =>
      rw [ib] at wb
      rcases h with h | h
      · rw [ia, ib] at h; cases h
      · subst h
        simp [fns, io, gq, g_fraction, wa, wb]
/-- what is a number -/
def isNum : D → Bool
  | .tup [.int p, .int q] => decide (1 ≤ q) && (Nat.gcd p.natAbs q.natAbs == 1)
  | _ => false
theorem isn_frD (x : Rat) : isNum (frD x) = true := by
  show (decide (1 ≤ (x.den : Int)) && (Nat.gcd x.num.natAbs (x.den : Int).natAbs == 1)) = true
  rw [Int.natAbs_natCast, x.reduced]
  have := x.den_pos
  simp
  omega
theorem gcd_eq1 {n : Nat} : (((n : Nat) : Int) == 1) = (n == 1) := by
  by_cases h : n = 1
  · subst h; rfl
  · rw [show (((n : Nat) : Int) == 1) = false by rw [beq_eq_false_iff_ne]; omega, show (n == 1) = false by rw [beq_eq_false_iff_ne]; exact h]
theorem is_number_ok {d : D} (h : okD d = true) (h2 : ∀ a b, d = .tup [a, b] → okD a = true ∧ okD b = true) : f_is_number [.fz d] = .ok (.bl (isNum d)) [] := by
  rw [show f_is_number = runDef (md.gam g_is_number) ⟨3, b_is_number⟩ from rfl, runDef_eq]
  simp only [b_is_number, contsOf, slotsOf]
  obtain ⟨G, hG⟩ : ∃ G : Gam, G = { md.gam g_is_number with io := ([] : List Cont).length } := ⟨_, rfl⟩
  have fns : G.fns = g_is_number := by rw [hG]; rfl
  have io : G.io = 0 := by rw [hG]; rfl
  have con : G.con = md.con.map (·.2) := by rw [hG]; rfl
  have exq : G.exm = exmL md.exm := by rw [hG]; rfl
  have gq : g_is_number = g_is_number := rfl
  rw [← hG]
  cases d with
  | dct _ _ => exact Bool.noConfusion (show false = true from h)
  | obj _ _ _ => exact Bool.noConfusion (show false = true from h)
  | non => simp [isNum, io]
  | bl _ => simp [isNum, io]
  | int _ => simp [isNum, io]
  | str _ => simp [isNum, io]
  | lst _ => simp [isNum, io]
  | tup ds =>
    match ds, h2 with
    | [], _ => simp [isNum, io]
    | [a], _ => simp [isNum, io]
    | a :: b :: c :: ds, _ =>
      have n3 : ¬ ((ds.length : Int) + 1 + 1 + 1 = 2) := by omega
      simp [isNum, io, n3]
    | [a, b], h2 =>
      obtain ⟨oa, ob⟩ := h2 a b rfl
      have wa := is_whole_ok oa
      have wb := is_whole_ok ob
      cases ia : isI a with
      | false =>
        rw [ia] at wa
        have e : isNum (.tup [a, b]) = false := by cases a <;> first | rfl | exact Bool.noConfusion ia
        simp [fns, io, gq, g_is_number, wa, e]
      | true =>
        rw [ia] at wa
        cases ib : isI b with
        | false =>
          rw [ib] at wb
          have e : isNum (.tup [a, b]) = false := by cases a <;> cases b <;> first | rfl | exact Bool.noConfusion ib
          simp [fns, io, gq, g_is_number, wa, wb, e]
        | true =>
          rw [ib] at wb
          cases a <;> first | exact Bool.noConfusion ia | skip
          cases b <;> first | exact Bool.noConfusion ib | skip
          rename_i p q
          have e : isNum (.tup [.int p, .int q]) = (decide (1 ≤ q) && (Nat.gcd p.natAbs q.natAbs == 1)) := rfl
          rw [e]
          by_cases hq : 1 ≤ q
          · simp only [hq, decide_true, Bool.true_and]
            rw [← gcd_eq1]
            simp [fns, io, gq, g_is_number, wa, wb, hq]
          · simp [fns, io, gq, g_is_number, wa, wb, hq]
/-- too large -/
def big (x : Rat) : Bool := decide (GR ≤ (x.num.natAbs : Int)) || decide (GR ≤ (x.den : Int))
theorem abs_nat (z : Int) : (if z < 0 then -z else z) = (z.natAbs : Int) := by split <;> omega
theorem isn_fr (x : Rat) : f_is_number [.fz (frD x)] = .ok (.bl true) [] := by
  have h := is_number_ok (d := frD x) rfl (fun a b e => by
    unfold frD at e
    cases e
    exact ⟨rfl, rfl⟩)
  rw [isn_frD] at h
  exact h
theorem check_number_ok {x : Rat} (h : big x = false) : f_check_number [.fz (frD x)] = .ok (frD x) [] := by
  have w := isn_fr x
  unfold big at h
  simp only [Bool.or_eq_false_iff, decide_eq_false_iff_not] at h
  rw [show f_check_number = runDef (md.gam g_check_number) ⟨1, b_check_number⟩ from rfl, runDef_eq]
  simp only [b_check_number, contsOf, slotsOf]
  obtain ⟨G, hG⟩ : ∃ G : Gam, G = { md.gam g_check_number with io := ([] : List Cont).length } := ⟨_, rfl⟩
  have fns : G.fns = g_check_number := by rw [hG]; rfl
  have io : G.io = 0 := by rw [hG]; rfl
  have con : G.con = md.con.map (·.2) := by rw [hG]; rfl
  have exq : G.exm = exmL md.exm := by rw [hG]; rfl
  have gq : g_check_number = g_check_number := rfl
  rw [← hG]
  have c2 : G.con[2]? = some (.int GR) := by rw [con]; exact con2
  simp [fns, io, gq, g_check_number, w, fr0, fr1, c2, abs_nat, h.1, h.2]
theorem check_number_large {x : Rat} (h : big x = true) : f_check_number [.fz (frD x)] = .exc ⟨"TooLarge", [("what", .str "figures")]⟩ [] := by
  have w := isn_fr x
  unfold big at h
  rw [show f_check_number = runDef (md.gam g_check_number) ⟨1, b_check_number⟩ from rfl, runDef_eq]
  simp only [b_check_number, contsOf, slotsOf]
  obtain ⟨G, hG⟩ : ∃ G : Gam, G = { md.gam g_check_number with io := ([] : List Cont).length } := ⟨_, rfl⟩
  have fns : G.fns = g_check_number := by rw [hG]; rfl
  have io : G.io = 0 := by rw [hG]; rfl
  have con : G.con = md.con.map (·.2) := by rw [hG]; rfl
  have exq : G.exm = exmL md.exm := by rw [hG]; rfl
  have gq : g_check_number = g_check_number := rfl
  rw [← hG]
  have c2 : G.con[2]? = some (.int GR) := by rw [con]; exact con2
  by_cases h1 : GR ≤ (x.num.natAbs : Int)
  · simp [fns, io, gq, g_check_number, w, fr0, fr1, c2, abs_nat, h1]
  · have h2 : GR ≤ (x.den : Int) := by simpa [h1] using h
    simp [fns, io, gq, g_check_number, w, fr0, fr1, c2, abs_nat, h1, h2]
theorem check_number_bad {d : D} (h : f_is_number [.fz d] = .ok (.bl false) []) : f_check_number [.fz d] = .exc ⟨"BadNumber", []⟩ [] := by
  rw [show f_check_number = runDef (md.gam g_check_number) ⟨1, b_check_number⟩ from rfl, runDef_eq]
  simp only [b_check_number, contsOf, slotsOf]
  obtain ⟨G, hG⟩ : ∃ G : Gam, G = { md.gam g_check_number with io := ([] : List Cont).length } := ⟨_, rfl⟩
  have fns : G.fns = g_check_number := by rw [hG]; rfl
  have io : G.io = 0 := by rw [hG]; rfl
  have con : G.con = md.con.map (·.2) := by rw [hG]; rfl
  have exq : G.exm = exmL md.exm := by rw [hG]; rfl
  have gq : g_check_number = g_check_number := rfl
  rw [← hG]
  simp [fns, io, gq, g_check_number, h]
theorem check_complex_ok {x y : Rat} (hx : big x = false) (hy : big y = false) : f_check_complex [.fz (.tup [frD x, frD y])] = .ok (.tup [frD x, frD y]) [] := by
  have w1 := isn_fr x
  have w2 := isn_fr y
  have c1 := check_number_ok hx
  have c2 := check_number_ok hy
  rw [show f_check_complex = runDef (md.gam g_check_complex) ⟨1, b_check_complex⟩ from rfl, runDef_eq]
  simp only [b_check_complex, contsOf, slotsOf]
  obtain ⟨G, hG⟩ : ∃ G : Gam, G = { md.gam g_check_complex with io := ([] : List Cont).length } := ⟨_, rfl⟩
  have fns : G.fns = g_check_complex := by rw [hG]; rfl
  have io : G.io = 0 := by rw [hG]; rfl
  have con : G.con = md.con.map (·.2) := by rw [hG]; rfl
  have exq : G.exm = exmL md.exm := by rw [hG]; rfl
  have gq : g_check_complex = g_check_complex := rfl
  rw [← hG]
  simp [fns, io, gq, g_check_complex, w1, w2, c1, c2]
theorem check_complex_large {x y : Rat} (h : big x = true ∨ big y = true) : f_check_complex [.fz (.tup [frD x, frD y])] = .exc ⟨"TooLarge", [("what", .str "figures")]⟩ [] := by
  have w1 := isn_fr x
  have w2 := isn_fr y
  rw [show f_check_complex = runDef (md.gam g_check_complex) ⟨1, b_check_complex⟩ from rfl, runDef_eq]
  simp only [b_check_complex, contsOf, slotsOf]
  obtain ⟨G, hG⟩ : ∃ G : Gam, G = { md.gam g_check_complex with io := ([] : List Cont).length } := ⟨_, rfl⟩
  have fns : G.fns = g_check_complex := by rw [hG]; rfl
  have io : G.io = 0 := by rw [hG]; rfl
  have con : G.con = md.con.map (·.2) := by rw [hG]; rfl
  have exq : G.exm = exmL md.exm := by rw [hG]; rfl
  have gq : g_check_complex = g_check_complex := rfl
  rw [← hG]
  cases hx : big x with
  | true =>
    have c1 := check_number_large hx
    simp [fns, io, gq, g_check_complex, w1, w2, c1]
  | false =>
    have c1 := check_number_ok hx
    have c2 := check_number_large (x := y) (by rcases h with h | h; · rw [hx] at h; cases h
                                               · exact h)
    simp [fns, io, gq, g_check_complex, w1, w2, c1, c2]
/-- what is no pair of numbers -/
theorem check_complex_bad2 {a b : D} {p q : Bool} (ha : f_is_number [.fz a] = .ok (.bl p) []) (hb : f_is_number [.fz b] = .ok (.bl q) []) (h : (p && q) = false) : f_check_complex [.fz (.tup [a, b])] = .exc ⟨"BadNumber", []⟩ [] := by
  rw [show f_check_complex = runDef (md.gam g_check_complex) ⟨1, b_check_complex⟩ from rfl, runDef_eq]
  simp only [b_check_complex, contsOf, slotsOf]
  obtain ⟨G, hG⟩ : ∃ G : Gam, G = { md.gam g_check_complex with io := ([] : List Cont).length } := ⟨_, rfl⟩
  have fns : G.fns = g_check_complex := by rw [hG]; rfl
  have io : G.io = 0 := by rw [hG]; rfl
  have con : G.con = md.con.map (·.2) := by rw [hG]; rfl
  have exq : G.exm = exmL md.exm := by rw [hG]; rfl
  have gq : g_check_complex = g_check_complex := rfl
  rw [← hG]
  cases p with
  | false => simp [fns, io, gq, g_check_complex, ha]
  | true =>
    cases q with
    | false => simp [fns, io, gq, g_check_complex, ha, hb]
    | true => cases h
theorem check_complex_bad {d : D} (h : okD d = true) (h2 : ∀ a b, d ≠ .tup [a, b]) : f_check_complex [.fz d] = .exc ⟨"BadNumber", []⟩ [] := by
  rw [show f_check_complex = runDef (md.gam g_check_complex) ⟨1, b_check_complex⟩ from rfl, runDef_eq]
  simp only [b_check_complex, contsOf, slotsOf]
  obtain ⟨G, hG⟩ : ∃ G : Gam, G = { md.gam g_check_complex with io := ([] : List Cont).length } := ⟨_, rfl⟩
  have fns : G.fns = g_check_complex := by rw [hG]; rfl
  have io : G.io = 0 := by rw [hG]; rfl
  have con : G.con = md.con.map (·.2) := by rw [hG]; rfl
  have exq : G.exm = exmL md.exm := by rw [hG]; rfl
  have gq : g_check_complex = g_check_complex := rfl
  rw [← hG]
  cases d with
  | dct _ _ => exact Bool.noConfusion (show false = true from h)
  | obj _ _ _ => exact Bool.noConfusion (show false = true from h)
  | tup ds =>
    match ds, h2 with
    | [], _ => simp [io]
    | [a], _ => simp [io]
    | a :: b :: c :: ds, _ =>
      have n3 : ¬ ((ds.length : Int) + 1 + 1 + 1 = 2) := by omega
      simp [io, n3]
    | [a, b], h2 => exact absurd rfl (h2 a b)
  | _ => simp [io]
end K00

/-! G2 -/
set_option Elab.async false
set_option linter.all false
set_option maxRecDepth 100000
set_option maxHeartbeats 4000000
namespace K00
open PySem PD L2 FR
@[simp] theorem opposite_ok (x : Rat) : f_opposite [.fz (frD x)] = .ok (frD (-x)) [] := by
  rw [show f_opposite = runDef (md.gam g_opposite) ⟨1, b_opposite⟩ from rfl, runDef_eq]
  simp only [b_opposite, contsOf, slotsOf]
  obtain ⟨G, hG⟩ : ∃ G : Gam, G = { md.gam g_opposite with io := ([] : List Cont).length } := ⟨_, rfl⟩
  have fns : G.fns = g_opposite := by rw [hG]; rfl
  have io : G.io = 0 := by rw [hG]; rfl
  have con : G.con = md.con.map (·.2) := by rw [hG]; rfl
  have exq : G.exm = exmL md.exm := by rw [hG]; rfl
  have gq : g_opposite = g_opposite := rfl
  rw [← hG]
  simp [io, fr0, fr1]
  rfl
@[simp] theorem lneg_ok (x : Rat) : f_law_neg [.fz (frD x)] = .ok (frD (-x)) [] := by
  rw [show f_law_neg = runDef (md.gam g_law_neg) ⟨1, b_law_neg⟩ from rfl, runDef_eq]
  simp only [b_law_neg, contsOf, slotsOf]
  obtain ⟨G, hG⟩ : ∃ G : Gam, G = { md.gam g_law_neg with io := ([] : List Cont).length } := ⟨_, rfl⟩
  have fns : G.fns = g_law_neg := by rw [hG]; rfl
  have io : G.io = 0 := by rw [hG]; rfl
  have con : G.con = md.con.map (·.2) := by rw [hG]; rfl
  have exq : G.exm = exmL md.exm := by rw [hG]; rfl
  have gq : g_law_neg = g_law_neg := rfl
  rw [← hG]
  simp [io, fr0, fr1]
  rfl
theorem size_of_ok (x : Rat) : f_size_of [.fz (frD x)] = .ok (.tup [.int (x.num.natAbs : Int), .int (x.den : Int)]) [] := by
  rw [show f_size_of = runDef (md.gam g_size_of) ⟨1, b_size_of⟩ from rfl, runDef_eq]
  simp only [b_size_of, contsOf, slotsOf]
  obtain ⟨G, hG⟩ : ∃ G : Gam, G = { md.gam g_size_of with io := ([] : List Cont).length } := ⟨_, rfl⟩
  have fns : G.fns = g_size_of := by rw [hG]; rfl
  have io : G.io = 0 := by rw [hG]; rfl
  have con : G.con = md.con.map (·.2) := by rw [hG]; rfl
  have exq : G.exm = exmL md.exm := by rw [hG]; rfl
  have gq : g_size_of = g_size_of := rfl
  rw [← hG]
  simp [io, fr0, fr1, abs_nat]
/-- the sign of a whole number -/
def sg (z : Int) : Int := if z < 0 then -1 else if 0 < z then 1 else 0
theorem sign_of_ok {z : Int} {d : D} : f_sign_of [.fz (.tup [.int z, d])] = .ok (.int (sg z)) [] := by
  rw [show f_sign_of = runDef (md.gam g_sign_of) ⟨1, b_sign_of⟩ from rfl, runDef_eq]
  simp only [b_sign_of, contsOf, slotsOf]
  obtain ⟨G, hG⟩ : ∃ G : Gam, G = { md.gam g_sign_of with io := ([] : List Cont).length } := ⟨_, rfl⟩
  have fns : G.fns = g_sign_of := by rw [hG]; rfl
  have io : G.io = 0 := by rw [hG]; rfl
  have con : G.con = md.con.map (·.2) := by rw [hG]; rfl
  have exq : G.exm = exmL md.exm := by rw [hG]; rfl
  have gq : g_sign_of = g_sign_of := rfl
  rw [← hG]
  unfold sg
  by_cases h : z < 0
  · simp [io, h]
  · by_cases h2 : 0 < z <;> simp [io, h, h2]
/-- x less y, by the law's own product -/
def cr (x y : Rat) : Int := x.num * (y.den : Int) - y.num * (x.den : Int)
theorem mok_nd {x y : Rat} (hx : Sz NB x) (hy : Sz NB y) : mok x.num (y.den : Int) = true := mok_of hx.n (by rw [Int.natAbs_natCast]; exact hy.d) (by decide)
theorem compared_ok {x y : Rat} (hx : Sz NB x) (hy : Sz NB y) : f_compared [.fz (frD x), .fz (frD y)] = .ok (.int (sg (cr x y))) [] := by
  have m1 := mok_nd hx hy
  have m2 := mok_nd hy hx
  have s := sign_of_ok (z := cr x y) (d := .int 1)
  unfold cr at s ⊢
  rw [show f_compared = runDef (md.gam g_compared) ⟨2, b_compared⟩ from rfl, runDef_eq]
  simp only [b_compared, contsOf, slotsOf]
  obtain ⟨G, hG⟩ : ∃ G : Gam, G = { md.gam g_compared with io := ([] : List Cont).length } := ⟨_, rfl⟩
  have fns : G.fns = g_compared := by rw [hG]; rfl
  have io : G.io = 0 := by rw [hG]; rfl
  have con : G.con = md.con.map (·.2) := by rw [hG]; rfl
  have exq : G.exm = exmL md.exm := by rw [hG]; rfl
  have gq : g_compared = g_compared := rfl
  rw [← hG]
  simp [fns, gq, g_compared, io, fr0, fr1, bopS_mul m1, bopS_mul m2, s]
theorem less_ok {x y : Rat} (hx : Sz NB x) (hy : Sz NB y) : f_law_less [.fz (frD x), .fz (frD y)] = .ok (.bl (decide (cr x y < 0))) [] := by
  have m1 := mok_nd hx hy
  have m2 := mok_nd hy hx
  have e : decide (cr x y < 0) = decide (x.num * (y.den : Int) < y.num * (x.den : Int)) := by
    unfold cr
    exact decide_eq_decide.mpr (by omega)
  rw [e]
  rw [show f_law_less = runDef (md.gam g_law_less) ⟨2, b_law_less⟩ from rfl, runDef_eq]
  simp only [b_law_less, contsOf, slotsOf]
  obtain ⟨G, hG⟩ : ∃ G : Gam, G = { md.gam g_law_less with io := ([] : List Cont).length } := ⟨_, rfl⟩
  have fns : G.fns = g_law_less := by rw [hG]; rfl
  have io : G.io = 0 := by rw [hG]; rfl
  have con : G.con = md.con.map (·.2) := by rw [hG]; rfl
  have exq : G.exm = exmL md.exm := by rw [hG]; rfl
  have gq : g_law_less = g_law_less := rfl
  rw [← hG]
  simp [io, fr0, fr1, bopS_mul m1, bopS_mul m2]
theorem lesser_ok {x y : Rat} (hx : Sz NB x) (hy : Sz NB y) : f_lesser [.fz (frD x), .fz (frD y)] = .ok (frD (if sg (cr x y) ≤ 0 then x else y)) [] := by
  have c := compared_ok hx hy
  rw [show f_lesser = runDef (md.gam g_lesser) ⟨2, b_lesser⟩ from rfl, runDef_eq]
  simp only [b_lesser, contsOf, slotsOf]
  obtain ⟨G, hG⟩ : ∃ G : Gam, G = { md.gam g_lesser with io := ([] : List Cont).length } := ⟨_, rfl⟩
  have fns : G.fns = g_lesser := by rw [hG]; rfl
  have io : G.io = 0 := by rw [hG]; rfl
  have con : G.con = md.con.map (·.2) := by rw [hG]; rfl
  have exq : G.exm = exmL md.exm := by rw [hG]; rfl
  have gq : g_lesser = g_lesser := rfl
  rw [← hG]
  by_cases h : sg (cr x y) ≤ 0 <;> simp [fns, gq, g_lesser, io, c, h]
theorem greater_ok {x y : Rat} (hx : Sz NB x) (hy : Sz NB y) : f_greater [.fz (frD x), .fz (frD y)] = .ok (frD (if 0 ≤ sg (cr x y) then x else y)) [] := by
  have c := compared_ok hx hy
  rw [show f_greater = runDef (md.gam g_greater) ⟨2, b_greater⟩ from rfl, runDef_eq]
  simp only [b_greater, contsOf, slotsOf]
  obtain ⟨G, hG⟩ : ∃ G : Gam, G = { md.gam g_greater with io := ([] : List Cont).length } := ⟨_, rfl⟩
  have fns : G.fns = g_greater := by rw [hG]; rfl
  have io : G.io = 0 := by rw [hG]; rfl
  have con : G.con = md.con.map (·.2) := by rw [hG]; rfl
  have exq : G.exm = exmL md.exm := by rw [hG]; rfl
  have gq : g_greater = g_greater := rfl
  rw [← hG]
  by_cases h : 0 ≤ sg (cr x y) <;> simp [fns, gq, g_greater, io, c, h]
/-! ### powers -/
def rp (x : Rat) : Nat → Rat
  | 0 => 1
  | k + 1 => rp x k * x
theorem rp_add (x : Rat) (a : Nat) : ∀ b, rp x (a + b) = rp x a * rp x b
  | 0 => by rw [Nat.add_zero, show rp x 0 = 1 from rfl, Rat.mul_one]
  | b + 1 => by
    show rp x (a + b) * x = rp x a * (rp x b * x)
    rw [rp_add x a b, Rat.mul_assoc]
theorem rp_qz {x : Rat} {W N : Nat} (hW : W ≠ 0) (h : Qz W N x) : ∀ k, Qz (W ^ k) (k * N + 1) (rp x k)
  | 0 => Qz.one _ (by omega)
  | k + 1 => by
    have q := Qz.mul (pow_nz k hW) hW (rp_qz hW h k) h
    rw [← Nat.pow_succ] at q
    exact q.up (by rw [Nat.add_mul]; omega)
theorem powered_ok {x : Rat} {K : Nat} (hK : K < 1000) (hs : ∀ j ≤ K, Sz NB (rp x j)) (h1 : Sz NB x) : f_powered [.fz (frD x), .fz (.int K)] = .ok (frD (rp x K)) [] := by
  rw [show f_powered = runDef (md.gam g_powered) ⟨4, b_powered⟩ from rfl, runDef_eq]
  simp only [b_powered, contsOf, slotsOf]
  obtain ⟨G, hG⟩ : ∃ G : Gam, G = { md.gam g_powered with io := ([] : List Cont).length } := ⟨_, rfl⟩
  have fns : G.fns = g_powered := by rw [hG]; rfl
  have io : G.io = 0 := by rw [hG]; rfl
  have con : G.con = md.con.map (·.2) := by rw [hG]; rfl
  have exq : G.exm = exmL md.exm := by rw [hG]; rfl
  have gq : g_powered = g_powered := rfl
  rw [← hG]
  have c1 : G.con[1]? = some (frD 1) := by rw [con]; rfl
  have wh := while_down (c := ev G (.cmp .gt (.var 1) (.lit (.int 0)))) (body := exs G (.cons (.if_ (.cmp .eq (.bin .mod (.var 1) (.lit (.int 2))) (.lit (.int 1))) (.cons (.asg (.nm 2) (.call 0 (.cons (.var 2) (.cons (.var 3) .nil)))) .nil) .nil) (.cons (.asg (.nm 1) (.bin .fdv (.var 1) (.lit (.int 2)))) (.cons (.if_ (.cmp .gt (.var 1) (.lit (.int 0))) (.cons (.asg (.nm 3) (.call 0 (.cons (.var 3) (.cons (.var 3) .nil)))) .nil) .nil) .nil))))
    (fun k ρ st => ∃ (a b : Nat) (s : Rat), a + b * k = K ∧ (0 < k → s = rp x b) ∧ st = [] ∧ ρ = [some (.fz (frD x)), some (.fz (.int k)), some (.fz (frD (rp x a))), some (.fz (frD s))])
    (fun ρ st => ∃ s k, st = [] ∧ ρ = [some (.fz (frD x)), k, some (.fz (frD (rp x K))), s])
    (fun k ρ st ⟨a, b, s, hk, hs2, e1, e2⟩ => by
      subst e1 e2
      by_cases h0 : k = 0
      · subst h0
        have : a = K := by omega
        subst this
        exact .inl ⟨by simp, _, _, rfl, rfl⟩
      · have hk0 : 0 < k := by omega
        have hs2 := hs2 hk0
        subst hs2
        refine .inr ⟨by simp [hk0], k / 2, ?_⟩
        have md : bopS .mod (.int (k : Int)) (.int 2) = .d (.int ((k % 2 : Nat) : Int)) := by
          rw [bopS_mod (by decide), Int.fmod_eq_emod_of_nonneg _ (by decide)]
          rfl
        have fd : bopS .fdv (.int (k : Int)) (.int 2) = .d (.int ((k / 2 : Nat) : Int)) := by
          rw [bopS_fdv (by decide) (pyl_of (by decide +kernel)), Int.fdiv_eq_ediv_of_nonneg _ (by decide)]
          rfl
        have kk : k = 2 * (k / 2) + k % 2 := by omega
        have bk : b * k = (b + b) * (k / 2) + b * (k % 2) := by
          conv => lhs; rw [kk]
          rw [Nat.mul_add, ← Nat.mul_assoc, Nat.mul_two]
        have bb : b ≤ b * k := Nat.le_mul_of_pos_right b hk0
        have p2 : 0 < k / 2 → f_product_of [.fz (frD (rp x b)), .fz (frD (rp x b))] = .ok (frD (rp x (b + b))) [] := fun h => by
          have : b + b ≤ (b + b) * (k / 2) := Nat.le_mul_of_pos_right _ h
          rw [rp_add]
          exact product_ok (hs b (by omega)) (hs b (by omega))
        have half : ¬ ((k / 2 : Nat) : Int) = 0 ↔ 0 < k / 2 := by omega
        rcases Nat.mod_two_eq_zero_or_one k with hm | hm
        · rw [hm] at md bk
          rw [Nat.mul_zero, Nat.add_zero] at bk
          by_cases hh : 0 < k / 2
          · have p2' := p2 hh
            refine ⟨[some (.fz (frD x)), some (.fz (.int (k / 2 : Nat))), some (.fz (frD (rp x a))), some (.fz (frD (rp x (b + b))))], [], by omega, .inl ?_, a, b + b, rp x (b + b), by omega, fun _ => rfl, rfl, rfl⟩
            have hz : (0 : Int) < ((k / 2 : Nat) : Int) := by omega
            generalize ((k / 2 : Nat) : Int) = h2 at *
            simp [md, fd, hz, fns, gq, g_powered, io, p2']
          · exact absurd hh (by omega)
        · rw [hm] at md bk
          rw [Nat.mul_one] at bk
          have p1 : f_product_of [.fz (frD (rp x a)), .fz (frD (rp x b))] = .ok (frD (rp x (a + b))) [] := by
            rw [rp_add]
            exact product_ok (hs a (by omega)) (hs b (by omega))
          by_cases hh : 0 < k / 2
          · have p2' := p2 hh
            refine ⟨[some (.fz (frD x)), some (.fz (.int (k / 2 : Nat))), some (.fz (frD (rp x (a + b)))), some (.fz (frD (rp x (b + b))))], [], by omega, .inl ?_, a + b, b + b, rp x (b + b), by omega, fun _ => rfl, rfl, rfl⟩
            have hz : (0 : Int) < ((k / 2 : Nat) : Int) := by omega
            generalize ((k / 2 : Nat) : Int) = h2 at *
            simp [md, fd, hz, fns, gq, g_powered, io, p1, p2']
          · have h0' : k / 2 = 0 := by omega
            refine ⟨[some (.fz (frD x)), some (.fz (.int (k / 2 : Nat))), some (.fz (frD (rp x (a + b)))), some (.fz (frD (rp x b)))], [], by omega, .inl ?_, a + b, b + b, rp x b, by rw [h0'] at bk ⊢; omega, fun h => absurd h hh, rfl, rfl⟩
            rw [h0'] at fd ⊢
            simp [md, fd, fns, gq, g_powered, io, p1]) K [some (.fz (frD x)), some (.fz (.int K)), some (.fz (frD 1)), some (.fz (frD x))] [] ⟨0, 1, x, by omega, fun _ => (Rat.one_mul x).symm, rfl, rfl⟩
  obtain ⟨ρ', st', e, s, k, rfl, rfl⟩ := wh
  simp [c1]
  rw [e]
  simp [io]
/-! ### sums of rows -/
theorem sum_ok {f : Nat → Rat} {n : Nat} {d : D} (hd : d = .lst ((List.range n).map fun i => frD (f i)) ∨ d = .tup ((List.range n).map fun i => frD (f i))) (h1 : ∀ j < n, Sz NB (f j)) (h2 : ∀ j ≤ n, Sz NB (ps f j)) : f_sum_of [.fz d] = .ok (frD (ps f n)) [] := by
  rw [show f_sum_of = runDef (md.gam g_sum_of) ⟨3, b_sum_of⟩ from rfl, runDef_eq]
  simp only [b_sum_of, contsOf, slotsOf]
  obtain ⟨G, hG⟩ : ∃ G : Gam, G = { md.gam g_sum_of with io := ([] : List Cont).length } := ⟨_, rfl⟩
  have fns : G.fns = g_sum_of := by rw [hG]; rfl
  have io : G.io = 0 := by rw [hG]; rfl
  have con : G.con = md.con.map (·.2) := by rw [hG]; rfl
  have exq : G.exm = exmL md.exm := by rw [hG]; rfl
  have gq : g_sum_of = g_sum_of := rfl
  rw [← hG]
  have c0 : G.con[0]? = some (frD 0) := by rw [con]; rfl
  obtain ⟨ds, hds⟩ : ∃ ds, ds = (List.range n).map fun i => frD (f i) := ⟨_, rfl⟩
  have dl : ds.length = n := by rw [hds]; simp
  have dat : ∀ i, i < n → ds[i]? = some (frD (f i)) := fun i hi => by rw [hds]; simp [hi]
  rw [← hds] at hd
  have step : ∀ (i : Nat) (x : Option Val), i < n → fBody G (.nm 2) lp0_sum_of (frD (f i)) [some (.fz d), some (.fz (frD (ps f i))), x] [] = .nx [some (.fz d), some (.fz (frD (ps f (i + 1)))), some (.fz (frD (f i)))] [] := fun i x hi => by
    have p := plus_ok (h2 i (by omega)) (h1 i hi)
    have p' : f_plus [.fz (frD (ps f i)), .fz (frD (f i))] = .ok (frD (ps f (i + 1))) [] := p
    simp [lp0_sum_of, fns, gq, g_sum_of, io, p']
  rcases hd with rfl | rfl
  · have loop := for_all (I := .lst (.fz (.lst ds))) (body := fBody G (.nm 2) lp0_sum_of) (n := n) (fun i ρ st => st = [] ∧ ∃ x, ρ = [some (.fz (.lst ds)), some (.fz (frD (ps f i))), x]) (fun i ρ st _ _ => by simp [dl])
      (fun i ρ st hi ⟨e1, x, e2⟩ => by
        subst e1 e2
        exact ⟨frD (f i), by simp [dat i hi], _, _, .inl (step i x hi), rfl, _, rfl⟩) n 0 [some (.fz (.lst ds)), some (.fz (frD 0)), none] [] (by omega) ⟨rfl, _, rfl⟩
    obtain ⟨ρ', st', e, rfl, x, rfl⟩ := loop
    simp [c0, dl, e, io]
  · have loop := for_all (I := .tup ds) (body := fBody G (.nm 2) lp0_sum_of) (n := n) (fun i ρ st => st = [] ∧ ∃ x, ρ = [some (.fz (.tup ds)), some (.fz (frD (ps f i))), x]) (fun i ρ st _ _ => by simp [dl])
      (fun i ρ st hi ⟨e1, x, e2⟩ => by
        subst e1 e2
        exact ⟨frD (f i), by simp [dat i hi], _, _, .inl (step i x hi), rfl, _, rfl⟩) n 0 [some (.fz (.tup ds)), some (.fz (frD 0)), none] [] (by omega) ⟨rfl, _, rfl⟩
    obtain ⟨ρ', st', e, rfl, x, rfl⟩ := loop
    simp [c0, dl, e, io]
end K00

/-! G3 -/
set_option Elab.async false
set_option linter.all false
set_option maxRecDepth 100000
set_option maxHeartbeats 4000000
namespace K00
open PySem PD L2 FR
/-- a pair -/
def cD (a b : Rat) : D := .tup [frD a, frD b]
@[simp] theorem c0 (a b : Rat) : idxS (cD a b) (.int 0) = some (frD a) := by unfold cD; simp
@[simp] theorem c1 (a b : Rat) : idxS (cD a b) (.int 1) = some (frD b) := by unfold cD; simp
theorem told_ok {x : Rat} {N : Nat} (hx : Sz N x) (hN : N ≤ 4000000) : f_law_told [.fz (frD x), .fz (frD x)] = .ok (.bl true) [] := by
  have i := isfrac_ok hx hN
  rw [show f_law_told = runDef (md.gam g_law_told) ⟨2, b_law_told⟩ from rfl, runDef_eq]
  simp only [b_law_told, contsOf, slotsOf]
  obtain ⟨G, hG⟩ : ∃ G : Gam, G = { md.gam g_law_told with io := ([] : List Cont).length } := ⟨_, rfl⟩
  have fns : G.fns = g_law_told := by rw [hG]; rfl
  have io : G.io = 0 := by rw [hG]; rfl
  have con : G.con = md.con.map (·.2) := by rw [hG]; rfl
  have exq : G.exm = exmL md.exm := by rw [hG]; rfl
  have gq : g_law_told = g_law_told := rfl
  rw [← hG]
  simp [fns, gq, g_law_told, i, fr0, fr1, io]
theorem is_pair_ok {x y : Rat} {N : Nat} (hx : Sz N x) (hy : Sz N y) (hN : N ≤ 4000000) : f_law_is_pair [.fz (cD x y), .fz (cD x y)] = .ok (.bl true) [] := by
  have i := told_ok hx hN
  have j := told_ok hy hN
  unfold cD
  rw [show f_law_is_pair = runDef (md.gam g_law_is_pair) ⟨2, b_law_is_pair⟩ from rfl, runDef_eq]
  simp only [b_law_is_pair, contsOf, slotsOf]
  obtain ⟨G, hG⟩ : ∃ G : Gam, G = { md.gam g_law_is_pair with io := ([] : List Cont).length } := ⟨_, rfl⟩
  have fns : G.fns = g_law_is_pair := by rw [hG]; rfl
  have io : G.io = 0 := by rw [hG]; rfl
  have con : G.con = md.con.map (·.2) := by rw [hG]; rfl
  have exq : G.exm = exmL md.exm := by rw [hG]; rfl
  have gq : g_law_is_pair = g_law_is_pair := rfl
  rw [← hG]
  simp [fns, gq, g_law_is_pair, i, j, io]
/-- what a sum or product of pairs wants -/
structure CSz (a b c d : Rat) : Prop where
  a_ : Sz NB a
  b_ : Sz NB b
  c_ : Sz NB c
  d_ : Sz NB d
  ac : Sz NB (a * c)
  bd : Sz NB (b * d)
  ad : Sz NB (a * d)
  bc : Sz NB (b * c)
theorem complex_plus_ok {a b c d : Rat} (z : CSz a b c d) : f_complex_plus [.fz (cD a b), .fz (cD c d)] = .ok (cD (a + c) (b + d)) [] := by
  have p := plus_ok z.a_ z.c_
  have q := plus_ok z.b_ z.d_
  rw [show f_complex_plus = runDef (md.gam g_complex_plus) ⟨2, b_complex_plus⟩ from rfl, runDef_eq]
  simp only [b_complex_plus, contsOf, slotsOf]
  obtain ⟨G, hG⟩ : ∃ G : Gam, G = { md.gam g_complex_plus with io := ([] : List Cont).length } := ⟨_, rfl⟩
  have fns : G.fns = g_complex_plus := by rw [hG]; rfl
  have io : G.io = 0 := by rw [hG]; rfl
  have con : G.con = md.con.map (·.2) := by rw [hG]; rfl
  have exq : G.exm = exmL md.exm := by rw [hG]; rfl
  have gq : g_complex_plus = g_complex_plus := rfl
  rw [← hG]
  simp [fns, gq, g_complex_plus, p, q, io]
  rfl
theorem complex_times_ok {a b c d : Rat} (z : CSz a b c d) : f_complex_times [.fz (cD a b), .fz (cD c d)] = .ok (cD (a * c - b * d) (a * d + b * c)) [] := by
  have p1 := product_ok z.a_ z.c_
  have p2 := product_ok z.b_ z.d_
  have p3 := product_ok z.a_ z.d_
  have p4 := product_ok z.b_ z.c_
  have q1 := minus_ok z.ac z.bd
  have q2 := plus_ok z.ad z.bc
  rw [show f_complex_times = runDef (md.gam g_complex_times) ⟨2, b_complex_times⟩ from rfl, runDef_eq]
  simp only [b_complex_times, contsOf, slotsOf]
  obtain ⟨G, hG⟩ : ∃ G : Gam, G = { md.gam g_complex_times with io := ([] : List Cont).length } := ⟨_, rfl⟩
  have fns : G.fns = g_complex_times := by rw [hG]; rfl
  have io : G.io = 0 := by rw [hG]; rfl
  have con : G.con = md.con.map (·.2) := by rw [hG]; rfl
  have exq : G.exm = exmL md.exm := by rw [hG]; rfl
  have gq : g_complex_times = g_complex_times := rfl
  rw [← hG]
  simp [fns, gq, g_complex_times, p1, p2, p3, p4, q1, q2, io]
  rfl
theorem size_squared_ok {c d : Rat} (hc : Sz NB c) (hd : Sz NB d) (hcc : Sz NB (c * c)) (hdd : Sz NB (d * d)) : f_size_squared [.fz (cD c d)] = .ok (frD (c * c + d * d)) [] := by
  have p1 := product_ok hc hc
  have p2 := product_ok hd hd
  have q1 := plus_ok hcc hdd
  rw [show f_size_squared = runDef (md.gam g_size_squared) ⟨1, b_size_squared⟩ from rfl, runDef_eq]
  simp only [b_size_squared, contsOf, slotsOf]
  obtain ⟨G, hG⟩ : ∃ G : Gam, G = { md.gam g_size_squared with io := ([] : List Cont).length } := ⟨_, rfl⟩
  have fns : G.fns = g_size_squared := by rw [hG]; rfl
  have io : G.io = 0 := by rw [hG]; rfl
  have con : G.con = md.con.map (·.2) := by rw [hG]; rfl
  have exq : G.exm = exmL md.exm := by rw [hG]; rfl
  have gq : g_size_squared = g_size_squared := rfl
  rw [← hG]
  simp [fns, gq, g_size_squared, p1, p2, q1, io]
theorem over_bad {x : Rat} {d : D} : f_over [.fz d, .fz (frD 0)] = .exc ⟨"BadNumber", []⟩ [] := by
  rw [show f_over = runDef (md.gam g_over) ⟨2, b_over⟩ from rfl, runDef_eq]
  simp only [b_over, contsOf, slotsOf]
  obtain ⟨G, hG⟩ : ∃ G : Gam, G = { md.gam g_over with io := ([] : List Cont).length } := ⟨_, rfl⟩
  have fns : G.fns = g_over := by rw [hG]; rfl
  have io : G.io = 0 := by rw [hG]; rfl
  have con : G.con = md.con.map (·.2) := by rw [hG]; rfl
  have exq : G.exm = exmL md.exm := by rw [hG]; rfl
  have gq : g_over = g_over := rfl
  rw [← hG]
  have h : idxS (frD 0) (.int 0) = some (.int 0) := fr0 0
  simp [fns, gq, g_over, h, io]
theorem complex_over_bad {a b c d : Rat} (hc : Sz NB c) (hd : Sz NB d) (hcc : Sz NB (c * c)) (hdd : Sz NB (d * d)) (h0 : c * c + d * d = 0) : f_complex_over [.fz (cD a b), .fz (cD c d)] = .exc ⟨"BadNumber", []⟩ [] := by
  have s := size_squared_ok hc hd hcc hdd
  rw [h0] at s
  rw [show f_complex_over = runDef (md.gam g_complex_over) ⟨4, b_complex_over⟩ from rfl, runDef_eq]
  simp only [b_complex_over, contsOf, slotsOf]
  obtain ⟨G, hG⟩ : ∃ G : Gam, G = { md.gam g_complex_over with io := ([] : List Cont).length } := ⟨_, rfl⟩
  have fns : G.fns = g_complex_over := by rw [hG]; rfl
  have io : G.io = 0 := by rw [hG]; rfl
  have con : G.con = md.con.map (·.2) := by rw [hG]; rfl
  have exq : G.exm = exmL md.exm := by rw [hG]; rfl
  have gq : g_complex_over = g_complex_over := rfl
  rw [← hG]
  have h : idxS (frD 0) (.int 0) = some (.int 0) := fr0 0
  simp [fns, gq, g_complex_over, s, h, io]
theorem complex_over_ok {a b c d : Rat} (z : CSz a b c (-d)) (hd : Sz NB d) (hcc : Sz NB (c * c)) (hdd : Sz NB (d * d)) (hs : Sz NB (c * c + d * d)) (h0 : c * c + d * d ≠ 0) (hn : (c * c + d * d).num.natAbs < 2 ^ 4500)
    (hr : Sz NB (a * c - b * (-d))) (ho : Sz NB (a * (-d) + b * c)) :
    f_complex_over [.fz (cD a b), .fz (cD c d)] = .ok (cD ((a * c - b * (-d)) / (c * c + d * d)) ((a * (-d) + b * c) / (c * c + d * d))) [] := by
  have s := size_squared_ok z.c_ hd hcc hdd
  have t := complex_times_ok z
  have o1 := over_ok hr hs h0 hn
  have o2 := over_ok ho hs h0 hn
  have n0 : (c * c + d * d).num ≠ 0 := fun w => h0 (Rat.num_eq_zero.mp w)
  have t' : f_complex_times [.fz (cD a b), .fz (.tup [frD c, frD (-d)])] = .ok (cD (a * c - b * (-d)) (a * (-d) + b * c)) [] := t
  generalize a * c - b * (-d) = re at *
  generalize a * (-d) + b * c = im at *
  generalize c * c + d * d = sz at *
  rw [show f_complex_over = runDef (md.gam g_complex_over) ⟨4, b_complex_over⟩ from rfl, runDef_eq]
  simp only [b_complex_over, contsOf, slotsOf]
  obtain ⟨G, hG⟩ : ∃ G : Gam, G = { md.gam g_complex_over with io := ([] : List Cont).length } := ⟨_, rfl⟩
  have fns : G.fns = g_complex_over := by rw [hG]; rfl
  have io : G.io = 0 := by rw [hG]; rfl
  have con : G.con = md.con.map (·.2) := by rw [hG]; rfl
  have exq : G.exm = exmL md.exm := by rw [hG]; rfl
  have gq : g_complex_over = g_complex_over := rfl
  rw [← hG]
  simp [fns, gq, g_complex_over, s, fr0, n0, t', o1, o2, io]
  rfl
/-! ### asking -/
def lstA : List Str := ["BadPoly", "BadMatrix", "BadWord", "BadLink", "BadRule", "BadRow", "BadRelation", "BadName", "NotNilpotent"]
def lstB : List Str := ["LowOrder", "MixedRow", "BadText", "Pole", "Unknown"]
theorem hTA : hitS (exmL md.exm) "TooLarge" ["BadPoly", "BadMatrix", "BadWord", "BadLink", "BadRule", "BadRow", "BadRelation", "BadName", "NotNilpotent"] = some false := by decide +kernel
theorem hTB : hitS (exmL md.exm) "TooLarge" ["LowOrder", "MixedRow", "BadText", "Pole", "Unknown"] = some false := by decide +kernel
theorem hTT : hitS (exmL md.exm) "TooLarge" ["TooLarge"] = some true := by decide +kernel
theorem hNA : hitS (exmL md.exm) "BadNumber" ["BadPoly", "BadMatrix", "BadWord", "BadLink", "BadRule", "BadRow", "BadRelation", "BadName", "NotNilpotent"] = some false := by decide +kernel
theorem hNB : hitS (exmL md.exm) "BadNumber" ["LowOrder", "MixedRow", "BadText", "Pole", "Unknown"] = some false := by decide +kernel
theorem hNT : hitS (exmL md.exm) "BadNumber" ["TooLarge"] = some false := by decide +kernel
theorem hNN : hitS (exmL md.exm) "BadNumber" ["BadNumber"] = some true := by decide +kernel
theorem xTR : isxS (exmL md.exm) "TooLarge" ["RunsError"] = some true := by decide +kernel
theorem xTN : isxS (exmL md.exm) "TooLarge" ["BadNumber"] = some false := by decide +kernel
theorem xNR : isxS (exmL md.exm) "BadNumber" ["RunsError"] = some true := by decide +kernel
theorem vNV : exvL md.exv "BadNumber" "ValueError" = some true := by decide +kernel
theorem lkw {w : D} : List.lookup ("what" : Str) [(("what" : Str), w)] = some w := by
  unfold List.lookup
  rw [show (("what" : Str) == "what") = true by decide +kernel]
/-- the clauses -/
abbrev hsA : Hds := (.cons ["BadPoly", "BadMatrix", "BadWord", "BadLink", "BadRule", "BadRow", "BadRelation", "BadName", "NotNilpotent"] true none (.cons (.asg (.nm 3) (.tup (.cons (.lit (.str "odd")) .nil))) .nil) (.cons ["LowOrder", "MixedRow", "BadText", "Pole", "Unknown"] true none (.cons (.asg (.nm 3) (.tup (.cons (.lit (.str "odd")) .nil))) .nil) (.cons ["TooLarge"] false (some 4) (.cons (.asg (.nm 3) (.tup (.cons (.lit (.str "large")) (.cons (.xfld 4 "what") (.cons (.and_ (.isx 4 ["RunsError"] false) (.not_ (.isx 4 ["BadNumber"] false))) .nil))))) .nil) (.cons ["BadNumber"] false (some 4) (.cons (.asg (.nm 3) (.tup (.cons (.lit (.str "bad")) (.cons (.and_ (.isx 4 ["RunsError"] false) (.isv 4 "ValueError")) .nil)))) .nil) .nil))))
theorem hs_large {G : Gam} (exq : G.exm = exmL md.exm) (xf : G.xfl "TooLarge" "what" = true) (io : G.io = 0) {x0 x1 x2 : D} {o3 o4 : Option Val} {st : Store} :
    exh G hsA ⟨"TooLarge", [("what", .str "figures")]⟩ [some (.fz x0), some (.fz x1), some (.fz x2), o3, o4] st = .nx [some (.fz x0), some (.fz x1), some (.fz x2), some (.fz (.tup [.str "large", .str "figures", .bl true])), none] st := by
  have m1 : hitS G.exm (XD.cls ⟨"TooLarge", [("what", .str "figures")]⟩) ["BadPoly", "BadMatrix", "BadWord", "BadLink", "BadRule", "BadRow", "BadRelation", "BadName", "NotNilpotent"] = some false := by rw [exq]; exact hTA
  have m2 : hitS G.exm (XD.cls ⟨"TooLarge", [("what", .str "figures")]⟩) ["LowOrder", "MixedRow", "BadText", "Pole", "Unknown"] = some false := by rw [exq]; exact hTB
  have m3 : hitS G.exm (XD.cls ⟨"TooLarge", [("what", .str "figures")]⟩) ["TooLarge"] = some true := by rw [exq]; exact hTT
  rw [exh_miss m1, exh_miss m2, exh_hit m3]
  have b : begH (some 4) ⟨"TooLarge", [("what", .str "figures")]⟩ [some (.fz x0), some (.fz x1), some (.fz x2), o3, o4] = [some (.fz x0), some (.fz x1), some (.fz x2), o3, some (.exn ⟨"TooLarge", [("what", .str "figures")]⟩)] := rfl
  rw [b]
  have e : exs G (.cons (.asg (.nm 3) (.tup (.cons (.lit (.str "large")) (.cons (.xfld 4 "what") (.cons (.and_ (.isx 4 ["RunsError"] false) (.not_ (.isx 4 ["BadNumber"] false))) .nil))))) .nil) [some (.fz x0), some (.fz x1), some (.fz x2), o3, some (.exn ⟨"TooLarge", [("what", .str "figures")]⟩)] st = .nx [some (.fz x0), some (.fz x1), some (.fz x2), some (.fz (.tup [.str "large", .str "figures", .bl true])), some (.exn ⟨"TooLarge", [("what", .str "figures")]⟩)] st := by
    rw [exs_cons, ex_asg, ev_tup, evs_cons]
    simp only [ev_lit, Res.bind_ok', kEvs_eq, evs_cons]
    rw [ev_xfld (y := ⟨"TooLarge", [("what", .str "figures")]⟩) (by rfl) xf, lkw]
    simp only [pick_some', Res.bind_ok', kEvs_eq, evs_cons, ev_and]
    rw [ev_isx (y := ⟨"TooLarge", [("what", .str "figures")]⟩) (by rfl), exq, xTR]
    simp only [pick_some', Res.bind_ok', kAnd_eq, if_true, ev_not]
    rw [ev_isx (y := ⟨"TooLarge", [("what", .str "figures")]⟩) (by rfl), exq, xTN]
    simp [io]
  rw [e]
  exact endH_nx rfl
theorem hs_bad {G : Gam} (exq : G.exm = exmL md.exm) (exv : G.exv = exvL md.exv) (io : G.io = 0) {x0 x1 x2 : D} {o3 o4 : Option Val} {st : Store} :
    exh G hsA ⟨"BadNumber", []⟩ [some (.fz x0), some (.fz x1), some (.fz x2), o3, o4] st = .nx [some (.fz x0), some (.fz x1), some (.fz x2), some (.fz (.tup [.str "bad", .bl true])), none] st := by
  have m1 : hitS G.exm (XD.cls ⟨"BadNumber", []⟩) ["BadPoly", "BadMatrix", "BadWord", "BadLink", "BadRule", "BadRow", "BadRelation", "BadName", "NotNilpotent"] = some false := by rw [exq]; exact hNA
  have m2 : hitS G.exm (XD.cls ⟨"BadNumber", []⟩) ["LowOrder", "MixedRow", "BadText", "Pole", "Unknown"] = some false := by rw [exq]; exact hNB
  have m3 : hitS G.exm (XD.cls ⟨"BadNumber", []⟩) ["TooLarge"] = some false := by rw [exq]; exact hNT
  have m4 : hitS G.exm (XD.cls ⟨"BadNumber", []⟩) ["BadNumber"] = some true := by rw [exq]; exact hNN
  rw [exh_miss m1, exh_miss m2, exh_miss m3, exh_hit m4]
  have b : begH (some 4) ⟨"BadNumber", []⟩ [some (.fz x0), some (.fz x1), some (.fz x2), o3, o4] = [some (.fz x0), some (.fz x1), some (.fz x2), o3, some (.exn ⟨"BadNumber", []⟩)] := rfl
  rw [b]
  have e : exs G (.cons (.asg (.nm 3) (.tup (.cons (.lit (.str "bad")) (.cons (.and_ (.isx 4 ["RunsError"] false) (.isv 4 "ValueError")) .nil)))) .nil) [some (.fz x0), some (.fz x1), some (.fz x2), o3, some (.exn ⟨"BadNumber", []⟩)] st = .nx [some (.fz x0), some (.fz x1), some (.fz x2), some (.fz (.tup [.str "bad", .bl true])), some (.exn ⟨"BadNumber", []⟩)] st := by
    rw [exs_cons, ex_asg, ev_tup, evs_cons]
    simp only [ev_lit, Res.bind_ok', kEvs_eq, evs_cons, ev_and]
    rw [ev_isx (y := ⟨"BadNumber", []⟩) (by rfl), exq, xNR]
    simp only [pick_some', Res.bind_ok', kAnd_eq, if_true]
    rw [ev_isv (y := ⟨"BadNumber", []⟩) (by rfl), exv, vNV]
    simp [io]
  rw [e]
  exact endH_nx rfl
/-- what a door tells -/
inductive O where | told (d : D) | bad | large
def frO : O → FRes
  | .told d => .ok d []
  | .bad => .exc ⟨"BadNumber", []⟩ []
  | .large => .exc ⟨"TooLarge", [("what", .str "figures")]⟩ []
def asO : O → D
  | .told d => .tup [.str "told", d]
  | .bad => .tup [.str "bad", .bl true]
  | .large => .tup [.str "large", .str "figures", .bl true]
theorem asked_fraction {a b : D} {o : O} (h : f_fraction [.fz a, .fz b] = frO o) : f_law_asked [.fz (.str "fraction"), .fz a, .fz b] = .ok (asO o) [] := by
  rw [show f_law_asked = runDef (md.gam g_law_asked) ⟨5, b_law_asked⟩ from rfl, runDef_eq]
  simp only [b_law_asked, contsOf, slotsOf]
  obtain ⟨G, hG⟩ : ∃ G : Gam, G = { md.gam g_law_asked with io := ([] : List Cont).length } := ⟨_, rfl⟩
  have fns : G.fns = g_law_asked := by rw [hG]; rfl
  have io : G.io = 0 := by rw [hG]; rfl
  have con : G.con = md.con.map (·.2) := by rw [hG]; rfl
  have exq : G.exm = exmL md.exm := by rw [hG]; rfl
  have gq : g_law_asked = g_law_asked := rfl
  rw [← hG]
  have exv : G.exv = exvL md.exv := by rw [hG]; rfl
  have xf : G.xfl "TooLarge" "what" = true := by rw [hG]; decide +kernel
  cases o with
  | told d =>
    have h' : f_fraction [.fz a, .fz b] = .ok d [] := h
    simp [fns, io, gq, g_law_asked, h']
    rfl
  | bad =>
    have h' : f_fraction [.fz a, .fz b] = .exc ⟨"BadNumber", []⟩ [] := h
    simp [fns, io, gq, g_law_asked, h']
    rw [hs_bad exq exv io]
    simp [io]
    rfl
  | large =>
    have h' : f_fraction [.fz a, .fz b] = .exc ⟨"TooLarge", [("what", .str "figures")]⟩ [] := h
    simp [fns, io, gq, g_law_asked, h']
    rw [hs_large exq xf io]
    simp [io]
    rfl
theorem q_whole_fraction : (("whole" : Str) == "fraction") = false := by decide +kernel
theorem asked_whole {a b : D} {o : O} (h : f_fraction [.fz a, .fz (.int 1)] = frO o) : f_law_asked [.fz (.str "whole"), .fz a, .fz b] = .ok (asO o) [] := by
  rw [show f_law_asked = runDef (md.gam g_law_asked) ⟨5, b_law_asked⟩ from rfl, runDef_eq]
  simp only [b_law_asked, contsOf, slotsOf]
  obtain ⟨G, hG⟩ : ∃ G : Gam, G = { md.gam g_law_asked with io := ([] : List Cont).length } := ⟨_, rfl⟩
  have fns : G.fns = g_law_asked := by rw [hG]; rfl
  have io : G.io = 0 := by rw [hG]; rfl
  have con : G.con = md.con.map (·.2) := by rw [hG]; rfl
  have exq : G.exm = exmL md.exm := by rw [hG]; rfl
  have gq : g_law_asked = g_law_asked := rfl
  rw [← hG]
  have exv : G.exv = exvL md.exv := by rw [hG]; rfl
  have xf : G.xfl "TooLarge" "what" = true := by rw [hG]; decide +kernel
  cases o with
  | told d =>
    have h' : f_fraction [.fz a, .fz (.int 1)] = .ok d [] := h
    simp [fns, io, gq, g_law_asked, h', q_whole_fraction]
    rfl
  | bad =>
    have h' : f_fraction [.fz a, .fz (.int 1)] = .exc ⟨"BadNumber", []⟩ [] := h
    simp [fns, io, gq, g_law_asked, h', q_whole_fraction]
    rw [hs_bad exq exv io]
    simp [io]
    rfl
  | large =>
    have h' : f_fraction [.fz a, .fz (.int 1)] = .exc ⟨"TooLarge", [("what", .str "figures")]⟩ [] := h
    simp [fns, io, gq, g_law_asked, h', q_whole_fraction]
    rw [hs_large exq xf io]
    simp [io]
    rfl
theorem q_number_fraction : (("number" : Str) == "fraction") = false := by decide +kernel
theorem q_number_whole : (("number" : Str) == "whole") = false := by decide +kernel
theorem asked_number {a b : D} {o : O} (h : f_check_number [.fz a] = frO o) : f_law_asked [.fz (.str "number"), .fz a, .fz b] = .ok (asO o) [] := by
  rw [show f_law_asked = runDef (md.gam g_law_asked) ⟨5, b_law_asked⟩ from rfl, runDef_eq]
  simp only [b_law_asked, contsOf, slotsOf]
  obtain ⟨G, hG⟩ : ∃ G : Gam, G = { md.gam g_law_asked with io := ([] : List Cont).length } := ⟨_, rfl⟩
  have fns : G.fns = g_law_asked := by rw [hG]; rfl
  have io : G.io = 0 := by rw [hG]; rfl
  have con : G.con = md.con.map (·.2) := by rw [hG]; rfl
  have exq : G.exm = exmL md.exm := by rw [hG]; rfl
  have gq : g_law_asked = g_law_asked := rfl
  rw [← hG]
  have exv : G.exv = exvL md.exv := by rw [hG]; rfl
  have xf : G.xfl "TooLarge" "what" = true := by rw [hG]; decide +kernel
  cases o with
  | told d =>
    have h' : f_check_number [.fz a] = .ok d [] := h
    simp [fns, io, gq, g_law_asked, h', q_number_fraction, q_number_whole]
    rfl
  | bad =>
    have h' : f_check_number [.fz a] = .exc ⟨"BadNumber", []⟩ [] := h
    simp [fns, io, gq, g_law_asked, h', q_number_fraction, q_number_whole]
    rw [hs_bad exq exv io]
    simp [io]
    rfl
  | large =>
    have h' : f_check_number [.fz a] = .exc ⟨"TooLarge", [("what", .str "figures")]⟩ [] := h
    simp [fns, io, gq, g_law_asked, h', q_number_fraction, q_number_whole]
    rw [hs_large exq xf io]
    simp [io]
    rfl
theorem q_complex_fraction : (("complex" : Str) == "fraction") = false := by decide +kernel
theorem q_complex_whole : (("complex" : Str) == "whole") = false := by decide +kernel
theorem q_complex_number : (("complex" : Str) == "number") = false := by decide +kernel
theorem asked_complex {a b : D} {o : O} (h : f_check_complex [.fz a] = frO o) : f_law_asked [.fz (.str "complex"), .fz a, .fz b] = .ok (asO o) [] := by
  rw [show f_law_asked = runDef (md.gam g_law_asked) ⟨5, b_law_asked⟩ from rfl, runDef_eq]
  simp only [b_law_asked, contsOf, slotsOf]
  obtain ⟨G, hG⟩ : ∃ G : Gam, G = { md.gam g_law_asked with io := ([] : List Cont).length } := ⟨_, rfl⟩
  have fns : G.fns = g_law_asked := by rw [hG]; rfl
  have io : G.io = 0 := by rw [hG]; rfl
  have con : G.con = md.con.map (·.2) := by rw [hG]; rfl
  have exq : G.exm = exmL md.exm := by rw [hG]; rfl
  have gq : g_law_asked = g_law_asked := rfl
  rw [← hG]
  have exv : G.exv = exvL md.exv := by rw [hG]; rfl
  have xf : G.xfl "TooLarge" "what" = true := by rw [hG]; decide +kernel
  cases o with
  | told d =>
    have h' : f_check_complex [.fz a] = .ok d [] := h
    simp [fns, io, gq, g_law_asked, h', q_complex_fraction, q_complex_whole, q_complex_number]
    rfl
  | bad =>
    have h' : f_check_complex [.fz a] = .exc ⟨"BadNumber", []⟩ [] := h
    simp [fns, io, gq, g_law_asked, h', q_complex_fraction, q_complex_whole, q_complex_number]
    rw [hs_bad exq exv io]
    simp [io]
    rfl
  | large =>
    have h' : f_check_complex [.fz a] = .exc ⟨"TooLarge", [("what", .str "figures")]⟩ [] := h
    simp [fns, io, gq, g_law_asked, h', q_complex_fraction, q_complex_whole, q_complex_number]
    rw [hs_large exq xf io]
    simp [io]
    rfl
theorem q_over_fraction : (("over" : Str) == "fraction") = false := by decide +kernel
theorem q_over_whole : (("over" : Str) == "whole") = false := by decide +kernel
theorem q_over_number : (("over" : Str) == "number") = false := by decide +kernel
theorem q_over_complex : (("over" : Str) == "complex") = false := by decide +kernel
theorem asked_over {a b : D} {o : O} (h : f_over [.fz a, .fz b] = frO o) : f_law_asked [.fz (.str "over"), .fz a, .fz b] = .ok (asO o) [] := by
  rw [show f_law_asked = runDef (md.gam g_law_asked) ⟨5, b_law_asked⟩ from rfl, runDef_eq]
  simp only [b_law_asked, contsOf, slotsOf]
  obtain ⟨G, hG⟩ : ∃ G : Gam, G = { md.gam g_law_asked with io := ([] : List Cont).length } := ⟨_, rfl⟩
  have fns : G.fns = g_law_asked := by rw [hG]; rfl
  have io : G.io = 0 := by rw [hG]; rfl
  have con : G.con = md.con.map (·.2) := by rw [hG]; rfl
  have exq : G.exm = exmL md.exm := by rw [hG]; rfl
  have gq : g_law_asked = g_law_asked := rfl
  rw [← hG]
  have exv : G.exv = exvL md.exv := by rw [hG]; rfl
  have xf : G.xfl "TooLarge" "what" = true := by rw [hG]; decide +kernel
  cases o with
  | told d =>
    have h' : f_over [.fz a, .fz b] = .ok d [] := h
    simp [fns, io, gq, g_law_asked, h', q_over_fraction, q_over_whole, q_over_number, q_over_complex]
    rfl
  | bad =>
    have h' : f_over [.fz a, .fz b] = .exc ⟨"BadNumber", []⟩ [] := h
    simp [fns, io, gq, g_law_asked, h', q_over_fraction, q_over_whole, q_over_number, q_over_complex]
    rw [hs_bad exq exv io]
    simp [io]
    rfl
  | large =>
    have h' : f_over [.fz a, .fz b] = .exc ⟨"TooLarge", [("what", .str "figures")]⟩ [] := h
    simp [fns, io, gq, g_law_asked, h', q_over_fraction, q_over_whole, q_over_number, q_over_complex]
    rw [hs_large exq xf io]
    simp [io]
    rfl
theorem q_across_fraction : (("across" : Str) == "fraction") = false := by decide +kernel
theorem q_across_whole : (("across" : Str) == "whole") = false := by decide +kernel
theorem q_across_number : (("across" : Str) == "number") = false := by decide +kernel
theorem q_across_complex : (("across" : Str) == "complex") = false := by decide +kernel
theorem q_across_over : (("across" : Str) == "over") = false := by decide +kernel
theorem asked_across {a b : D} {o : O} (h : f_complex_over [.fz a, .fz b] = frO o) : f_law_asked [.fz (.str "across"), .fz a, .fz b] = .ok (asO o) [] := by
  rw [show f_law_asked = runDef (md.gam g_law_asked) ⟨5, b_law_asked⟩ from rfl, runDef_eq]
  simp only [b_law_asked, contsOf, slotsOf]
  obtain ⟨G, hG⟩ : ∃ G : Gam, G = { md.gam g_law_asked with io := ([] : List Cont).length } := ⟨_, rfl⟩
  have fns : G.fns = g_law_asked := by rw [hG]; rfl
  have io : G.io = 0 := by rw [hG]; rfl
  have con : G.con = md.con.map (·.2) := by rw [hG]; rfl
  have exq : G.exm = exmL md.exm := by rw [hG]; rfl
  have gq : g_law_asked = g_law_asked := rfl
  rw [← hG]
  have exv : G.exv = exvL md.exv := by rw [hG]; rfl
  have xf : G.xfl "TooLarge" "what" = true := by rw [hG]; decide +kernel
  cases o with
  | told d =>
    have h' : f_complex_over [.fz a, .fz b] = .ok d [] := h
    simp [fns, io, gq, g_law_asked, h', q_across_fraction, q_across_whole, q_across_number, q_across_complex, q_across_over]
    rfl
  | bad =>
    have h' : f_complex_over [.fz a, .fz b] = .exc ⟨"BadNumber", []⟩ [] := h
    simp [fns, io, gq, g_law_asked, h', q_across_fraction, q_across_whole, q_across_number, q_across_complex, q_across_over]
    rw [hs_bad exq exv io]
    simp [io]
    rfl
  | large =>
    have h' : f_complex_over [.fz a, .fz b] = .exc ⟨"TooLarge", [("what", .str "figures")]⟩ [] := h
    simp [fns, io, gq, g_law_asked, h', q_across_fraction, q_across_whole, q_across_number, q_across_complex, q_across_over]
    rw [hs_large exq xf io]
    simp [io]
    rfl
def isBad : O → Bool
  | .bad => true
  | _ => false
def isLarge : O → Bool
  | .large => true
  | _ => false
theorem n_tb : (("told" : Str) == "bad") = false := by decide +kernel
theorem n_lb : (("large" : Str) == "bad") = false := by decide +kernel
theorem n_tl : (("told" : Str) == "large") = false := by decide +kernel
theorem n_bl : (("bad" : Str) == "large") = false := by decide +kernel
theorem is_bad_ok {door a b : D} {o : O} (h : f_law_asked [.fz door, .fz a, .fz b] = .ok (asO o) []) : f_law_is_bad [.fz door, .fz a, .fz b] = .ok (.bl (isBad o)) [] := by
  rw [show f_law_is_bad = runDef (md.gam g_law_is_bad) ⟨4, b_law_is_bad⟩ from rfl, runDef_eq]
  simp only [b_law_is_bad, contsOf, slotsOf]
  obtain ⟨G, hG⟩ : ∃ G : Gam, G = { md.gam g_law_is_bad with io := ([] : List Cont).length } := ⟨_, rfl⟩
  have fns : G.fns = g_law_is_bad := by rw [hG]; rfl
  have io : G.io = 0 := by rw [hG]; rfl
  have con : G.con = md.con.map (·.2) := by rw [hG]; rfl
  have exq : G.exm = exmL md.exm := by rw [hG]; rfl
  have gq : g_law_is_bad = g_law_is_bad := rfl
  rw [← hG]
  cases o with
  | told d =>
    have h' : f_law_asked [.fz door, .fz a, .fz b] = .ok (.tup [.str "told", d]) [] := h
    simp [fns, io, gq, g_law_is_bad, h', isBad, n_tb]
  | bad =>
    have h' : f_law_asked [.fz door, .fz a, .fz b] = .ok (.tup [.str "bad", .bl true]) [] := h
    simp [fns, io, gq, g_law_is_bad, h', isBad]
  | large =>
    have h' : f_law_asked [.fz door, .fz a, .fz b] = .ok (.tup [.str "large", .str "figures", .bl true]) [] := h
    simp [fns, io, gq, g_law_is_bad, h', isBad, n_lb]
theorem idx_tup2 {a b c : D} {ds : List D} : idxS (.tup (a :: b :: c :: ds)) (.int 2) = some c := idx_tup (k := 2) rfl (by simp)
theorem is_large_ok {door a : D} (h : f_law_asked [.fz door, .fz a, .fz .non] = .ok (asO .large) []) : f_law_is_large [.fz door, .fz a] = .ok (.bl true) [] := by
  rw [show f_law_is_large = runDef (md.gam g_law_is_large) ⟨3, b_law_is_large⟩ from rfl, runDef_eq]
  simp only [b_law_is_large, contsOf, slotsOf]
  obtain ⟨G, hG⟩ : ∃ G : Gam, G = { md.gam g_law_is_large with io := ([] : List Cont).length } := ⟨_, rfl⟩
  have fns : G.fns = g_law_is_large := by rw [hG]; rfl
  have io : G.io = 0 := by rw [hG]; rfl
  have con : G.con = md.con.map (·.2) := by rw [hG]; rfl
  have exq : G.exm = exmL md.exm := by rw [hG]; rfl
  have gq : g_law_is_large = g_law_is_large := rfl
  rw [← hG]
  have h' : f_law_asked [.fz door, .fz a, .fz .non] = .ok (.tup [.str "large", .str "figures", .bl true]) [] := h
  simp [fns, io, gq, g_law_is_large, h', idx_tup2]
end K00

/-! G4 -/
set_option Elab.async false
set_option linter.all false
set_option maxRecDepth 100000
set_option maxHeartbeats 4000000
namespace K00
open PySem PD L2 FR
theorem sz_divInt {p q : Int} {N : Nat} (hq : q ≠ 0) (hp : p.natAbs < 2 ^ N) (hb : q.natAbs < 2 ^ 4400) : Sz N (Rat.divInt p q) := by
  have pos : ∀ {p q : Int}, 0 < q → p.natAbs < 2 ^ N → q.natAbs < 2 ^ 4400 → Sz N (Rat.divInt p q) := fun {p q} hq hp hb => by
    obtain ⟨k, rfl⟩ := Int.eq_ofNat_of_zero_le (Int.le_of_lt hq)
    have k0 : k ≠ 0 := by intro z; subst z; exact absurd hq (by decide)
    rw [Rat.divInt_ofNat]
    rw [Int.natAbs_natCast] at hb
    exact ⟨Nat.lt_of_le_of_lt (num_mkRat_le _ _ k0) hp, Nat.lt_of_le_of_lt (Nat.le_of_dvd (Nat.pos_of_ne_zero k0) (den_mkRat_dvd _ _ k0)) hb⟩
  rcases Int.lt_or_gt_of_ne hq with h | h
  · rw [← Rat.neg_divInt_neg]
    exact pos (by omega) (by rw [Int.natAbs_neg]; exact hp) (by rw [Int.natAbs_neg]; exact hb)
  · exact pos h hp hb
theorem fractions_ok {top bottom scale : Int} (ht : top.natAbs < 2 ^ 214) (hb : bottom.natAbs < 2 ^ 214) (hb0 : bottom ≠ 0) (hs : scale.natAbs < 2 ^ 6) (hs0 : scale ≠ 0) : f_law_fractions [.fz (.int top), .fz (.int bottom), .fz (.int scale)] = .ok (.bl true) [] := by
  have m1 : mok top scale = true := mok_of ht hs (by decide)
  have m2 : mok bottom scale = true := mok_of hb hs (by decide)
  have bs : (bottom * scale).natAbs < 2 ^ 220 := by
    rw [Int.natAbs_mul, show (220 : Nat) = 214 + 6 from rfl, Nat.pow_add]
    exact Nat.mul_lt_mul_of_lt_of_le hb (Nat.le_of_lt hs) (Nat.two_pow_pos _)
  have ts : (top * scale).natAbs < 2 ^ 220 := by
    rw [Int.natAbs_mul, show (220 : Nat) = 214 + 6 from rfl, Nat.pow_add]
    exact Nat.mul_lt_mul_of_lt_of_le ht (Nat.le_of_lt hs) (Nat.two_pow_pos _)
  have ts1 : (top * scale + 1).natAbs < 2 ^ 221 := by
    have := Int.natAbs_add_le (top * scale) 1
    have e : (2 : Nat) ^ 221 = 2 ^ 220 + 2 ^ 220 := by rw [← Nat.mul_two, ← Nat.pow_succ]
    have : (1 : Int).natAbs = 1 := rfl
    have := Nat.two_pow_pos 220
    omega
  have bs0 : bottom * scale ≠ 0 := Int.mul_ne_zero hb0 hs0
  have up : ∀ {z : Int} {N M : Nat}, z.natAbs < 2 ^ N → N ≤ M → z.natAbs < 2 ^ M := fun h l => Nat.lt_of_lt_of_le h (Nat.pow_le_pow_right (by decide) l)
  -- a pair
  have pr : ∀ p q : Int, q ≠ 0 → p.natAbs < 2 ^ 221 → q.natAbs < 2 ^ 220 → f_law_asked [.fz (.str "fraction"), .fz (.int p), .fz (.int q)] = .ok (.tup [.str "told", frD (Rat.divInt p q)]) [] ∧ f_law_frac [.fz (.int p), .fz (.int q)] = .ok (frD (Rat.divInt p q)) [] ∧
      f_law_told [.fz (frD (Rat.divInt p q)), .fz (frD (Rat.divInt p q))] = .ok (.bl true) [] := fun p q hq hp hb =>
    ⟨asked_fraction (o := .told (frD (Rat.divInt p q))) (fraction_ok hq (up hb (by decide))), frac_ok hq (bits_of hp (by decide)) (up hb (by decide)), told_ok (sz_divInt (N := 221) hq hp (up hb (by decide))) (by decide)⟩
  obtain ⟨pairs, hpairs⟩ : ∃ ps : List (Int × Int), ps = [(top, bottom), (top * scale, bottom * scale), (top, -bottom), (top * scale + 1, bottom * scale)] := ⟨_, rfl⟩
  have all : ∀ pq ∈ pairs, pq.2 ≠ 0 ∧ pq.1.natAbs < 2 ^ 221 ∧ pq.2.natAbs < 2 ^ 220 := by
    intro pq h
    rw [hpairs] at h
    simp only [List.mem_cons, List.not_mem_nil, or_false] at h
    rcases h with rfl | rfl | rfl | rfl
    · exact ⟨hb0, up ht (by decide), up hb (by decide)⟩
    · exact ⟨bs0, up ts (by decide), bs⟩
    · exact ⟨by show -bottom ≠ 0; omega, up ht (by decide), by show (-bottom).natAbs < _; rw [Int.natAbs_neg]; exact up hb (by decide)⟩
    · exact ⟨bs0, ts1, bs⟩
  -- what is no whole number
  have ti : ∀ z : D, okD z = true → isI z = false → f_law_is_bad [.fz (.str "fraction"), .fz z, .fz (.int bottom)] = .ok (.bl true) [] ∧ f_law_is_bad [.fz (.str "fraction"), .fz (.int top), .fz z] = .ok (.bl true) [] ∧
      f_law_is_bad [.fz (.str "fraction"), .fz z, .fz (.int 0)] = .ok (.bl true) [] ∧ f_law_is_bad [.fz (.str "whole"), .fz z, .fz .non] = .ok (.bl true) [] := fun z h1 h2 =>
    ⟨is_bad_ok (o := .bad) (asked_fraction (o := .bad) (fraction_bad h1 rfl (.inl (by rw [h2]; rfl)))), is_bad_ok (o := .bad) (asked_fraction (o := .bad) (fraction_bad rfl h1 (.inl (by rw [h2]; rfl)))),
      is_bad_ok (o := .bad) (asked_fraction (o := .bad) (fraction_bad h1 rfl (.inl (by rw [h2]; rfl)))), is_bad_ok (o := .bad) (asked_whole (o := .bad) (fraction_bad h1 rfl (.inl (by rw [h2]; rfl))))⟩
  obtain ⟨things, hthings⟩ : ∃ ts : List D, ts = [.non, .bl true, .bl false, .str "3", .tup [.int top, .int 1], .lst [.int top]] := ⟨_, rfl⟩
  have allt : ∀ z ∈ things, okD z = true ∧ isI z = false := by
    intro z h
    rw [hthings] at h
    simp only [List.mem_cons, List.not_mem_nil, or_false] at h
    rcases h with rfl | rfl | rfl | rfl | rfl | rfl <;> exact ⟨rfl, rfl⟩
  have zero : f_law_is_bad [.fz (.str "fraction"), .fz (.int top), .fz (.int 0)] = .ok (.bl true) [] := is_bad_ok (o := .bad) (asked_fraction (o := .bad) (fraction_bad rfl rfl (.inr rfl)))
  have w1 : f_law_asked [.fz (.str "whole"), .fz (.int top), .fz .non] = .ok (.tup [.str "told", frD (Rat.divInt top 1)]) [] := asked_whole (o := .told (frD (Rat.divInt top 1))) (fraction_ok (by decide) (by decide +kernel))
  have e1 : Rat.divInt top 1 = (top : Rat) := by rw [Rat.divInt_eq_div, show ((1 : Int) : Rat) = 1 from rfl]; grind
  rw [e1] at w1
  have w2 : f_law_told [.fz (frD (top : Rat)), .fz (.tup [.int top, .int 1])] = .ok (.bl true) [] := by
    rw [frD_int]
    exact told_ok (x := (top : Rat)) (N := 220) ⟨by rw [Rat.num_intCast]; exact up ht (by decide), by rw [Rat.den_intCast]; exact Nat.one_lt_two_pow (by decide)⟩ (by decide)
  rw [show f_law_fractions = runDef (md.gam g_law_fractions) ⟨6, b_law_fractions⟩ from rfl, runDef_eq]
  simp only [b_law_fractions, contsOf, slotsOf]
  obtain ⟨G, hG⟩ : ∃ G : Gam, G = { md.gam g_law_fractions with io := ([] : List Cont).length } := ⟨_, rfl⟩
  have fns : G.fns = g_law_fractions := by rw [hG]; rfl
  have io : G.io = 0 := by rw [hG]; rfl
  have con : G.con = md.con.map (·.2) := by rw [hG]; rfl
  have exq : G.exm = exmL md.exm := by rw [hG]; rfl
  have gq : g_law_fractions = g_law_fractions := rfl
  rw [← hG]
  have lp0 := for_all (I := .tup (pairs.map fun pq => D.tup [.int pq.1, .int pq.2])) (body := fBody G (.nm 3) lp0_law_fractions) (n := pairs.length) (fun i ρ st => st = [] ∧ ∃ x y, ρ = [some (.fz (.int top)), some (.fz (.int bottom)), some (.fz (.int scale)), x, y, none]) (fun i ρ st _ _ => by simp)
    (fun i ρ st hi ⟨h1, x, y, h2⟩ => by
      subst h1 h2
      obtain ⟨a1, a2, a3⟩ := all pairs[i] (List.getElem_mem hi)
      obtain ⟨b1, b2, b3⟩ := pr _ _ a1 a2 a3
      refine ⟨.tup [.int pairs[i].1, .int pairs[i].2], by simp [hi], [some (.fz (.int top)), some (.fz (.int bottom)), some (.fz (.int scale)), some (.fz (.tup [.int pairs[i].1, .int pairs[i].2])), some (.fz (.tup [.str "told", frD (Rat.divInt pairs[i].1 pairs[i].2)])), none], [], .inl ?_, rfl, _, _, rfl⟩
      generalize pairs[i].1 = p at *
      generalize pairs[i].2 = q at *
      generalize Rat.divInt p q = r at *
      simp only [fBody_nm, lp0_law_fractions]
      simp [fns, gq, g_law_fractions, io, b1, b2, b3]) pairs.length 0 [some (.fz (.int top)), some (.fz (.int bottom)), some (.fz (.int scale)), none, none, none] [] (by omega) ⟨rfl, _, _, rfl⟩
  obtain ⟨ρ', st', e, rfl, x, y, rfl⟩ := lp0
  have lp1 := fun (x y : Option Val) (s : Store) => for_all (I := .tup things) (body := fBody G (.nm 5) lp1_law_fractions) (n := things.length) (fun i ρ st => st = s ∧ ∃ z, ρ = [some (.fz (.int top)), some (.fz (.int bottom)), some (.fz (.int scale)), x, y, z]) (fun i ρ st _ _ => by simp)
    (fun i ρ st hi ⟨h1, z, h2⟩ => by
      subst h1 h2
      obtain ⟨a1, a2⟩ := allt things[i] (List.getElem_mem hi)
      obtain ⟨b1, b2, b3, b4⟩ := ti _ a1 a2
      refine ⟨things[i], by simp [hi], [some (.fz (.int top)), some (.fz (.int bottom)), some (.fz (.int scale)), x, y, some (.fz things[i])], st, .inl ?_, rfl, _, rfl⟩
      generalize things[i] = t at *
      simp only [fBody_nm, lp1_law_fractions]
      simp [fns, gq, g_law_fractions, io, b1, b2, b3, b4]) things.length 0 [some (.fz (.int top)), some (.fz (.int bottom)), some (.fz (.int scale)), x, y, none] s (by omega) ⟨rfl, _, rfl⟩
  obtain ⟨ρ', st', e2, rfl, z, rfl⟩ := lp1 x (some (.fz (.tup [.str "told", frD (top : Rat)]))) [.fz (.lst [.int top])]
  have pl : (pairs.map fun pq => D.tup [.int pq.1, .int pq.2]) = [.tup [.int top, .int bottom], .tup [.int (top * scale), .int (bottom * scale)], .tup [.int top, .int (-bottom)], .tup [.int (top * scale + 1), .int (bottom * scale)]] := by rw [hpairs]; rfl
  rw [pl, hpairs] at e
  rw [hthings] at e2
  have t4 : ([D.tup [.int top, .int bottom], .tup [.int (top * scale), .int (bottom * scale)], .tup [.int top, .int (-bottom)], .tup [.int (top * scale + 1), .int (bottom * scale)]] : List D).length ≤ LIM := by unfold LIM; simp
  have t6 : ([D.non, .bl true, .bl false, .str "3", .tup [.int top, .int 1], .lst [.int top]] : List D).length ≤ LIM := by unfold LIM; simp
  simp only [List.length_cons, List.length_nil] at e e2
  simp [fns, gq, g_law_fractions, io, bopS_mul m1, bopS_mul m2, kTup2_eq t4]
  simp at e e2
  simp [e, fns, g_law_fractions, io, w1, w2, fr_at, kTup2_eq t6]
  simp [e2, fns, g_law_fractions, io, zero]
end K00

/-! G5 -/
set_option Elab.async false
set_option linter.all false
set_option maxRecDepth 100000
set_option maxHeartbeats 4000000
namespace K00
open PySem PD L2 FR
/-- the bound as a natural number -/
def gr : Nat := (10 ^ 50) ^ 8
theorem GR_eq : GR = (gr : Int) := by decide +kernel
theorem gr_big : 2 < gr := by decide +kernel
theorem gr_lt : gr < 2 ^ 1400 := by decide +kernel
theorem lt_gr : 2 ^ 221 < gr := by decide +kernel
/-- a pair of whole numbers without a common divisor -/
def mkR (a : Int) (b : Nat) (hb : b ≠ 0) (h : Nat.Coprime a.natAbs b) : Rat := ⟨a, b, hb, h⟩
theorem frD_mk (a : Int) (b : Nat) (hb : b ≠ 0) (h : Nat.Coprime a.natAbs b) : frD (mkR a b hb h) = .tup [.int a, .int (b : Int)] := rfl
theorem cop_pred {n : Nat} (h : 0 < n) : Nat.Coprime n (n - 1) := by
  obtain ⟨k, rfl⟩ : ∃ k, n = k + 1 := ⟨n - 1, by omega⟩
  rw [Nat.add_sub_cancel]
  have : Nat.gcd (k + 1) k = 1 := by
    rw [Nat.gcd_comm]
    simp
  exact this
/-- what is said of each number of the last row -/
structure Gd (z : Rat) : Prop where
  n : z.num.natAbs < 2 ^ 1500
  d : z.den < 2 ^ 1500
theorem Gd.sz {z : Rat} (h : Gd z) : Sz 1500 z := ⟨h.n, Nat.lt_of_lt_of_le h.d (Nat.pow_le_pow_right (by decide) (by decide))⟩
theorem big_neg (z : Rat) : big (-z) = big z := by
  unfold big
  rw [Rat.neg_num, Int.natAbs_neg, Rat.neg_den]
theorem frD_neg (z : Rat) : D.tup [.int (-z.num), .int (z.den : Int)] = frD (-z) := rfl
/-- what no number is, is bad at every door -/
structure Wrong (z : D) : Prop where
  ok : okD z = true
  n : f_is_number [.fz z] = .ok (.bl false) []
theorem Wrong.number {z : D} (h : Wrong z) : f_law_is_bad [.fz (.str "number"), .fz z, .fz .non] = .ok (.bl true) [] := is_bad_ok (o := .bad) (asked_number (o := .bad) (check_number_bad h.n))
theorem Wrong.complex {z : D} (h : Wrong z) (y : Rat) : f_law_is_bad [.fz (.str "complex"), .fz (.tup [frD y, z]), .fz .non] = .ok (.bl true) [] ∧ f_law_is_bad [.fz (.str "complex"), .fz (.tup [z, frD y]), .fz .non] = .ok (.bl true) [] :=
  ⟨is_bad_ok (o := .bad) (asked_complex (o := .bad) (check_complex_bad2 (isn_fr y) h.n rfl)), is_bad_ok (o := .bad) (asked_complex (o := .bad) (check_complex_bad2 h.n (isn_fr y) rfl))⟩
theorem wrong_of {z : D} (h : okD z = true) (h2 : ∀ a b, z = .tup [a, b] → okD a = true ∧ okD b = true) (h3 : isNum z = false) : Wrong z := ⟨h, by have := is_number_ok h h2; rw [h3] at this; exact this⟩
theorem wrong_2 {a b : D} (ha : okD a = true) (hb : okD b = true) (h3 : isNum (.tup [a, b]) = false) : Wrong (.tup [a, b]) := wrong_of rfl (fun a' b' e => by cases e; exact ⟨ha, hb⟩) h3
theorem wrong_x {z : D} (h : okD z = true) (h2 : ∀ a b, z ≠ .tup [a, b]) (h3 : isNum z = false) : Wrong z := wrong_of h (fun a b e => absurd e (h2 a b)) h3
theorem isNum_2 {p q : Int} {g : Nat} (h : Nat.gcd p.natAbs q.natAbs = g) (hg : g ≠ 1) : isNum (.tup [.int p, .int q]) = false := by
  show (decide (1 ≤ q) && (Nat.gcd p.natAbs q.natAbs == 1)) = false
  rw [h, show (g == 1) = false by rw [beq_eq_false_iff_ne]; exact hg, Bool.and_false]
theorem isNum_n {p q : Int} (h : q < 1) : isNum (.tup [.int p, .int q]) = false := by
  show (decide (1 ≤ q) && (Nat.gcd p.natAbs q.natAbs == 1)) = false
  rw [show decide (1 ≤ q) = false from decide_eq_false (by omega), Bool.false_and]
/-- the wrong things made of x -/
def wr (x : Rat) : List D := [.lst [.int x.num, .int x.den], .tup [.int (2 * x.num), .int (2 * x.den)], .tup [.int x.num, .int (-x.den)], .tup [.int x.num, .int 0], .tup [.bl true, .int x.den], .tup [.int x.num, .bl true], .tup [.int x.num],
  .tup [.int x.num, .int x.den, .int 1], .tup [.str "1", .int x.den], .tup [.int x.num, .non], .int x.num, .non, .str "1/2", .tup [.tup [.int x.num, .int x.den], .tup [.int 1, .int 1]], .bl true, .tup [], .tup [.int (2 * GR), .int 2]]
theorem wr_ok (x : Rat) : ∀ z ∈ wr x, Wrong z := by
  intro z h
  unfold wr at h
  have dp := x.den_pos
  simp only [List.mem_cons, List.not_mem_nil, or_false] at h
  rcases h with rfl | rfl | rfl | rfl | rfl | rfl | rfl | rfl | rfl | rfl | rfl | rfl | rfl | rfl | rfl | rfl | rfl
  · exact wrong_x rfl (fun _ _ e => by cases e) rfl
  · refine wrong_2 rfl rfl (isNum_2 (g := 2) ?_ (by decide))
    rw [Int.natAbs_mul, Int.natAbs_mul, show (2 : Int).natAbs = 2 from rfl, Int.natAbs_natCast, Nat.gcd_mul_left, x.reduced]
  · exact wrong_2 rfl rfl (isNum_n (by omega))
  · exact wrong_2 rfl rfl (isNum_n (by omega))
  · exact wrong_2 rfl rfl rfl
  · exact wrong_2 rfl rfl rfl
  · exact wrong_x rfl (fun _ _ e => by cases e) rfl
  · exact wrong_x rfl (fun _ _ e => by cases e) rfl
  · exact wrong_2 rfl rfl rfl
  · exact wrong_2 rfl rfl rfl
  · exact wrong_x rfl (fun _ _ e => by cases e) rfl
  · exact wrong_x rfl (fun _ _ e => by cases e) rfl
  · exact wrong_x rfl (fun _ _ e => by cases e) rfl
  · exact wrong_2 rfl rfl rfl
  · exact wrong_x rfl (fun _ _ e => by cases e) rfl
  · exact wrong_x rfl (fun _ _ e => by cases e) rfl
  · refine wrong_2 rfl rfl (isNum_2 (g := 2) ?_ (by decide))
    rw [GR_eq, Int.natAbs_mul, show (2 : Int).natAbs = 2 from rfl, Int.natAbs_natCast]
    exact Nat.gcd_eq_right (Nat.dvd_mul_right 2 gr)
def wc (x y : Rat) : List D := [.lst [frD x, frD y], .tup [frD x], .tup [frD x, frD y, frD x], .non, frD x, .str "i"]
theorem wc_ok (x y : Rat) : ∀ z ∈ wc x y, f_law_is_bad [.fz (.str "complex"), .fz z, .fz .non] = .ok (.bl true) [] := by
  intro z h
  unfold wc at h
  have bad : ∀ {z : D}, f_check_complex [.fz z] = .exc ⟨"BadNumber", []⟩ [] → f_law_is_bad [.fz (.str "complex"), .fz z, .fz .non] = .ok (.bl true) [] := fun h => is_bad_ok (o := .bad) (asked_complex (o := .bad) h)
  simp only [List.mem_cons, List.not_mem_nil, or_false] at h
  rcases h with rfl | rfl | rfl | rfl | rfl | rfl
  · exact bad (check_complex_bad rfl (fun _ _ e => by cases e))
  · exact bad (check_complex_bad rfl (fun _ _ e => by cases e))
  · exact bad (check_complex_bad rfl (fun _ _ e => by cases e))
  · exact bad (check_complex_bad rfl (fun _ _ e => by cases e))
  · have w1 : Wrong (.int x.num) := wrong_x rfl (fun _ _ e => by cases e) rfl
    have w2 : Wrong (.int (x.den : Int)) := wrong_x rfl (fun _ _ e => by cases e) rfl
    exact bad (check_complex_bad2 w1.n w2.n rfl)
  · exact bad (check_complex_bad rfl (fun _ _ e => by cases e))
theorem zd (h : gr - 1 ≠ 0) : True := trivial
theorem g1 : gr - 1 ≠ 0 := by have := gr_big; omega
theorem g0 : gr ≠ 0 := by have := gr_big; omega
/-- the great ones -/
def gs (x y : Rat) : List Rat := [x, y, 0, mkR ((gr - 1 : Nat) : Int) 1 (by decide) (Nat.coprime_one_right _), mkR (-((gr - 1 : Nat) : Int)) 1 (by decide) (Nat.coprime_one_right _), mkR 1 (gr - 1) g1 (Nat.coprime_one_left _),
  mkR (gr : Int) (gr - 1) g1 (by rw [Int.natAbs_natCast]; exact cop_pred (by have := gr_big; omega)), mkR 1 gr g0 (Nat.coprime_one_left _)]
theorem gs_ok {x y : Rat} (hx : Gd x) (hy : Gd y) : ∀ z ∈ gs x y, Gd z := by
  intro z h
  unfold gs at h
  have l1 : gr < 2 ^ 1500 := Nat.lt_trans gr_lt (Nat.pow_lt_pow_right (by decide) (by decide))
  have l2 : gr - 1 < 2 ^ 1500 := by omega
  have l3 : 1 < 2 ^ 1500 := Nat.one_lt_two_pow (by decide)
  simp only [List.mem_cons, List.not_mem_nil, or_false] at h
  rcases h with rfl | rfl | rfl | rfl | rfl | rfl | rfl | rfl
  · exact hx
  · exact hy
  · exact ⟨Nat.two_pow_pos _, l3⟩
  · exact ⟨by show ((gr - 1 : Nat) : Int).natAbs < _; rw [Int.natAbs_natCast]; exact l2, l3⟩
  · exact ⟨by show (-((gr - 1 : Nat) : Int)).natAbs < _; rw [Int.natAbs_neg, Int.natAbs_natCast]; exact l2, l3⟩
  · exact ⟨l3, l2⟩
  · exact ⟨by show (gr : Int).natAbs < _; rw [Int.natAbs_natCast]; exact l1, l2⟩
  · exact ⟨l3, l1⟩
theorem gs_map (x y : Rat) : (gs x y).map frD = [frD x, frD y, .tup [.int 0, .int 1], .tup [.int (GR - 1), .int 1], .tup [.int (1 - GR), .int 1], .tup [.int 1, .int (GR - 1)], .tup [.int GR, .int (GR - 1)], .tup [.int 1, .int GR]] := by
  have e1 : ((gr - 1 : Nat) : Int) = GR - 1 := by rw [GR_eq]; have := gr_big; omega
  have e2 : -((gr - 1 : Nat) : Int) = 1 - GR := by rw [GR_eq]; have := gr_big; omega
  unfold gs
  simp only [List.map_cons, List.map_nil, frD_mk, e1, e2, ← GR_eq]
  rfl
theorem n_tl2 : (("told" : Str) == "large") = false := by decide +kernel
theorem numbers_ok {x y : Rat} (hx : Gd x) (hy : Gd y) (by_ : big y = false) : f_law_numbers [.fz (frD x), .fz (frD y)] = .ok (.bl true) [] := by
  have p1 : bopS .pow (.int 10) (.int 50) = .d (.int (10 ^ 50)) := bopS_pow (i := 10) (j := 50) (by decide)
  have p2 : bopS .pow (.int (10 ^ 50)) (.int 8) = .d (.int GR) := bopS_pow (i := 10 ^ 50) (j := 8) (by decide +kernel)
  have mN : ∀ {z : Int}, z.natAbs < 2 ^ 1500 → mok 2 z = true := fun h => mok_of (N := 2) (M := 1500) (by decide) h (by decide)
  have m1 := bopS_mul (mN hx.n)
  have m2 := bopS_mul (mN (z := (x.den : Int)) (by rw [Int.natAbs_natCast]; exact hx.d))
  have m3 := bopS_mul (mN (z := GR) (by rw [GR_eq, Int.natAbs_natCast]; exact Nat.lt_trans gr_lt (Nat.pow_lt_pow_right (by decide) (by decide))))
  generalize (10 : Int) ^ 50 = T at p1 p2
  rw [show f_law_numbers = runDef (md.gam g_law_numbers) ⟨8, b_law_numbers⟩ from rfl, runDef_eq]
  simp only [b_law_numbers, contsOf, slotsOf]
  obtain ⟨G, hG⟩ : ∃ G : Gam, G = { md.gam g_law_numbers with io := ([] : List Cont).length } := ⟨_, rfl⟩
  have fns : G.fns = g_law_numbers := by rw [hG]; rfl
  have io : G.io = 0 := by rw [hG]; rfl
  have con : G.con = md.con.map (·.2) := by rw [hG]; rfl
  have exq : G.exm = exmL md.exm := by rw [hG]; rfl
  have gq : g_law_numbers = g_law_numbers := rfl
  rw [← hG]
  have l0 := for_all (I := .tup (wr x)) (body := fBody G (.nm 4) lp0_law_numbers) (n := (wr x).length) (fun i ρ st => st = [.fz (.lst [.int x.num, .int x.den])] ∧ ∃ a b c e, ρ = [some (.fz (frD x)), some (.fz (frD y)), some (.fz (.int x.num)), some (.fz (.int x.den)), a, b, c, e]) (fun i ρ st _ _ => by simp)
    (fun i ρ st hi ⟨h1, a, b, c, e, h2⟩ => by
      subst h1 h2
      have w := wr_ok x (wr x)[i] (List.getElem_mem hi)
      have wn := w.n
      have w1 := w.number
      obtain ⟨w2, w3⟩ := w.complex y
      refine ⟨(wr x)[i], by simp [hi], [some (.fz (frD x)), some (.fz (frD y)), some (.fz (.int x.num)), some (.fz (.int x.den)), some (.fz (wr x)[i]), b, c, e], _, .inl ?_, rfl, _, _, _, _, rfl⟩
      generalize (wr x)[i] = t at *
      simp only [fBody_nm, lp0_law_numbers]
      simp [fns, gq, g_law_numbers, io, wn, w1, w2, w3]) (wr x).length 0 [some (.fz (frD x)), some (.fz (frD y)), some (.fz (.int x.num)), some (.fz (.int x.den)), none, none, none, none] [.fz (.lst [.int x.num, .int x.den])] (by omega) ⟨rfl, _, _, _, _, rfl⟩
  obtain ⟨ρ0, st0, e0, rfl, a, b, c, d, rfl⟩ := l0
  have l1 := for_all (I := .tup (wc x y)) (body := fBody G (.nm 4) lp1_law_numbers) (n := (wc x y).length) (fun i ρ st => st = [.fz (.lst [.int x.num, .int x.den]), .fz (.lst [frD x, frD y])] ∧ ∃ a, ρ = [some (.fz (frD x)), some (.fz (frD y)), some (.fz (.int x.num)), some (.fz (.int x.den)), a, b, c, d]) (fun i ρ st _ _ => by simp)
    (fun i ρ st hi ⟨h1, a, h2⟩ => by
      subst h1 h2
      have w := wc_ok x y (wc x y)[i] (List.getElem_mem hi)
      refine ⟨(wc x y)[i], by simp [hi], [some (.fz (frD x)), some (.fz (frD y)), some (.fz (.int x.num)), some (.fz (.int x.den)), some (.fz (wc x y)[i]), b, c, d], _, .inl ?_, rfl, _, rfl⟩
      generalize (wc x y)[i] = t at *
      simp only [fBody_nm, lp1_law_numbers]
      simp [fns, gq, g_law_numbers, io, w]) (wc x y).length 0 [some (.fz (frD x)), some (.fz (frD y)), some (.fz (.int x.num)), some (.fz (.int x.den)), a, b, c, d] [.fz (.lst [.int x.num, .int x.den]), .fz (.lst [frD x, frD y])] (by omega) ⟨rfl, _, rfl⟩
  obtain ⟨ρ1, st1, e1, rfl, a, rfl⟩ := l1
  have l2 := for_all (I := .tup ((gs x y).map frD)) (body := fBody G (.nm 4) lp2_law_numbers) (n := (gs x y).length) (fun i ρ st => st = [.fz (.lst [.int x.num, .int x.den]), .fz (.lst [frD x, frD y])] ∧ ∃ a c e, ρ = [some (.fz (frD x)), some (.fz (frD y)), some (.fz (.int x.num)), some (.fz (.int x.den)), a, some (.fz (.int GR)), c, e]) (fun i ρ st _ _ => by simp)
    (fun i ρ st hi ⟨h1, a, c, e, h2⟩ => by
      subst h1 h2
      have gz := gs_ok hx hy (gs x y)[i] (List.getElem_mem hi)
      have at_ : Iter.at [.fz (.lst [.int x.num, .int x.den]), .fz (.lst [frD x, frD y])] i (.tup ((gs x y).map frD)) = some (frD (gs x y)[i]) := by simp [hi]
      generalize (gs x y)[i] = z at gz at_
      have isn := isn_fr z
      cases hz : big z with
      | true =>
        have k1 := asked_number (b := .non) (o := .large) (check_number_large hz)
        have k2 := asked_complex (b := .non) (o := .large) (check_complex_large (x := y) (y := z) (.inr hz))
        have k3 := is_large_ok k1
        have k4 := is_large_ok (asked_complex (b := .non) (o := .large) (check_complex_large (x := z) (y := y) (.inl hz)))
        have k5 := is_large_ok (asked_number (b := .non) (o := .large) (check_number_large (x := -z) (by rw [big_neg]; exact hz)))
        have k6 : f_law_is_bad [.fz (.str "complex"), .fz (.tup [frD z, .int 5]), .fz .non] = .ok (.bl true) [] := is_bad_ok (o := .bad) (asked_complex (o := .bad) (check_complex_bad2 (isn_fr z) (wrong_x (z := .int 5) rfl (fun _ _ e => by cases e) rfl).n rfl))
        refine ⟨_, at_, [some (.fz (frD x)), some (.fz (frD y)), some (.fz (.int x.num)), some (.fz (.int x.den)), some (.fz (frD z)), some (.fz (.int GR)), some (.fz (asO .large)), some (.fz (asO .large))], _, .inl ?_, rfl, _, _, _, rfl⟩
        have k5' : f_law_is_large [.fz (.str "number"), .fz (.tup [.int (-z.num), .int (z.den : Int)])] = .ok (.bl true) [] := k5
        have i0 : idxS (asO .large) (.int 0) = some (.str "large") := by unfold asO; simp
        unfold big at hz
        simp only [fBody_nm, lp2_law_numbers]
        by_cases h1 : GR ≤ (z.num.natAbs : Int)
        · simp [fns, gq, g_law_numbers, io, isn, k1, k2, fr0, fr1, abs_nat, h1, k3, k4, k5', k6, i0]
        · have h2 : GR ≤ (z.den : Int) := by simpa [h1] using hz
          simp [fns, gq, g_law_numbers, io, isn, k1, k2, fr0, fr1, abs_nat, h1, h2, k3, k4, k5', k6, i0]
      | false =>
        have k1 := asked_number (b := .non) (o := .told (frD z)) (check_number_ok hz)
        have k2 := asked_complex (b := .non) (o := .told (.tup [frD y, frD z])) (check_complex_ok by_ hz)
        have k3 := told_ok gz.sz (by decide)
        have k4 : f_law_is_pair [.fz (.tup [frD y, frD z]), .fz (.tup [frD y, frD z])] = .ok (.bl true) [] := is_pair_ok hy.sz gz.sz (by decide)
        refine ⟨_, at_, [some (.fz (frD x)), some (.fz (frD y)), some (.fz (.int x.num)), some (.fz (.int x.den)), some (.fz (frD z)), some (.fz (.int GR)), some (.fz (asO (.told (frD z)))), some (.fz (asO (.told (.tup [frD y, frD z]))))], _, .inl ?_, rfl, _, _, _, rfl⟩
        have i0 : ∀ d, idxS (asO (.told d)) (.int 0) = some (.str "told") := fun d => by unfold asO; simp
        have i1 : ∀ d, idxS (asO (.told d)) (.int 1) = some d := fun d => by unfold asO; simp
        unfold big at hz
        simp only [Bool.or_eq_false_iff, decide_eq_false_iff_not] at hz
        simp only [fBody_nm, lp2_law_numbers]
        simp [fns, gq, g_law_numbers, io, isn, k1, k2, fr0, fr1, abs_nat, hz.1, hz.2, i0, i1, k3, k4]) (gs x y).length 0 [some (.fz (frD x)), some (.fz (frD y)), some (.fz (.int x.num)), some (.fz (.int x.den)), a, some (.fz (.int GR)), c, d] [.fz (.lst [.int x.num, .int x.den]), .fz (.lst [frD x, frD y])] (by omega) ⟨rfl, _, _, _, rfl⟩
  obtain ⟨ρ2, st2, e2, rfl, a', c', d', rfl⟩ := l2
  have t17 : ([.lst [.int x.num, .int x.den], .tup [.int (2 * x.num), .int (2 * x.den)], .tup [.int x.num, .int (-x.den)], .tup [.int x.num, .int 0], .tup [.bl true, .int x.den], .tup [.int x.num, .bl true], .tup [.int x.num],
    .tup [.int x.num, .int x.den, .int 1], .tup [.str "1", .int x.den], .tup [.int x.num, .non], .int x.num, .non, .str "1/2", .tup [.tup [.int x.num, .int x.den], .tup [.int 1, .int 1]], .bl true, .tup [], .tup [.int (2 * GR), .int 2]] : List D).length ≤ LIM := by unfold LIM; simp
  have t6 : ([.lst [frD x, frD y], .tup [frD x], .tup [frD x, frD y, frD x], .non, frD x, .str "i"] : List D).length ≤ LIM := by unfold LIM; simp
  have t8 : ([frD x, frD y, .tup [.int 0, .int 1], .tup [.int (GR - 1), .int 1], .tup [.int (1 - GR), .int 1], .tup [.int 1, .int (GR - 1)], .tup [.int GR, .int (GR - 1)], .tup [.int 1, .int GR]] : List D).length ≤ LIM := by unfold LIM; simp
  have lg : (gs x y).length = 8 := rfl
  rw [gs_map, lg] at e2
  unfold wr at e0
  unfold wc at e1
  simp at e0 e1
  simp [fns, gq, g_law_numbers, io, fr0, fr1, p1, p2, m1, m2, m3, kTup2_eq t17, fr_at, e0]
  simp [fns, gq, g_law_numbers, io, kTup2_eq t6, fr_at, e1]
  simp [fns, gq, g_law_numbers, io, p1, p2, kTup2_eq t8, e2]
end K00

/-! G6 -/
set_option Elab.async false
set_option linter.all false
set_option maxRecDepth 100000
set_option maxHeartbeats 4000000
namespace K00
open PySem PD L2 FR
structure SSz (x y : Rat) (k : Nat) : Prop where
  hx : Sz NB x
  hy : Sz NB y
  add : Sz NB (x + y)
  sub : Sz NB (x - y)
  mul : Sz NB (x * y)
  pw : ∀ j ≤ k, Sz NB (rp x j)
  dv : y ≠ 0 → Sz NB (x / y)
  yn : y.num.natAbs < 2 ^ 4500
  xn : x.num.natAbs < 2 ^ 4500
theorem cr_neg (x y : Rat) : cr y x = -cr x y := by unfold cr; omega
theorem sg_neg (z : Int) : sg (-z) = -sg z := by
  unfold sg
  rcases Int.lt_trichotomy z 0 with h | h | h
  · rw [if_neg (by omega), if_pos (by omega), if_pos h]; rfl
  · subst h; rfl
  · rw [if_pos (by omega), if_neg (by omega), if_pos h]
theorem cr_self (x : Rat) : cr x x = 0 := by unfold cr; omega
theorem cr_eq {x y : Rat} (h : cr x y = 0) : x = y := by
  unfold cr at h
  rw [Rat.eq_iff_mul_eq_mul]
  omega
theorem sg_div {z : Int} (h : z ≠ 0) : z.fdiv (z.natAbs : Int) = sg z := by
  unfold sg
  rcases Int.lt_or_gt_of_ne h with h1 | h1
  · rw [if_pos h1]
    have e : z = -(z.natAbs : Int) := by omega
    conv => lhs; arg 1; rw [e]
    have n0 : (z.natAbs : Int) ≠ 0 := by omega
    rw [← Int.neg_one_mul, Int.mul_fdiv_cancel _ n0]
  · rw [if_neg (by omega), if_pos h1]
    have e : (z.natAbs : Int) = z := by omega
    rw [e, Int.fdiv_self h]
/-- its size -/
def absR (x : Rat) : Rat := ⟨(x.num.natAbs : Int), x.den, x.den_nz, by rw [Int.natAbs_natCast]; exact x.reduced⟩
theorem sums_ok {x y : Rat} {k : Nat} (hk : k < 1000) (z : SSz x y k) : f_law_sums [.fz (frD x), .fz (frD y), .fz (.int k)] = .ok (.bl true) [] := by
  have N4 : NB ≤ 4000000 := by decide
  have a1 := plus_ok z.hx z.hy
  have a2 := ladd_ok z.hx z.hy
  have a3 := told_ok z.add N4
  have b1 := minus_ok z.hx z.hy
  have b2 := ladd_ok z.hx z.hy.neg
  rw [← Rat.sub_eq_add_neg] at b2
  have b3 := told_ok z.sub N4
  have c1 := product_ok z.hx z.hy
  have c2 := lmul_ok z.hx z.hy
  have c3 := told_ok z.mul N4
  have d3 := told_ok z.hx.neg N4
  have e1 := size_of_ok x
  have e3 : f_law_told [.fz (.tup [.int (x.num.natAbs : Int), .int (x.den : Int)]), .fz (.tup [.int (x.num.natAbs : Int), .int (x.den : Int)])] = .ok (.bl true) [] := told_ok (x := absR x) (N := NB) ⟨by show ((x.num.natAbs : Nat) : Int).natAbs < _; rw [Int.natAbs_natCast]; exact z.hx.n, z.hx.d⟩ N4
  have f1 := powered_ok (x := x) (K := k) hk z.pw z.hx
  have f2 : f_powered [.fz (frD x), .fz (.int 0)] = .ok (frD 1) [] := powered_ok (x := x) (K := 0) (by decide) (fun j hj => z.pw j (by omega)) z.hx
  have f3 := told_ok (z.pw k (Nat.le_refl k)) N4
  have f4 : f_law_told [.fz (frD 1), .fz (.tup [.int 1, .int 1])] = .ok (.bl true) [] := told_ok (x := 1) (N := 1) ⟨by decide, Nat.one_lt_two_pow (by decide)⟩ (by decide)
  have g1 : y = 0 → f_law_is_bad [.fz (.str "over"), .fz (frD x), .fz (frD y)] = .ok (.bl true) [] := fun h => by
    rw [h]
    exact is_bad_ok (o := .bad) (asked_over (o := .bad) (over_bad (x := 0)))
  have g2 : y ≠ 0 → f_over [.fz (frD x), .fz (frD y)] = .ok (frD (x / y)) [] := fun h => over_ok z.hx z.hy h z.yn
  have g3 : y ≠ 0 → f_law_div [.fz (frD x), .fz (frD y)] = .ok (frD (x / y)) [] := fun h => ldiv_ok z.hx z.hy h z.yn
  have g4 : y ≠ 0 → f_law_told [.fz (frD (x / y)), .fz (frD (x / y))] = .ok (.bl true) [] := fun h => told_ok (z.dv h) N4
  have h1 := less_ok z.hx z.hy
  have h2 := less_ok z.hy z.hx
  have i1 := compared_ok z.hx z.hy
  have i2 := compared_ok z.hy z.hx
  have i3 := compared_ok z.hx z.hx
  rw [cr_self, show sg 0 = 0 from rfl] at i3
  rw [cr_neg] at h2 i2
  rw [sg_neg] at i2
  have i4 : f_sign_of [.fz (frD x)] = .ok (.int (sg x.num)) [] := sign_of_ok
  have j1 := lesser_ok z.hx z.hy
  have j2 := greater_ok z.hx z.hy
  have tx := told_ok z.hx N4
  have ty := told_ok z.hy N4
  have ceq : cr x y = 0 → x = y := cr_eq
  have fd : x.num ≠ 0 → bopS .fdv (.int x.num) (.int (x.num.natAbs : Int)) = .d (.int (sg x.num)) := fun h => by
    rw [bopS_fdv (by omega) (pyl_of (by rw [Int.natAbs_natCast]; exact Nat.lt_of_lt_of_le z.xn (Nat.pow_le_pow_right (by decide) (by decide)))), sg_div h]
  have rr : ∀ j < k, f_law_mul [.fz (frD (rp x j)), .fz (frD x)] = .ok (frD (rp x (j + 1))) [] := fun j hj => lmul_ok (z.pw j (by omega)) z.hx
  rw [show f_law_sums = runDef (md.gam g_law_sums) ⟨10, b_law_sums⟩ from rfl, runDef_eq]
  simp only [b_law_sums, contsOf, slotsOf]
  obtain ⟨G, hG⟩ : ∃ G : Gam, G = { md.gam g_law_sums with io := ([] : List Cont).length } := ⟨_, rfl⟩
  have fns : G.fns = g_law_sums := by rw [hG]; rfl
  have io : G.io = 0 := by rw [hG]; rfl
  have con : G.con = md.con.map (·.2) := by rw [hG]; rfl
  have exq : G.exm = exmL md.exm := by rw [hG]; rfl
  have gq : g_law_sums = g_law_sums := rfl
  rw [← hG]
  have l0 := for_all (I := .rng 0 k) (body := fBody G (.nm 4) lp0_law_sums) (n := k) (fun i ρ st => st = [] ∧ ∃ t, ρ = [some (.fz (frD x)), some (.fz (frD y)), some (.fz (.int k)), some (.fz (frD (rp x i))), t, none, none, none, none, none]) (fun i ρ st _ _ => rfl)
    (fun i ρ st hi ⟨q1, t, q2⟩ => by
      subst q1 q2
      refine ⟨.int (0 + i), rfl, [some (.fz (frD x)), some (.fz (frD y)), some (.fz (.int k)), some (.fz (frD (rp x (i + 1)))), some (.fz (.int (0 + i))), none, none, none, none, none], [], .inl ?_, rfl, _, rfl⟩
      have p := rr i hi
      simp [lp0_law_sums, fns, gq, g_law_sums, io, p]) k 0 [some (.fz (frD x)), some (.fz (frD y)), some (.fz (.int k)), some (.fz (.tup [.int 1, .int 1])), none, none, none, none, none, none] [] (by omega) ⟨rfl, _, rfl⟩
  obtain ⟨ρ0, st0, e0, rfl, t, rfl⟩ := l0
  obtain ⟨vs, hvs⟩ : ∃ vs : List Int, vs = [sg (cr x y), -sg (cr x y), 0, sg x.num] := ⟨_, rfl⟩
  have l1 := for_all (I := .tup (vs.map fun v => D.tup [.int v, .int v])) (body := fBody G (.nm 7) lp1_law_sums) (n := vs.length) (fun i ρ st => st = [] ∧ ∃ s, ρ = [some (.fz (frD x)), some (.fz (frD y)), some (.fz (.int k)), some (.fz (frD (rp x k))), t, some (.fz (.int (sg (cr x y)))), some (.fz (.int (sg x.num))), s, none, none]) (fun i ρ st _ _ => by simp)
    (fun i ρ st hi ⟨q1, s, q2⟩ => by
      subst q1 q2
      have at_ : Iter.at [] i (.tup (vs.map fun v => D.tup [.int v, .int v])) = some (.tup [.int vs[i], .int vs[i]]) := by simp [hi]
      refine ⟨_, at_, [some (.fz (frD x)), some (.fz (frD y)), some (.fz (.int k)), some (.fz (frD (rp x k))), t, some (.fz (.int (sg (cr x y)))), some (.fz (.int (sg x.num))), some (.fz (.tup [.int vs[i], .int vs[i]])), none, none], [], .inl ?_, rfl, _, rfl⟩
      generalize vs[i] = v
      simp [lp1_law_sums, fns, gq, g_law_sums, io]) vs.length 0 [some (.fz (frD x)), some (.fz (frD y)), some (.fz (.int k)), some (.fz (frD (rp x k))), t, some (.fz (.int (sg (cr x y)))), some (.fz (.int (sg x.num))), none, none, none] [] (by omega) ⟨rfl, _, rfl⟩
  obtain ⟨ρ1, st1, e1', rfl, s, rfl⟩ := l1
  rw [hvs] at e1'
  simp at e1'
  have r1 : rngOk 0 = true := by decide
  have r2 : rngOk (k : Int) = true := rngOk_nat (by omega)
  have yz : y.num = 0 ↔ y = 0 := Rat.num_eq_zero
  simp [fns, gq, g_law_sums, io, a1, a2, a3, b1, b2, b3, c1, c2, c3, d3, e1, e3, fr0, fr1, abs_nat, kRng_eq r1 r2, e0, f1, f2, f3, f4]
  have rest : fin 0 (((SR.nx [some (.fz (frD x)), some (.fz (frD y)), some (.fz (.int k)), some (.fz (frD (rp x k))), t, none, none, none, none, none] []).bind (kSeq G (match b_law_sums with
    | .cons _ (.cons _ (.cons _ (.cons _ (.cons _ (.cons _ (.cons _ r)))))) => r
    | r => r)))) = .ok (.bl true) [] := by
    simp only [b_law_sums, SR.bind_nx', kSeq_eq]
    clear a1 a2 a3 b1 b2 b3 c1 c2 c3 d3 e1 e3 e0 f1 f2 f3 f4 g1 g2 g3 g4
    rcases Int.lt_trichotomy (cr x y) 0 with h | h | h
    · have sgn : sg (cr x y) = -1 := by unfold sg; rw [if_pos h]
      have hn : ¬ (0 < cr x y) := by omega
      rw [sgn] at i1 i2 e1' j1 j2
      simp at j1 j2
      by_cases hx0 : x.num = 0
      · have s0 : sg x.num = 0 := by rw [hx0]; rfl
        rw [s0] at i4 e1'
        try simp at i2
        try simp at e1'
        simp [fns, gq, g_law_sums, io, h1, h2, h, hn, fr0, hx0, i1, i2, i3, i4, e1', j1, j2, tx, ty]
      · have fd' := fd hx0
        try simp at i2
        try simp at e1'
        simp [fns, gq, g_law_sums, io, h1, h2, h, hn, fr0, hx0, abs_nat, fd', i1, i2, i3, i4, e1', j1, j2, tx, ty]
    · have sgn : sg (cr x y) = 0 := by rw [h]; rfl
      have txy : f_law_told [.fz (frD x), .fz (frD y)] = .ok (.bl true) [] := by rw [← ceq h]; exact tx
      have hn : ¬ (0 < cr x y) := by omega
      have hm : ¬ (cr x y < 0) := by omega
      rw [sgn] at i1 i2 e1' j1 j2
      simp at j1 j2
      by_cases hx0 : x.num = 0
      · have s0 : sg x.num = 0 := by rw [hx0]; rfl
        rw [s0] at i4 e1'
        try simp at i2
        try simp at e1'
        simp [fns, gq, g_law_sums, io, h1, h2, hm, hn, fr0, hx0, i1, i2, i3, i4, e1', j1, j2, tx, ty, txy]
      · have fd' := fd hx0
        try simp at i2
        try simp at e1'
        simp [fns, gq, g_law_sums, io, h1, h2, hm, hn, fr0, hx0, abs_nat, fd', i1, i2, i3, i4, e1', j1, j2, tx, ty, txy]
    · have sgn : sg (cr x y) = 1 := by unfold sg; rw [if_neg (by omega), if_pos h]
      have hm : ¬ (cr x y < 0) := by omega
      rw [sgn] at i1 i2 e1' j1 j2
      simp at j1 j2
      by_cases hx0 : x.num = 0
      · have s0 : sg x.num = 0 := by rw [hx0]; rfl
        rw [s0] at i4 e1'
        try simp at i2
        try simp at e1'
        simp [fns, gq, g_law_sums, io, h1, h2, hm, h, fr0, hx0, i1, i2, i3, i4, e1', j1, j2, tx, ty]
      · have fd' := fd hx0
        try simp at i2
        try simp at e1'
        simp [fns, gq, g_law_sums, io, h1, h2, hm, h, fr0, hx0, abs_nat, fd', i1, i2, i3, i4, e1', j1, j2, tx, ty]
  refine (fun X (h : X = SR.nx [some (.fz (frD x)), some (.fz (frD y)), some (.fz (.int k)), some (.fz (frD (rp x k))), t, none, none, none, none, none] []) => by rw [h]; exact rest : ∀ X, X = SR.nx [some (.fz (frD x)), some (.fz (frD y)), some (.fz (.int k)), some (.fz (frD (rp x k))), t, none, none, none, none, none] [] → fin 0 (X.bind (kSeq G _)) = _) _ ?_
  by_cases hy0 : y = 0
  · have q1 := g1 hy0
    rw [if_pos hy0]
    simp [q1]
  · rw [if_neg hy0]
    have q2 := g2 hy0
    have q3 := g3 hy0
    have q4 := g4 hy0
    simp [fns, gq, g_law_sums, io, q2, q3, q4]
end K00

/-! G7 -/
set_option Elab.async false
set_option linter.all false
set_option maxRecDepth 100000
set_option maxHeartbeats 4000000
namespace K00
open PySem PD L2 FR
theorem seq_map (f : Nat → Rat) (n : Nat) : ((List.range n).map fun i => frD (f i)) = ((List.range n).map f).map frD := by simp [Function.comp_def]
theorem rows_ok {f : Nat → Rat} {n : Nat} (hn : n < 1000) (h1 : ∀ j < n, Sz NB (f j)) (h2 : ∀ j ≤ n, Sz NB (ps f j)) : f_law_rows [.fz (.lst ((List.range n).map fun i => frD (f i)))] = .ok (.bl true) [] := by
  obtain ⟨ds, hds⟩ : ∃ ds, ds = (List.range n).map fun i => frD (f i) := ⟨_, rfl⟩
  have s1 := sum_ok (f := f) (n := n) (.inl rfl) h1 h2
  have s2 := sum_ok (f := f) (n := n) (.inr rfl) h1 h2
  have e1 := eqS_row ((List.range n).map f) ((List.range n).map f)
  rw [← seq_map] at e1
  have t1 := told_ok (h2 n (Nat.le_refl n)) (by decide)
  have z1 : f_sum_of [.fz (.lst [])] = .ok (frD 0) [] := sum_ok (f := f) (n := 0) (.inl rfl) (fun j hj => by omega) (fun j hj => h2 j (by omega))
  have z2 : f_sum_of [.fz (.tup [])] = .ok (frD 0) [] := sum_ok (f := f) (n := 0) (.inr rfl) (fun j hj => by omega) (fun j hj => h2 j (by omega))
  have t2 : f_law_told [.fz (frD 0), .fz (.tup [.int 0, .int 1])] = .ok (.bl true) [] := told_ok (x := 0) (N := 1) ⟨by decide, Nat.one_lt_two_pow (by decide)⟩ (by decide)
  have dl : ds.length = n := by rw [hds]; simp
  have dat : ∀ i, i < n → ds[i]? = some (frD (f i)) := fun i hi => by rw [hds]; simp [hi]
  rw [← hds] at s1 s2 e1 ⊢
  rw [show f_law_rows = runDef (md.gam g_law_rows) ⟨4, b_law_rows⟩ from rfl, runDef_eq]
  simp only [b_law_rows, contsOf, slotsOf]
  obtain ⟨G, hG⟩ : ∃ G : Gam, G = { md.gam g_law_rows with io := ([] : List Cont).length } := ⟨_, rfl⟩
  have fns : G.fns = g_law_rows := by rw [hG]; rfl
  have io : G.io = 0 := by rw [hG]; rfl
  have con : G.con = md.con.map (·.2) := by rw [hG]; rfl
  have exq : G.exm = exmL md.exm := by rw [hG]; rfl
  have gq : g_law_rows = g_law_rows := rfl
  rw [← hG]
  have loop := for_all (I := .lst (.fz (.lst ds))) (body := fBody G (.nm 2) lp0_law_rows) (n := n) (fun i ρ st => st = [] ∧ ∃ x, ρ = [some (.fz (.lst ds)), some (.fz (frD (ps f i))), x, none]) (fun i ρ st _ _ => by simp [dl])
    (fun i ρ st hi ⟨q1, x, q2⟩ => by
      subst q1 q2
      refine ⟨frD (f i), by simp [dat i hi], [some (.fz (.lst ds)), some (.fz (frD (ps f (i + 1)))), some (.fz (frD (f i))), none], [], .inl ?_, rfl, _, rfl⟩
      have p : f_law_add [.fz (frD (ps f i)), .fz (frD (f i))] = .ok (frD (ps f (i + 1))) [] := ladd_ok (h2 i (by omega)) (h1 i hi)
      simp [lp0_law_rows, fns, gq, g_law_rows, io, p]) n 0 [some (.fz (.lst ds)), some (.fz (.tup [.int 0, .int 1])), none, none] [] (by omega) ⟨rfl, _, rfl⟩
  obtain ⟨ρ', st', e, rfl, x, rfl⟩ := loop
  simp [dl, e, fns, gq, g_law_rows, io, s1, s2, e1, t1, z1, z2, t2, fr_at]
/-- what the law's products of pairs want -/
structure CpSz (a b c d : Rat) : Prop where
  z : CSz a b c d
  cc : Sz NB (c * c)
  dd : Sz NB (d * d)
  sz : Sz NB (c * c + d * d)
  sn : (c * c + d * d).num.natAbs < 2 ^ 4500
  pa : Sz NB (a + c)
  pb : Sz NB (b + d)
  re : Sz NB (a * c - b * d)
  im : Sz NB (a * d + b * c)
  re2 : Sz NB (a * c + b * d)
  im2 : Sz NB (b * c - a * d)
  q1 : c * c + d * d ≠ 0 → Sz NB ((a * c + b * d) / (c * c + d * d))
  q2 : c * c + d * d ≠ 0 → Sz NB ((b * c - a * d) / (c * c + d * d))
theorem across_bad {a b c d : Rat} (z : CpSz a b c d) (h0 : c * c + d * d = 0) : f_law_is_bad [.fz (.str "across"), .fz (cD a b), .fz (cD c d)] = .ok (.bl true) [] :=
  is_bad_ok (o := .bad) (asked_across (o := .bad) (complex_over_bad z.z.c_ z.z.d_ z.cc z.dd h0))
theorem lcomplex_ok {a b c d : Rat} (z : CpSz a b c d) : f_law_complex [.fz (cD a b), .fz (cD c d)] = .ok (.bl true) [] := by
  have N4 : NB ≤ 4000000 := by decide
  have p1 := complex_plus_ok z.z
  have p2 := ladd_ok z.z.a_ z.z.c_
  have p3 := ladd_ok z.z.b_ z.z.d_
  have p4 : f_law_is_pair [.fz (cD (a + c) (b + d)), .fz (.tup [frD (a + c), frD (b + d)])] = .ok (.bl true) [] := is_pair_ok z.pa z.pb N4
  have m1 := lmul_ok z.z.a_ z.z.c_
  have m2 := lmul_ok z.z.b_ z.z.d_
  have m3 := lmul_ok z.z.a_ z.z.d_
  have m4 := lmul_ok z.z.b_ z.z.c_
  have r1 : f_law_add [.fz (frD (a * c)), .fz (frD (-(b * d)))] = .ok (frD (a * c - b * d)) [] := by
    rw [Rat.sub_eq_add_neg]
    exact ladd_ok z.z.ac z.z.bd.neg
  have r2 := ladd_ok z.z.ad z.z.bc
  have t1 := complex_times_ok z.z
  have t2 : f_law_is_pair [.fz (cD (a * c - b * d) (a * d + b * c)), .fz (.tup [frD (a * c - b * d), frD (a * d + b * c)])] = .ok (.bl true) [] := is_pair_ok z.re z.im N4
  have n1 := lmul_ok z.z.c_ z.z.c_
  have n2 := lmul_ok z.z.d_ z.z.d_
  have n3 := ladd_ok z.cc z.dd
  have n4 := size_squared_ok z.z.c_ z.z.d_ z.cc z.dd
  have n5 := told_ok z.sz N4
  have sz0 : (c * c + d * d).num = 0 ↔ c * c + d * d = 0 := Rat.num_eq_zero
  have s1 := ladd_ok z.z.ac z.z.bd
  have s2 : f_law_add [.fz (frD (b * c)), .fz (frD (-(a * d)))] = .ok (frD (b * c - a * d)) [] := by
    rw [Rat.sub_eq_add_neg]
    exact ladd_ok z.z.bc z.z.ad.neg
  by_cases h0 : c * c + d * d = 0
  · have ab := across_bad z h0
    rw [h0] at n3 n4 n5
    rw [show f_law_complex = runDef (md.gam g_law_complex) ⟨5, b_law_complex⟩ from rfl, runDef_eq]
    simp only [b_law_complex, contsOf, slotsOf]
    obtain ⟨G, hG⟩ : ∃ G : Gam, G = { md.gam g_law_complex with io := ([] : List Cont).length } := ⟨_, rfl⟩
    have fns : G.fns = g_law_complex := by rw [hG]; rfl
    have io : G.io = 0 := by rw [hG]; rfl
    have con : G.con = md.con.map (·.2) := by rw [hG]; rfl
    have exq : G.exm = exmL md.exm := by rw [hG]; rfl
    have gq : g_law_complex = g_law_complex := rfl
    rw [← hG]
    have i0 : idxS (frD 0) (.int 0) = some (.int 0) := fr0 0
    generalize a * c - b * d = re at *
    generalize a * d + b * c = im at *
    simp [fns, gq, g_law_complex, io, p1, p2, p3, p4, m1, m2, m3, m4, r1, r2, t1, t2, n1, n2, n3, n4, n5, i0, ab]
  · have co := complex_over_ok (a := a) (b := b) (c := c) (d := d) ⟨z.z.a_, z.z.b_, z.z.c_, z.z.d_.neg, z.z.ac, by rw [Rat.mul_neg]; exact z.z.bd.neg, by rw [Rat.mul_neg]; exact z.z.ad.neg, z.z.bc⟩ z.z.d_ z.cc z.dd z.sz h0 z.sn
      (by rw [Rat.mul_neg, Rat.sub_eq_add_neg, Rat.neg_neg]; exact z.re2) (by rw [Rat.mul_neg, Rat.add_comm, ← Rat.sub_eq_add_neg]; exact z.im2)
    rw [show a * c - b * (-d) = a * c + b * d by rw [Rat.mul_neg, Rat.sub_eq_add_neg, Rat.neg_neg], show a * (-d) + b * c = b * c - a * d by rw [Rat.mul_neg, Rat.add_comm, ← Rat.sub_eq_add_neg]] at co
    have d1 := ldiv_ok z.re2 z.sz h0 z.sn
    have d2 := ldiv_ok z.im2 z.sz h0 z.sn
    have d3 : f_law_is_pair [.fz (cD ((a * c + b * d) / (c * c + d * d)) ((b * c - a * d) / (c * c + d * d))), .fz (.tup [frD ((a * c + b * d) / (c * c + d * d)), frD ((b * c - a * d) / (c * c + d * d))])] = .ok (.bl true) [] := is_pair_ok (z.q1 h0) (z.q2 h0) N4
    have hz : ¬ (c * c + d * d).num = 0 := fun w => h0 (sz0.mp w)
    rw [show f_law_complex = runDef (md.gam g_law_complex) ⟨5, b_law_complex⟩ from rfl, runDef_eq]
    simp only [b_law_complex, contsOf, slotsOf]
    obtain ⟨G, hG⟩ : ∃ G : Gam, G = { md.gam g_law_complex with io := ([] : List Cont).length } := ⟨_, rfl⟩
    have fns : G.fns = g_law_complex := by rw [hG]; rfl
    have io : G.io = 0 := by rw [hG]; rfl
    have con : G.con = md.con.map (·.2) := by rw [hG]; rfl
    have exq : G.exm = exmL md.exm := by rw [hG]; rfl
    have gq : g_law_complex = g_law_complex := rfl
    rw [← hG]
    generalize (a * c + b * d) / (c * c + d * d) = w1 at *
    generalize (b * c - a * d) / (c * c + d * d) = w2 at *
    generalize c * c + d * d = sq at *
    generalize a * c - b * d = re at *
    generalize a * d + b * c = im at *
    generalize a * c + b * d = re2 at *
    generalize b * c - a * d = im2 at *
    simp [fns, gq, g_law_complex, io, p1, p2, p3, p4, m1, m2, m3, m4, r1, r2, t1, t2, n1, n2, n3, n4, n5, fr0, hz, s1, s2, co, d1, d2, d3]
end K00

/-! G8 -/
set_option Elab.async false
set_option linter.all false
set_option maxRecDepth 100000
set_option maxHeartbeats 4000000
namespace K00
open PySem PD L2 FR
/-- a drawn number, or one made of drawn whole numbers -/
structure Mn (x : Rat) : Prop where
  n : x.num.natAbs < 2 ^ 220
  d : x.den < 2 ^ 220
theorem Mn.of_nm {x : Rat} (h : Nm x) : Mn x := ⟨Nat.lt_of_lt_of_le h.n (Nat.pow_le_pow_right (by decide) (by decide)), Nat.lt_of_lt_of_le h.d (Nat.pow_le_pow_right (by decide) (by decide))⟩
theorem Mn.zero : Mn 0 := ⟨Nat.two_pow_pos _, Nat.one_lt_two_pow (by decide)⟩
theorem Mn.gd {x : Rat} (h : Mn x) : Gd x := ⟨Nat.lt_of_lt_of_le h.n (Nat.pow_le_pow_right (by decide) (by decide)), Nat.lt_of_lt_of_le h.d (Nat.pow_le_pow_right (by decide) (by decide))⟩
theorem Mn.big {x : Rat} (h : Mn x) : big x = false := by
  have l := lt_gr
  have l2 : 2 ^ 220 < 2 ^ 221 := Nat.pow_lt_pow_right (by decide) (by decide)
  have := h.n
  have := h.d
  unfold K00.big
  rw [GR_eq]
  simp only [Bool.or_eq_false_iff, decide_eq_false_iff_not]
  omega
theorem Mn.qz {x : Rat} (h : Mn x) : Qz x.den 220 x := ⟨Nat.dvd_refl _, h.n⟩
theorem Mn.sz {x : Rat} (h : Mn x) : Sz NB x := ⟨Nat.lt_of_lt_of_le h.n (Nat.pow_le_pow_right (by decide) (by decide)), Nat.lt_of_lt_of_le h.d (Nat.pow_le_pow_right (by decide) (by decide))⟩
theorem ok_lt {W K : Nat} (hW : W ≠ 0) (h : W ≤ 2 ^ K) (hK : K < 4400) : Ok W := ⟨hW, Nat.lt_of_le_of_lt h (Nat.pow_lt_pow_right (by decide) hK)⟩
theorem mul_le_pow {a b m n : Nat} (ha : a ≤ 2 ^ m) (hb : b ≤ 2 ^ n) : a * b ≤ 2 ^ (m + n) := by rw [Nat.pow_add]; exact Nat.mul_le_mul ha hb
theorem pow_le_pow' {a m : Nat} (ha : a ≤ 2 ^ m) (k : Nat) : a ^ k ≤ 2 ^ (m * k) := by rw [Nat.pow_mul]; exact Nat.pow_le_pow_left ha k
theorem ssz {x y : Rat} (hx : Mn x) (hy : Mn y) {k : Nat} (hk : k ≤ 8) : SSz x y k := by
  have lx := Nat.le_of_lt hx.d
  have ly := Nat.le_of_lt hy.d
  have w : Ok (x.den * y.den) := ok_lt (Nat.mul_ne_zero x.den_nz y.den_nz) (mul_le_pow lx ly) (by decide)
  have qx : Qz (x.den * y.den) 220 x := hx.qz.mono (Nat.dvd_mul_right _ _) (Nat.le_refl _)
  have qy : Qz (x.den * y.den) 220 y := hy.qz.mono (Nat.dvd_mul_left _ _) (Nat.le_refl _)
  refine ⟨hx.sz, hy.sz, (qx.add w qy).sz w (by decide), (qx.sub w qy).sz w (by decide), (Qz.mul x.den_nz y.den_nz hx.qz hy.qz).sz w (by decide), fun j hj => ?_, fun h0 => ?_, Nat.lt_of_lt_of_le hy.n (Nat.pow_le_pow_right (by decide) (by decide)), Nat.lt_of_lt_of_le hx.n (Nat.pow_le_pow_right (by decide) (by decide))⟩
  · have w2 : Ok (x.den ^ j) := ok_lt (pow_nz _ x.den_nz) (pow_le_pow' lx j) (by have := Nat.mul_le_mul_left 220 (show j ≤ 8 by omega); omega)
    exact (rp_qz x.den_nz hx.qz j).sz w2 (by show _ ≤ 1000000; have := Nat.mul_le_mul_right 220 (show j ≤ 8 by omega); omega)
  · have yn : y.num.natAbs ≠ 0 := fun z => h0 (Rat.num_eq_zero.mp (Int.natAbs_eq_zero.mp z))
    have w3 : Ok (x.den * y.num.natAbs) := ok_lt (Nat.mul_ne_zero x.den_nz yn) (mul_le_pow lx (Nat.le_of_lt hy.n)) (by decide)
    exact (Qz.div x.den_nz y.den_nz hy.d hx.qz hy.qz h0).sz w3 (by decide)
theorem sq_num {c d : Rat} (hc : Mn c) (hd : Mn d) : (c * c + d * d).num.natAbs < 2 ^ 881 := by
  have e1 := num_add (c * c) (d * d)
  have n1 := num_mul c c
  have n2 := num_mul d d
  have d1 : (c * c).den ≤ c.den * c.den := den_le (Nat.mul_ne_zero c.den_nz c.den_nz) (den_mul c.den_nz c.den_nz (Nat.dvd_refl _) (Nat.dvd_refl _))
  have d2 : (d * d).den ≤ d.den * d.den := den_le (Nat.mul_ne_zero d.den_nz d.den_nz) (den_mul d.den_nz d.den_nz (Nat.dvd_refl _) (Nat.dvd_refl _))
  have m1 : (c * c).num.natAbs ≤ 2 ^ (220 + 220) - 1 := by
    have h : c.num.natAbs * c.num.natAbs < 2 ^ 220 * 2 ^ 220 := Nat.mul_lt_mul'' hc.n hc.n
    rw [← Nat.pow_add] at h
    omega
  have m2 : (d * d).num.natAbs ≤ 2 ^ (220 + 220) - 1 := by
    have h : d.num.natAbs * d.num.natAbs < 2 ^ 220 * 2 ^ 220 := Nat.mul_lt_mul'' hd.n hd.n
    rw [← Nat.pow_add] at h
    omega
  have m3 : (c * c).den ≤ 2 ^ (220 + 220) := Nat.le_trans d1 (mul_le_pow (Nat.le_of_lt hc.d) (Nat.le_of_lt hc.d))
  have m4 : (d * d).den ≤ 2 ^ (220 + 220) := Nat.le_trans d2 (mul_le_pow (Nat.le_of_lt hd.d) (Nat.le_of_lt hd.d))
  have p1 := Nat.mul_le_mul m1 m4
  have p2 := Nat.mul_le_mul m2 m3
  have e : (2 : Nat) ^ 881 = 2 ^ (220 + 220) * 2 ^ (220 + 220) + 2 ^ (220 + 220) * 2 ^ (220 + 220) := by
    rw [← Nat.pow_add, ← Nat.mul_two, ← Nat.pow_succ]
  have q : 0 < 2 ^ (220 + 220) := Nat.two_pow_pos _
  rw [e]
  generalize 2 ^ (220 + 220) = T at *
  have s : (T - 1) * T = T * T - T := by rw [Nat.sub_mul, Nat.one_mul]
  have tt : T ≤ T * T := Nat.le_mul_of_pos_left T q
  omega
theorem cpsz {a b c d : Rat} (ha : Mn a) (hb : Mn b) (hc : Mn c) (hd : Mn d) : CpSz a b c d := by
  obtain ⟨P, hP⟩ : ∃ P, P = a.den * b.den * (c.den * d.den) := ⟨_, rfl⟩
  have P0 : P ≠ 0 := by
    rw [hP]
    exact Nat.mul_ne_zero (Nat.mul_ne_zero a.den_nz b.den_nz) (Nat.mul_ne_zero c.den_nz d.den_nz)
  have lP : P ≤ 2 ^ 880 := by
    rw [hP]
    exact mul_le_pow (m := 440) (n := 440) (mul_le_pow (m := 220) (n := 220) (Nat.le_of_lt ha.d) (Nat.le_of_lt hb.d)) (mul_le_pow (m := 220) (n := 220) (Nat.le_of_lt hc.d) (Nat.le_of_lt hd.d))
  have da : a.den ∣ P := by rw [hP]; exact Nat.dvd_trans (Nat.dvd_mul_right _ _) (Nat.dvd_mul_right _ _)
  have db : b.den ∣ P := by rw [hP]; exact Nat.dvd_trans (Nat.dvd_mul_left _ _) (Nat.dvd_mul_right _ _)
  have dc : c.den ∣ P := by rw [hP]; exact Nat.dvd_trans (Nat.dvd_mul_right _ _) (Nat.dvd_mul_left _ _)
  have dd : d.den ∣ P := by rw [hP]; exact Nat.dvd_trans (Nat.dvd_mul_left _ _) (Nat.dvd_mul_left _ _)
  have w1 : Ok P := ok_lt P0 lP (by decide)
  have w2 : Ok (P * P) := ok_lt (Nat.mul_ne_zero P0 P0) (mul_le_pow lP lP) (by decide)
  have qa : Qz P 220 a := ha.qz.mono da (Nat.le_refl _)
  have qb : Qz P 220 b := hb.qz.mono db (Nat.le_refl _)
  have qc : Qz P 220 c := hc.qz.mono dc (Nat.le_refl _)
  have qd : Qz P 220 d := hd.qz.mono dd (Nat.le_refl _)
  have mu : ∀ {u v : Rat}, Qz P 220 u → Qz P 220 v → Qz (P * P) 440 (u * v) := fun h k => Qz.mul P0 P0 h k
  have ac := mu qa qc
  have bd := mu qb qd
  have ad := mu qa qd
  have bc := mu qb qc
  have cc := mu qc qc
  have dd2 := mu qd qd
  have sz := cc.add w2 dd2
  have re2 := ac.add w2 bd
  have im2 := bc.sub w2 ad
  have sn := sq_num hc hd
  have dv : ∀ {u : Rat}, Qz (P * P) (440 + 4401) u → c * c + d * d ≠ 0 → Sz NB (u / (c * c + d * d)) := fun {u} h h0 => by
    have n0 : (c * c + d * d).num.natAbs ≠ 0 := fun z => h0 (Rat.num_eq_zero.mp (Int.natAbs_eq_zero.mp z))
    have w3 : Ok (P * P * (c * c + d * d).num.natAbs) := ok_lt (Nat.mul_ne_zero (Nat.mul_ne_zero P0 P0) n0) (mul_le_pow (mul_le_pow lP lP) (Nat.le_of_lt sn)) (by decide)
    have pp : P * P < 2 ^ 1761 := Nat.lt_of_le_of_lt (mul_le_pow lP lP) (Nat.pow_lt_pow_right (by decide) (by decide))
    exact (Qz.div w2.p w2.p pp h sz h0).sz w3 (by decide)
  exact ⟨⟨ha.sz, hb.sz, hc.sz, hd.sz, ac.sz w2 (by decide), bd.sz w2 (by decide), ad.sz w2 (by decide), bc.sz w2 (by decide)⟩, cc.sz w2 (by decide), dd2.sz w2 (by decide), sz.sz w2 (by decide), Nat.lt_of_lt_of_le sn (Nat.pow_le_pow_right (by decide) (by decide)),
    (qa.add w1 qc).sz w1 (by decide), (qb.add w1 qd).sz w1 (by decide), (ac.sub w2 bd).sz w2 (by decide), (ad.add w2 bc).sz w2 (by decide), re2.sz w2 (by decide), im2.sz w2 (by decide), dv re2, dv im2⟩
def dprod (f : Nat → Rat) : Nat → Nat
  | 0 => 1
  | n + 1 => dprod f n * (f n).den
theorem dprod_ne (f : Nat → Rat) : ∀ n, dprod f n ≠ 0
  | 0 => Nat.one_ne_zero
  | n + 1 => Nat.mul_ne_zero (dprod_ne f n) (f n).den_nz
theorem dprod_dvd (f : Nat → Rat) : ∀ {n k : Nat}, k < n → (f k).den ∣ dprod f n
  | n + 1, k, h => by
    by_cases e : k = n
    · subst e; exact Nat.dvd_mul_left _ _
    · exact Nat.dvd_trans (dprod_dvd f (n := n) (by omega)) (Nat.dvd_mul_right _ _)
theorem dprod_le {f : Nat → Rat} : ∀ {n : Nat}, (∀ k < n, Mn (f k)) → dprod f n ≤ 2 ^ (220 * n)
  | 0, _ => Nat.le_refl 1
  | n + 1, h => by
    have h1 := dprod_le (f := f) (n := n) fun k hk => h k (by omega)
    rw [show 220 * (n + 1) = 220 * n + 220 by omega]
    exact mul_le_pow h1 (Nat.le_of_lt (h n (by omega)).d)
theorem rows_sz {f : Nat → Rat} {n : Nat} (hn : n ≤ 6) (h : ∀ k < n, Mn (f k)) : ∀ j ≤ n, Sz NB (ps f j) := by
  intro j hj
  have w : Ok (dprod f n) := ok_lt (dprod_ne f n) (dprod_le h) (by have := Nat.mul_le_mul_left 220 hn; omega)
  exact (Qz.ps w (n := j) (N := 220) fun k hk => (h k (by omega)).qz.mono (dprod_dvd f (by omega)) (Nat.le_refl _)).sz w (by show _ ≤ 1000000; have := Nat.mul_le_mul_left 4401 (show j ≤ 6 by omega); omega)
/-! ### drawing -/
theorem pow60 : (60 : Nat) ^ 36 < 2 ^ 213 := by decide +kernel
theorem int_ok {ds : List D} (h : IsWell ds) : ∃ (v : Int) (ds' : List D), v.natAbs < 2 ^ 213 ∧ IsWell ds' ∧ f_law_int [.mu (.lst ds)] = .ok (.int v) [.lst ds'] := by
  obtain ⟨r, ds1, r0, r1, h1, e1⟩ := pull_ok h (t := 3) (by decide)
  by_cases hr : r = 0
  · obtain ⟨s, ds2, s0, s1, h2, e2⟩ := pull_ok h1 (t := 13) (by decide)
    refine ⟨s - 6, ds2, by omega, h2, ?_⟩
    rw [show f_law_int = runDef (md.gam g_law_int) ⟨3, b_law_int⟩ from rfl, runDef_eq]
    simp only [b_law_int, contsOf, slotsOf]
    obtain ⟨G, hG⟩ : ∃ G : Gam, G = { md.gam g_law_int with io := ([.lst ds] : List Cont).length } := ⟨_, rfl⟩
    have fns : G.fns = g_law_int := by rw [hG]; rfl
    have io : G.io = 1 := by rw [hG]; rfl
    have con : G.con = md.con.map (·.2) := by rw [hG]; rfl
    have exq : G.exm = exmL md.exm := by rw [hG]; rfl
    have gq : g_law_int = g_law_int := rfl
    rw [← hG]
    simp [fns, gq, g_law_int, io, kCal2_m1, e1, hr, e2]
  · obtain ⟨n, ds2, n0, n1, h2, e2⟩ := pull_ok h1 (t := 37) (by decide)
    obtain ⟨k, rfl⟩ := Int.eq_ofNat_of_zero_le n0
    have lp : ∀ G : Gam, G.fns = g_law_int → G.io = 1 → ∃ ρ' st', forLoop (.rng 0 k) (fBody G (.nm 2) lp0_law_int) k 0 [some (.loc 0), some (.fz (.int 0)), none] [.lst ds2] = .nx ρ' st' ∧ ∃ ds m x, IsWell ds ∧ 0 ≤ m ∧ m < (60 : Int) ^ k ∧ st' = [.lst ds] ∧ ρ' = [some (.loc 0), some (.fz (.int m)), x] := fun G fns io => by
      refine for_all (I := .rng 0 k) (body := fBody G (.nm 2) lp0_law_int) (n := k) (fun i ρ st => ∃ ds m x, IsWell ds ∧ 0 ≤ m ∧ m < (60 : Int) ^ i ∧ st = [.lst ds] ∧ ρ = [some (.loc 0), some (.fz (.int m)), x]) (fun i ρ st _ _ => rfl) (fun i ρ st hi ⟨ds, m, x, hw, m0, m1, q1, q2⟩ => ?_) k 0 _ [.lst ds2] (by omega) ⟨ds2, 0, none, h2, by omega, by simp, rfl, rfl⟩
      subst q1 q2
      obtain ⟨s, ds3, s0, s1, h3, e3⟩ := pull_ok hw (t := 60) (by decide)
      have mb : m.natAbs < 2 ^ 213 := by
        have : (60 : Int) ^ i ≤ (60 : Int) ^ 36 := by
          have := Nat.pow_le_pow_right (n := 60) (by decide) (show i ≤ 36 by omega)
          exact_mod_cast this
        have := pow60
        have e : ((60 ^ 36 : Nat) : Int) = (60 : Int) ^ 36 := by norm_cast
        omega
      have mm : mok m 60 = true := mok_of (N := 213) (M := 6) mb (by decide) (by decide)
      refine ⟨.int (0 + i), rfl, [some (.loc 0), some (.fz (.int (m * 60 + s))), some (.fz (.int (0 + i)))], [.lst ds3], .inl ?_, ds3, m * 60 + s, _, h3, by omega, ?_, rfl, rfl⟩
      · simp [lp0_law_int, fns, g_law_int, io, bopS_mul mm, kCal2_m1, e3]
      · rw [Int.pow_succ]
        omega
    have mb : ∀ m : Int, 0 ≤ m → m < (60 : Int) ^ k → m.natAbs < 2 ^ 213 := fun m m0 m1 => by
      have : (60 : Int) ^ k ≤ (60 : Int) ^ 36 := by
        have := Nat.pow_le_pow_right (n := 60) (by decide) (show k ≤ 36 by omega)
        exact_mod_cast this
      have := pow60
      have e : ((60 ^ 36 : Nat) : Int) = (60 : Int) ^ 36 := by norm_cast
      omega
    obtain ⟨G0, hG0⟩ : ∃ G : Gam, G = { md.gam g_law_int with io := ([.lst ds] : List Cont).length } := ⟨_, rfl⟩
    obtain ⟨ρ', st', e3, ds3, m, x, h3, m0, m1, rfl, rfl⟩ := lp G0 (by rw [hG0]; rfl) (by rw [hG0]; rfl)
    obtain ⟨s, ds4, s0, s1, h4, e4⟩ := pull_ok h3 (t := 2) (by decide)
    have rk : rngOk (k : Int) = true := rngOk_nat (by omega)
    by_cases hs : s = 1
    · refine ⟨-m, ds4, by rw [Int.natAbs_neg]; exact mb m m0 m1, h4, ?_⟩
      rw [show f_law_int = runDef (md.gam g_law_int) ⟨3, b_law_int⟩ from rfl, runDef_eq]
      simp only [b_law_int, contsOf, slotsOf]
      obtain ⟨G, hG⟩ : ∃ G : Gam, G = { md.gam g_law_int with io := ([.lst ds] : List Cont).length } := ⟨_, rfl⟩
      have fns : G.fns = g_law_int := by rw [hG]; rfl
      have io : G.io = 1 := by rw [hG]; rfl
      have con : G.con = md.con.map (·.2) := by rw [hG]; rfl
      have exq : G.exm = exmL md.exm := by rw [hG]; rfl
      have gq : g_law_int = g_law_int := rfl
      rw [← hG]
      have eG : G = G0 := by rw [hG, hG0]
      rw [← eG] at e3
      simp [fns, gq, g_law_int, io, kCal2_m1, e1, hr, e2, kRng_eq (i := 0) (by decide) rk, e3, e4, hs]
    · refine ⟨m, ds4, mb m m0 m1, h4, ?_⟩
      rw [show f_law_int = runDef (md.gam g_law_int) ⟨3, b_law_int⟩ from rfl, runDef_eq]
      simp only [b_law_int, contsOf, slotsOf]
      obtain ⟨G, hG⟩ : ∃ G : Gam, G = { md.gam g_law_int with io := ([.lst ds] : List Cont).length } := ⟨_, rfl⟩
      have fns : G.fns = g_law_int := by rw [hG]; rfl
      have io : G.io = 1 := by rw [hG]; rfl
      have con : G.con = md.con.map (·.2) := by rw [hG]; rfl
      have exq : G.exm = exmL md.exm := by rw [hG]; rfl
      have gq : g_law_int = g_law_int := rfl
      rw [← hG]
      have eG : G = G0 := by rw [hG, hG0]
      rw [← eG] at e3
      simp [fns, gq, g_law_int, io, kCal2_m1, e1, hr, e2, kRng_eq (i := 0) (by decide) rk, e3, e4, hs]
theorem any_ok {ds : List D} (h : IsWell ds) : ∃ (x : Rat) (ds' : List D), Mn x ∧ IsWell ds' ∧ f_law_any [.mu (.lst ds)] = .ok (frD x) [.lst ds'] := by
  obtain ⟨r, ds1, r0, r1, h1, e1⟩ := pull_ok h (t := 2) (by decide)
  by_cases hr : r = 0
  · obtain ⟨x, ds2, hx, h2, e2⟩ := number_ok h1
    refine ⟨x, ds2, .of_nm hx, h2, ?_⟩
    rw [show f_law_any = runDef (md.gam g_law_any) ⟨2, b_law_any⟩ from rfl, runDef_eq]
    simp only [b_law_any, contsOf, slotsOf]
    obtain ⟨G, hG⟩ : ∃ G : Gam, G = { md.gam g_law_any with io := ([.lst ds] : List Cont).length } := ⟨_, rfl⟩
    have fns : G.fns = g_law_any := by rw [hG]; rfl
    have io : G.io = 1 := by rw [hG]; rfl
    have con : G.con = md.con.map (·.2) := by rw [hG]; rfl
    have exq : G.exm = exmL md.exm := by rw [hG]; rfl
    have gq : g_law_any = g_law_any := rfl
    rw [← hG]
    simp [fns, gq, g_law_any, io, kCal2_m1, kCal2_m, e1, hr, e2]
  · obtain ⟨v, ds2, hv, h2, e2⟩ := int_ok h1
    obtain ⟨w, ds3, hw, h3, e3⟩ := int_ok h2
    have q0 : (1 : Int) + (w.natAbs : Int) ≠ 0 := by omega
    have qb : ((1 : Int) + (w.natAbs : Int)).natAbs < 2 ^ 214 := by
      have : (2 : Nat) ^ 214 = 2 ^ 213 + 2 ^ 213 := by rw [← Nat.mul_two, ← Nat.pow_succ]
      have := Nat.two_pow_pos 213
      omega
    have up : ∀ {z : Int} {N M : Nat}, z.natAbs < 2 ^ N → N ≤ M → z.natAbs < 2 ^ M := fun h l => Nat.lt_of_lt_of_le h (Nat.pow_le_pow_right (by decide) l)
    have fr := frac_ok (p := v) (q := 1 + (w.natAbs : Int)) q0 (bits_of hv (by decide)) (up qb (by decide))
    have sz : Mn (Rat.divInt v (1 + (w.natAbs : Int))) := by
      have e : (1 : Int) + (w.natAbs : Int) = ((w.natAbs + 1 : Nat) : Int) := by omega
      rw [e] at qb ⊢
      rw [Int.natAbs_natCast] at qb
      rw [Rat.divInt_ofNat]
      exact ⟨Nat.lt_of_le_of_lt (num_mkRat_le _ _ (by omega)) (up hv (by decide)), Nat.lt_of_le_of_lt (Nat.le_of_dvd (by omega) (den_mkRat_dvd _ _ (by omega))) (Nat.lt_of_lt_of_le qb (Nat.pow_le_pow_right (by decide) (by decide)))⟩
    refine ⟨_, ds3, sz, h3, ?_⟩
    rw [show f_law_any = runDef (md.gam g_law_any) ⟨2, b_law_any⟩ from rfl, runDef_eq]
    simp only [b_law_any, contsOf, slotsOf]
    obtain ⟨G, hG⟩ : ∃ G : Gam, G = { md.gam g_law_any with io := ([.lst ds] : List Cont).length } := ⟨_, rfl⟩
    have fns : G.fns = g_law_any := by rw [hG]; rfl
    have io : G.io = 1 := by rw [hG]; rfl
    have con : G.con = md.con.map (·.2) := by rw [hG]; rfl
    have exq : G.exm = exmL md.exm := by rw [hG]; rfl
    have gq : g_law_any = g_law_any := rfl
    rw [← hG]
    simp [fns, gq, g_law_any, io, kCal2_m1, kCal2_m, e1, hr, e2, e3, abs_nat, fr]
end K00

/-! K00Plain -/
set_option Elab.async false
set_option linter.all false
set_option maxRecDepth 100000
set_option maxHeartbeats 4000000
namespace K00
open PySem PD L2 FR
abbrev anyEx : Ex := .call 1 (.cons (.var 1) .nil)
theorem draw_loop : ∀ (k i : Nat) (ds : List D), IsWell ds → ∃ (xs : List Rat) (ds' : List D), xs.length = k ∧ (∀ x ∈ xs, Mn x) ∧ IsWell ds' ∧
    ∀ (G : Gam) (ρ : Slots) (rest : Store) (acc : List D) (N : Nat), i + k = N → G.fns[1]? = some ⟨[true], [], f_law_any⟩ → G.io = 0 → (∀ d, ((wipeS ρ [7]).set 7 (some (.fz d)))[1]? = some (some (.loc 0))) →
      lcLoop (.rng 0 N) (lBody G [7] (.nm 7) (.lit (.bl true)) anyEx ρ) k i acc (.lst ds :: rest) = .ok (acc ++ xs.map frD) (.lst ds' :: rest)
  | 0, i, ds, h => ⟨[], ds, rfl, by simp, h, fun G ρ rest acc N e _ _ _ => by
      show (if Iter.size _ (.rng 0 N) = some i then Res.ok acc _ else .stuck) = _
      rw [if_pos (by show some N = some i; rw [← e]; rfl)]
      simp⟩
  | k + 1, i, ds, h => by
    obtain ⟨x, ds1, hx, hw, e⟩ := any_ok h
    obtain ⟨xs, ds2, hl, ha, hw2, run⟩ := draw_loop k (i + 1) ds1 hw
    refine ⟨x :: xs, ds2, by simp [hl], ?_, hw2, fun G ρ rest acc N eN fns io r1 => ?_⟩
    · intro y hy
      rcases List.mem_cons.mp hy with rfl | hy
      · exact hx
      · exact ha y hy
    · have body : lBody G [7] (.nm 7) (.lit (.bl true)) anyEx ρ (.int (0 + i)) (.lst ds :: rest) = .ok [frD x] (.lst ds1 :: rest) := lBody_1 (by
        simp [ev_var (r1 _), fns, io, kCal2_m, e])
      show (if Iter.size _ (.rng 0 N) = some (i + (k + 1)) then pick (some (.int (0 + i))) fun d => (lBody G [7] (.nm 7) (.lit (.bl true)) anyEx ρ d (.lst ds :: rest)).bind fun ds st' => lcLoop (.rng 0 N) (lBody G [7] (.nm 7) (.lit (.bl true)) anyEx ρ) k (i + 1) (acc ++ ds) st' else .stuck) = _
      rw [if_pos (by show some N = _; rw [← eN])]
      simp only [pick_some', body, Res.bind_ok']
      rw [run G ρ rest (acc ++ [frD x]) N (by omega) fns io r1]
      simp
theorem draw_ok (n : Nat) {ds : List D} (hn : n < 1000) (h : IsWell ds) : ∃ (f : Nat → Rat) (ds' : List D), (∀ k < n, Mn (f k)) ∧ IsWell ds' ∧
    ∀ (G : Gam) (ρ : Slots) (rest : Store), G.fns[1]? = some ⟨[true], [], f_law_any⟩ → G.io = 0 → (∀ d, ((wipeS ρ [7]).set 7 (some (.fz d)))[1]? = some (some (.loc 0))) →
      kLc G ρ [7] (.nm 7) (.lit (.bl true)) anyEx (.rng 0 n) (.lst ds :: rest) = .ok (.loc (rest.length + 1)) (.lst ds' :: rest ++ [.lst ((List.range n).map fun i => frD (f i))]) := by
  obtain ⟨xs, ds', hl, ha, hw, run⟩ := draw_loop n 0 ds h
  refine ⟨fun i => xs.getD i 0, ds', fun k hk => ?_, hw, fun G ρ rest fns io r1 => ?_⟩
  · have hk' : k < xs.length := by omega
    have e : xs.getD k 0 = xs[k] := by simp [List.getD, hk']
    simp only [e]
    exact ha _ (List.getElem_mem hk')
  · rw [kLc_eq (n := n) rfl (by unfold LIM; omega), run G ρ rest [] n (by omega) fns io r1]
    have e : xs.map frD = (List.range n).map fun i => frD (xs.getD i 0) := by
      apply List.ext_getElem
      · simp [hl]
      · intro i h1 h2
        simp only [List.getElem_map, List.getElem_range]
        simp at h1
        simp [List.getD, h1]
    rw [List.nil_append, e]
    simp
theorem scales {r : Int} (h0 : 0 ≤ r) (h1 : r < 5) : ∃ v : Int, v ≠ 0 ∧ v.natAbs < 2 ^ 6 ∧ idxS (.lst [.int 2, .int (-1), .int 6, .int (-35), .int 60]) (.int r) = some (.int v) := by
  obtain ⟨k, rfl⟩ := Int.eq_ofNat_of_zero_le h0
  have hk : k < 5 := by omega
  rw [idx_lst (k := k) rfl (by simpa using hk)]
  match k, hk with
  | 0, _ => exact ⟨2, by decide, by decide, rfl⟩
  | 1, _ => exact ⟨-1, by decide, by decide, rfl⟩
  | 2, _ => exact ⟨6, by decide, by decide, rfl⟩
  | 3, _ => exact ⟨-35, by decide, by decide, rfl⟩
  | 4, _ => exact ⟨60, by decide, by decide, rfl⟩
theorem plain : ∀ ns : List Int, ns.length ≤ 63 → (∀ z ∈ ns, Builtin.Int.intBits z ≤ 1048576) → f_law [.fz (.lst (ns.map D.int))] = .ok (.bl true) [] := by
  intro ns hl hb
  obtain ⟨ds0, w0, e0⟩ := well_ok hl hb
  obtain ⟨x, ds1, hx, w1, e1⟩ := any_ok w0
  obtain ⟨y0, ds2, hy0, w2, e2⟩ := any_ok w1
  obtain ⟨b, ds3, b0, b1, w3, e3⟩ := pull_ok w2 (t := 5) (by decide)
  obtain ⟨y, hy_⟩ : ∃ y, y = (if b = 4 then x else y0) := ⟨_, rfl⟩
  have hy : Mn y := by rw [hy_]; split <;> assumption
  obtain ⟨top, ds4, htop, w4, e4⟩ := int_ok w3
  obtain ⟨bot, ds5, hbot, w5, e5⟩ := int_ok w4
  obtain ⟨r, ds6, r0, r1, w6, e6⟩ := pull_ok w5 (t := 5) (by decide)
  obtain ⟨sc, sc0, sc1, e7⟩ := scales r0 r1
  have qb : ((1 : Int) + (bot.natAbs : Int)).natAbs < 2 ^ 214 := by
    have : (2 : Nat) ^ 214 = 2 ^ 213 + 2 ^ 213 := by rw [← Nat.mul_two, ← Nat.pow_succ]
    have := Nat.two_pow_pos 213
    omega
  have f1 := fractions_ok (top := top) (bottom := 1 + (bot.natAbs : Int)) (scale := sc) (Nat.lt_of_lt_of_le htop (Nat.pow_le_pow_right (by decide) (by decide))) qb (by omega) sc1 sc0
  have f2 := numbers_ok hx.gd hy.gd hy.big
  obtain ⟨n1, ds7, n10, n11, w7, e8⟩ := pull_ok w6 (t := 9) (by decide)
  obtain ⟨k, rfl⟩ := Int.eq_ofNat_of_zero_le n10
  have f3 := sums_ok (k := k) (by omega) (ssz hx hy (by omega))
  have f4 : f_law_sums [.fz (.tup [.int 0, .int 1]), .fz (frD x), .fz (.int 3)] = .ok (.bl true) [] := sums_ok (x := 0) (k := 3) (by decide) (ssz .zero hx (by decide))
  have f5 : f_law_sums [.fz (frD x), .fz (.tup [.int 0, .int 1]), .fz (.int 1)] = .ok (.bl true) [] := sums_ok (y := 0) (k := 1) (by decide) (ssz hx .zero (by decide))
  obtain ⟨n2, ds8, n20, n21, w8, e9⟩ := pull_ok w7 (t := 7) (by decide)
  obtain ⟨m, rfl⟩ := Int.eq_ofNat_of_zero_le n20
  obtain ⟨f, ds9, hf, w9, run⟩ := draw_ok m (by omega) w8
  have f6 := rows_ok (f := f) (n := m) (by omega) (fun j hj => (hf j hj).sz) (rows_sz (by omega) hf)
  obtain ⟨c, ds10, hc, w10, e10⟩ := number_ok w9
  obtain ⟨d, ds11, hd, w11, e11⟩ := number_ok w10
  have f7 : f_law_complex [.fz (.tup [frD x, frD y]), .fz (.tup [frD c, frD d])] = .ok (.bl true) [] := lcomplex_ok (cpsz hx hy (.of_nm hc) (.of_nm hd))
  have f8 : f_law_complex [.fz (.tup [frD x, frD y]), .fz (.tup [.tup [.int 0, .int 1], .tup [.int 0, .int 1]])] = .ok (.bl true) [] := lcomplex_ok (c := 0) (d := 0) (cpsz hx hy .zero .zero)
  have p60 : bopS .pow (.int 10) (.int 60) = .d (.int (10 ^ 60)) := bopS_pow (i := 10) (j := 60) (by decide)
  obtain ⟨s, hs⟩ : ∃ s : Rat, s = ⟨1, 10 ^ 60, by decide +kernel, Nat.coprime_one_left _⟩ := ⟨_, rfl⟩
  have hs1 : D.tup [.int 1, .int (10 ^ 60)] = frD s := by
    rw [hs]
    show _ = D.tup [.int 1, .int ((10 ^ 60 : Nat) : Int)]
    congr 4
  have sz1 : Sz NB s := by
    rw [hs]
    exact ⟨Nat.one_lt_two_pow (by decide), Nat.lt_of_lt_of_le (m := 2 ^ 200) (by decide +kernel) (Nat.pow_le_pow_right (by decide) (by decide))⟩
  have szo : Sz NB 1 := ⟨Nat.one_lt_two_pow (by decide), Nat.one_lt_two_pow (by decide)⟩
  have szp : Sz NB (1 + s) := by
    have w : Ok s.den := ⟨s.den_nz, sz1.d⟩
    have q1 : Qz s.den 200 1 := Qz.one _ (by decide)
    have q2 : Qz s.den 200 s := ⟨Nat.dvd_refl _, by rw [hs]; exact Nat.one_lt_two_pow (by decide)⟩
    exact (q1.add w q2).sz w (by decide)
  have pl : f_plus [.fz (.tup [.int 1, .int 1]), .fz (frD s)] = .ok (frD (1 + s)) [] := plus_ok szo sz1
  have mi : f_minus [.fz (frD (1 + s)), .fz (.tup [.int 1, .int 1])] = .ok (frD s) [] := by
    have h := minus_ok szp szo
    rw [show 1 + s - 1 = s by grind] at h
    exact h
  have te := told_ok sz1 (by decide)
  rw [show f_law = runDef (md.gam g_law) ⟨9, b_law⟩ from rfl, runDef_eq]
  simp only [b_law, contsOf, slotsOf]
  obtain ⟨G, hG⟩ : ∃ G : Gam, G = { md.gam g_law with io := ([] : List Cont).length } := ⟨_, rfl⟩
  have fns : G.fns = g_law := by rw [hG]; rfl
  have io : G.io = 0 := by rw [hG]; rfl
  have fn1 : G.fns[1]? = some ⟨[true], [], f_law_any⟩ := by rw [fns]; rfl
  rw [← hG]
  obtain ⟨S, hS⟩ : ∃ S, S = D.lst (ns.map .int) := ⟨_, rfl⟩
  rw [← hS] at e0 ⊢
  have rm : rngOk (m : Int) = true := rngOk_nat (by omega)
  have l5 : ([D.int 2, .int (-1), .int 6, .int (-35), .int 60] : List D).length ≤ LIM := by unfold LIM; simp
  generalize (10 : Int) ^ 60 = T at *
  by_cases hb4 : b = 4
  · rw [if_pos hb4] at hy_
    subst hy_
    simp [fns, io, g_law, e0, kCal2_m, kCal2_m1, e1, e2, e3, hb4, e4, e5, abs_nat, e6, kLst2_eq l5, e7, f1, f2, e8, f3, f4, f5, e9, kRng_eq (i := 0) (by decide) rm]
    rw [run G _ [.lst [.int 2, .int (-1), .int 6, .int (-35), .int 60]] fn1 io (fun d => by rfl)]
    simp [fns, io, g_law, fr_at, f6, kCal2_m, e10, e11, f7, f8, p60, hs1, pl, mi, te]
  · rw [if_neg hb4] at hy_
    subst hy_
    simp [fns, io, g_law, e0, kCal2_m, kCal2_m1, e1, e2, e3, hb4, e4, e5, abs_nat, e6, kLst2_eq l5, e7, f1, f2, e8, f3, f4, f5, e9, kRng_eq (i := 0) (by decide) rm]
    rw [run G _ [.lst [.int 2, .int (-1), .int 6, .int (-35), .int 60]] fn1 io (fun d => by rfl)]
    simp [fns, io, g_law, fr_at, f6, kCal2_m, e10, e11, f7, f8, p60, hs1, pl, mi, te]
end K00

/-! K00Chain -/
set_option Elab.async false
set_option linter.all false
set_option maxRecDepth 100000
set_option maxHeartbeats 0
/-! law_k00_fractions_in_one_form: each def keeps its promise (printed by gen.py). -/
namespace K00
open PySem PD L2

theorem supOk_TooLarge : sup_TooLarge.Ok := ⟨_, _, _, _, _, _, _, _, _, _, _, _, _, _, _, _, _, rfl, rfl, ⟨rfl, rfl, rfl, rfl, rfl, rfl, rfl, by decide +kernel⟩, by decide +kernel, by decide +kernel, by decide +kernel⟩
theorem sc_is_whole : FnScope N_is_whole ["thing"] (defScope (top 23)) := ⟨rfl, rfl, rfl, by decide +kernel, rfl, by decide +kernel, by decide +kernel⟩
theorem ck_is_whole : chkSs (md.tab N_is_whole t_is_whole 0) md.exc (defScope (top 23)) true b_is_whole (defBody (top 23)) = true := by decide +kernel
theorem h_is_whole {K : PySem.W.Frag} {mg : Str → Option Value} {w : World} {base : Heap} (E : EnvK PySem.Challenge.pw_trueruns_k00_fractions_in_one_form md K mg) : FnH ⟨K, mg⟩ PySem.Challenge.pw_trueruns_k00_fractions_in_one_form w base 1 "is_whole" 1 ⟨[false], [], f_is_whole⟩ :=
  fn_make E (x := "is_whole") 0 (by rfl) [false] sc_is_whole (by rfl) ck_is_whole (fun _ _ _ _ _ _ us hl => match us, hl with | [_], _ => rfl) .nil
theorem sc_lowest : FnScope N_lowest ["p", "q"] (defScope (top 24)) := ⟨rfl, rfl, rfl, by decide +kernel, rfl, by decide +kernel, by decide +kernel⟩
theorem ck_lowest : chkSs (md.tab N_lowest t_lowest 0) md.exc (defScope (top 24)) true b_lowest (defBody (top 24)) = true := by decide +kernel
theorem h_lowest {K : PySem.W.Frag} {mg : Str → Option Value} {w : World} {base : Heap} (E : EnvK PySem.Challenge.pw_trueruns_k00_fractions_in_one_form md K mg) : FnH ⟨K, mg⟩ PySem.Challenge.pw_trueruns_k00_fractions_in_one_form w base 1 "lowest" 2 ⟨[false, false], [], f_lowest⟩ :=
  fn_make E (x := "lowest") 1 (by rfl) [false, false] sc_lowest (by rfl) ck_lowest (fun _ _ _ _ _ _ us hl => match us, hl with | [_, _], _ => rfl) .nil
theorem sc_opposite : FnScope N_opposite ["x"] (defScope (top 33)) := ⟨rfl, rfl, rfl, by decide +kernel, rfl, by decide +kernel, by decide +kernel⟩
theorem ck_opposite : chkSs (md.tab N_opposite t_opposite 0) md.exc (defScope (top 33)) true b_opposite (defBody (top 33)) = true := by decide +kernel
theorem h_opposite {K : PySem.W.Frag} {mg : Str → Option Value} {w : World} {base : Heap} (E : EnvK PySem.Challenge.pw_trueruns_k00_fractions_in_one_form md K mg) : FnH ⟨K, mg⟩ PySem.Challenge.pw_trueruns_k00_fractions_in_one_form w base 1 "opposite" 1 ⟨[false], [], f_opposite⟩ :=
  fn_make E (x := "opposite") 10 (by rfl) [false] sc_opposite (by rfl) ck_opposite (fun _ _ _ _ _ _ us hl => match us, hl with | [_], _ => rfl) .nil
theorem sc_sign_of : FnScope N_sign_of ["x"] (defScope (top 34)) := ⟨rfl, rfl, rfl, by decide +kernel, rfl, by decide +kernel, by decide +kernel⟩
theorem ck_sign_of : chkSs (md.tab N_sign_of t_sign_of 0) md.exc (defScope (top 34)) true b_sign_of (defBody (top 34)) = true := by decide +kernel
theorem h_sign_of {K : PySem.W.Frag} {mg : Str → Option Value} {w : World} {base : Heap} (E : EnvK PySem.Challenge.pw_trueruns_k00_fractions_in_one_form md K mg) : FnH ⟨K, mg⟩ PySem.Challenge.pw_trueruns_k00_fractions_in_one_form w base 1 "sign_of" 1 ⟨[false], [], f_sign_of⟩ :=
  fn_make E (x := "sign_of") 11 (by rfl) [false] sc_sign_of (by rfl) ck_sign_of (fun _ _ _ _ _ _ us hl => match us, hl with | [_], _ => rfl) .nil
theorem sc_size_of : FnScope N_size_of ["x"] (defScope (top 40)) := ⟨rfl, rfl, rfl, by decide +kernel, rfl, by decide +kernel, by decide +kernel⟩
theorem ck_size_of : chkSs (md.tab N_size_of t_size_of 0) md.exc (defScope (top 40)) true b_size_of (defBody (top 40)) = true := by decide +kernel
theorem h_size_of {K : PySem.W.Frag} {mg : Str → Option Value} {w : World} {base : Heap} (E : EnvK PySem.Challenge.pw_trueruns_k00_fractions_in_one_form md K mg) : FnH ⟨K, mg⟩ PySem.Challenge.pw_trueruns_k00_fractions_in_one_form w base 1 "size_of" 1 ⟨[false], [], f_size_of⟩ :=
  fn_make E (x := "size_of") 17 (by rfl) [false] sc_size_of (by rfl) ck_size_of (fun _ _ _ _ _ _ us hl => match us, hl with | [_], _ => rfl) .nil
theorem sc_law_well : FnScope N_law_well ["script"] (defScope (top 46)) := ⟨rfl, rfl, rfl, by decide +kernel, rfl, by decide +kernel, by decide +kernel⟩
theorem ck_law_well : chkSs (md.tab N_law_well t_law_well 0) md.exc (defScope (top 46)) true b_law_well (defBody (top 46)) = true := by decide +kernel
theorem h_law_well {K : PySem.W.Frag} {mg : Str → Option Value} {w : World} {base : Heap} (E : EnvK PySem.Challenge.pw_trueruns_k00_fractions_in_one_form md K mg) : FnH ⟨K, mg⟩ PySem.Challenge.pw_trueruns_k00_fractions_in_one_form w base 1 "_law_well" 1 ⟨[false], [], f_law_well⟩ :=
  fn_make E (x := "_law_well") 22 (by rfl) [false] sc_law_well (by rfl) ck_law_well (fun _ _ _ _ _ _ us hl => match us, hl with | [_], _ => rfl) .nil
theorem sc_law_pull : FnScope N_law_pull ["well", "top"] (defScope (top 47)) := ⟨rfl, rfl, rfl, by decide +kernel, rfl, by decide +kernel, by decide +kernel⟩
theorem ck_law_pull : chkSs (md.tab N_law_pull t_law_pull 0) md.exc (defScope (top 47)) true b_law_pull (defBody (top 47)) = true := by decide +kernel
theorem h_law_pull {K : PySem.W.Frag} {mg : Str → Option Value} {w : World} {base : Heap} (E : EnvK PySem.Challenge.pw_trueruns_k00_fractions_in_one_form md K mg) : FnH ⟨K, mg⟩ PySem.Challenge.pw_trueruns_k00_fractions_in_one_form w base 1 "_law_pull" 2 ⟨[true, false], [], f_law_pull⟩ :=
  fn_make E (x := "_law_pull") 23 (by rfl) [true, false] sc_law_pull (by rfl) ck_law_pull (fun _ _ _ _ _ _ us hl => match us, hl with | [_, _], _ => rfl) .nil
theorem sc_law_gcd : FnScope N_law_gcd ["one", "two"] (defScope (top 48)) := ⟨rfl, rfl, rfl, by decide +kernel, rfl, by decide +kernel, by decide +kernel⟩
theorem ck_law_gcd : chkSs (md.tab N_law_gcd t_law_gcd 0) md.exc (defScope (top 48)) true b_law_gcd (defBody (top 48)) = true := by decide +kernel
theorem h_law_gcd {K : PySem.W.Frag} {mg : Str → Option Value} {w : World} {base : Heap} (E : EnvK PySem.Challenge.pw_trueruns_k00_fractions_in_one_form md K mg) : FnH ⟨K, mg⟩ PySem.Challenge.pw_trueruns_k00_fractions_in_one_form w base 1 "_law_gcd" 2 ⟨[false, false], [], f_law_gcd⟩ :=
  fn_make E (x := "_law_gcd") 24 (by rfl) [false, false] sc_law_gcd (by rfl) ck_law_gcd (fun _ _ _ _ _ _ us hl => match us, hl with | [_, _], _ => rfl) .nil
theorem sc_law_neg : FnScope N_law_neg ["one"] (defScope (top 51)) := ⟨rfl, rfl, rfl, by decide +kernel, rfl, by decide +kernel, by decide +kernel⟩
theorem ck_law_neg : chkSs (md.tab N_law_neg t_law_neg 0) md.exc (defScope (top 51)) true b_law_neg (defBody (top 51)) = true := by decide +kernel
theorem h_law_neg {K : PySem.W.Frag} {mg : Str → Option Value} {w : World} {base : Heap} (E : EnvK PySem.Challenge.pw_trueruns_k00_fractions_in_one_form md K mg) : FnH ⟨K, mg⟩ PySem.Challenge.pw_trueruns_k00_fractions_in_one_form w base 1 "_law_neg" 1 ⟨[false], [], f_law_neg⟩ :=
  fn_make E (x := "_law_neg") 27 (by rfl) [false] sc_law_neg (by rfl) ck_law_neg (fun _ _ _ _ _ _ us hl => match us, hl with | [_], _ => rfl) .nil
theorem sc_law_less : FnScope N_law_less ["one", "two"] (defScope (top 54)) := ⟨rfl, rfl, rfl, by decide +kernel, rfl, by decide +kernel, by decide +kernel⟩
theorem ck_law_less : chkSs (md.tab N_law_less t_law_less 0) md.exc (defScope (top 54)) true b_law_less (defBody (top 54)) = true := by decide +kernel
theorem h_law_less {K : PySem.W.Frag} {mg : Str → Option Value} {w : World} {base : Heap} (E : EnvK PySem.Challenge.pw_trueruns_k00_fractions_in_one_form md K mg) : FnH ⟨K, mg⟩ PySem.Challenge.pw_trueruns_k00_fractions_in_one_form w base 1 "_law_less" 2 ⟨[false, false], [], f_law_less⟩ :=
  fn_make E (x := "_law_less") 30 (by rfl) [false, false] sc_law_less (by rfl) ck_law_less (fun _ _ _ _ _ _ us hl => match us, hl with | [_, _], _ => rfl) .nil
theorem sc_law_whole : FnScope N_law_whole ["told"] (defScope (top 55)) := ⟨rfl, rfl, rfl, by decide +kernel, rfl, by decide +kernel, by decide +kernel⟩
theorem ck_law_whole : chkSs (md.tab N_law_whole t_law_whole 0) md.exc (defScope (top 55)) true b_law_whole (defBody (top 55)) = true := by decide +kernel
theorem h_law_whole {K : PySem.W.Frag} {mg : Str → Option Value} {w : World} {base : Heap} (E : EnvK PySem.Challenge.pw_trueruns_k00_fractions_in_one_form md K mg) : FnH ⟨K, mg⟩ PySem.Challenge.pw_trueruns_k00_fractions_in_one_form w base 1 "_law_whole" 1 ⟨[false], [], f_law_whole⟩ :=
  fn_make E (x := "_law_whole") 31 (by rfl) [false] sc_law_whole (by rfl) ck_law_whole (fun _ _ _ _ _ _ us hl => match us, hl with | [_], _ => rfl) .nil
theorem sc_fraction : FnScope N_fraction ["p", "q"] (defScope (top 25)) := ⟨rfl, rfl, rfl, by decide +kernel, rfl, by decide +kernel, by decide +kernel⟩
theorem ck_fraction : chkSs (md.tab N_fraction t_fraction 1) md.exc (defScope (top 25)) true b_fraction (defBody (top 25)) = true := by decide +kernel
theorem h_fraction_1 {K : PySem.W.Frag} {mg : Str → Option Value} {w : World} {base : Heap} (E : EnvK PySem.Challenge.pw_trueruns_k00_fractions_in_one_form md K mg) : FnH ⟨K, mg⟩ PySem.Challenge.pw_trueruns_k00_fractions_in_one_form w base 2 "fraction" 1 ⟨[false, false], [.int (1)], f_fraction⟩ :=
  fn_make_d E (x := "fraction") (dfl := [.int (1)]) 2 (by rfl) [false, false] 1 0 [.int (1)] sc_fraction (by rfl) ck_fraction (by simp) (by rfl) (fun _ _ _ _ _ _ _ us its h1 h2 => match us, its, h1, h2 with | [_], [_], _, _ => ⟨_, rfl, rfl⟩) (fun _ _ => .cons (.int _) (.nil)) (.cons ((h_is_whole E).mono (by decide)) (.cons ((h_lowest E).mono (by decide)) .nil))
theorem h_fraction {K : PySem.W.Frag} {mg : Str → Option Value} {w : World} {base : Heap} (E : EnvK PySem.Challenge.pw_trueruns_k00_fractions_in_one_form md K mg) : FnH ⟨K, mg⟩ PySem.Challenge.pw_trueruns_k00_fractions_in_one_form w base 2 "fraction" 2 ⟨[false, false], [], f_fraction⟩ :=
  fn_make_d E (x := "fraction") (dfl := [.int (1)]) 2 (by rfl) [false, false] 2 1 [] sc_fraction (by rfl) ck_fraction (by simp) (by rfl) (fun _ _ _ _ _ _ _ us its h1 h2 => match us, its, h1, h2 with | [_, _], [_], _, _ => ⟨_, rfl, rfl⟩) (fun _ _ => .nil) (.cons ((h_is_whole E).mono (by decide)) (.cons ((h_lowest E).mono (by decide)) .nil))
theorem sc_is_number : FnScope N_is_number ["thing"] (defScope (top 26)) := ⟨rfl, rfl, rfl, by decide +kernel, rfl, by decide +kernel, by decide +kernel⟩
theorem ck_is_number : chkSs (md.tab N_is_number t_is_number 1) md.exc (defScope (top 26)) true b_is_number (defBody (top 26)) = true := by decide +kernel
theorem h_is_number {K : PySem.W.Frag} {mg : Str → Option Value} {w : World} {base : Heap} (E : EnvK PySem.Challenge.pw_trueruns_k00_fractions_in_one_form md K mg) : FnH ⟨K, mg⟩ PySem.Challenge.pw_trueruns_k00_fractions_in_one_form w base 2 "is_number" 1 ⟨[false], [], f_is_number⟩ :=
  fn_make E (x := "is_number") 3 (by rfl) [false] sc_is_number (by rfl) ck_is_number (fun _ _ _ _ _ _ us hl => match us, hl with | [_], _ => rfl) (.cons ((h_is_whole E).mono (by decide)) .nil)
theorem sc_plus : FnScope N_plus ["x", "y"] (defScope (top 29)) := ⟨rfl, rfl, rfl, by decide +kernel, rfl, by decide +kernel, by decide +kernel⟩
theorem ck_plus : chkSs (md.tab N_plus t_plus 1) md.exc (defScope (top 29)) true b_plus (defBody (top 29)) = true := by decide +kernel
theorem h_plus {K : PySem.W.Frag} {mg : Str → Option Value} {w : World} {base : Heap} (E : EnvK PySem.Challenge.pw_trueruns_k00_fractions_in_one_form md K mg) : FnH ⟨K, mg⟩ PySem.Challenge.pw_trueruns_k00_fractions_in_one_form w base 2 "plus" 2 ⟨[false, false], [], f_plus⟩ :=
  fn_make E (x := "plus") 6 (by rfl) [false, false] sc_plus (by rfl) ck_plus (fun _ _ _ _ _ _ us hl => match us, hl with | [_, _], _ => rfl) (.cons ((h_lowest E).mono (by decide)) .nil)
theorem sc_product_of : FnScope N_product_of ["x", "y"] (defScope (top 31)) := ⟨rfl, rfl, rfl, by decide +kernel, rfl, by decide +kernel, by decide +kernel⟩
theorem ck_product_of : chkSs (md.tab N_product_of t_product_of 1) md.exc (defScope (top 31)) true b_product_of (defBody (top 31)) = true := by decide +kernel
theorem h_product_of {K : PySem.W.Frag} {mg : Str → Option Value} {w : World} {base : Heap} (E : EnvK PySem.Challenge.pw_trueruns_k00_fractions_in_one_form md K mg) : FnH ⟨K, mg⟩ PySem.Challenge.pw_trueruns_k00_fractions_in_one_form w base 2 "product_of" 2 ⟨[false, false], [], f_product_of⟩ :=
  fn_make E (x := "product_of") 8 (by rfl) [false, false] sc_product_of (by rfl) ck_product_of (fun _ _ _ _ _ _ us hl => match us, hl with | [_, _], _ => rfl) (.cons ((h_lowest E).mono (by decide)) .nil)
theorem sc_over : FnScope N_over ["x", "y"] (defScope (top 32)) := ⟨rfl, rfl, rfl, by decide +kernel, rfl, by decide +kernel, by decide +kernel⟩
theorem ck_over : chkSs (md.tab N_over t_over 1) md.exc (defScope (top 32)) true b_over (defBody (top 32)) = true := by decide +kernel
theorem h_over {K : PySem.W.Frag} {mg : Str → Option Value} {w : World} {base : Heap} (E : EnvK PySem.Challenge.pw_trueruns_k00_fractions_in_one_form md K mg) : FnH ⟨K, mg⟩ PySem.Challenge.pw_trueruns_k00_fractions_in_one_form w base 2 "over" 2 ⟨[false, false], [], f_over⟩ :=
  fn_make E (x := "over") 9 (by rfl) [false, false] sc_over (by rfl) ck_over (fun _ _ _ _ _ _ us hl => match us, hl with | [_, _], _ => rfl) (.cons ((h_lowest E).mono (by decide)) .nil)
theorem sc_compared : FnScope N_compared ["x", "y"] (defScope (top 35)) := ⟨rfl, rfl, rfl, by decide +kernel, rfl, by decide +kernel, by decide +kernel⟩
theorem ck_compared : chkSs (md.tab N_compared t_compared 1) md.exc (defScope (top 35)) true b_compared (defBody (top 35)) = true := by decide +kernel
theorem h_compared {K : PySem.W.Frag} {mg : Str → Option Value} {w : World} {base : Heap} (E : EnvK PySem.Challenge.pw_trueruns_k00_fractions_in_one_form md K mg) : FnH ⟨K, mg⟩ PySem.Challenge.pw_trueruns_k00_fractions_in_one_form w base 2 "compared" 2 ⟨[false, false], [], f_compared⟩ :=
  fn_make E (x := "compared") 12 (by rfl) [false, false] sc_compared (by rfl) ck_compared (fun _ _ _ _ _ _ us hl => match us, hl with | [_, _], _ => rfl) (.cons ((h_sign_of E).mono (by decide)) .nil)
theorem sc_law_frac : FnScope N_law_frac ["top", "bottom"] (defScope (top 49)) := ⟨rfl, rfl, rfl, by decide +kernel, rfl, by decide +kernel, by decide +kernel⟩
theorem ck_law_frac : chkSs (md.tab N_law_frac t_law_frac 1) md.exc (defScope (top 49)) true b_law_frac (defBody (top 49)) = true := by decide +kernel
theorem h_law_frac {K : PySem.W.Frag} {mg : Str → Option Value} {w : World} {base : Heap} (E : EnvK PySem.Challenge.pw_trueruns_k00_fractions_in_one_form md K mg) : FnH ⟨K, mg⟩ PySem.Challenge.pw_trueruns_k00_fractions_in_one_form w base 2 "_law_frac" 2 ⟨[false, false], [], f_law_frac⟩ :=
  fn_make E (x := "_law_frac") 25 (by rfl) [false, false] sc_law_frac (by rfl) ck_law_frac (fun _ _ _ _ _ _ us hl => match us, hl with | [_, _], _ => rfl) (.cons ((h_law_gcd E).mono (by decide)) .nil)
theorem sc_law_is_frac : FnScope N_law_is_frac ["told"] (defScope (top 56)) := ⟨rfl, rfl, rfl, by decide +kernel, rfl, by decide +kernel, by decide +kernel⟩
theorem ck_law_is_frac : chkSs (md.tab N_law_is_frac t_law_is_frac 1) md.exc (defScope (top 56)) true b_law_is_frac (defBody (top 56)) = true := by decide +kernel
theorem h_law_is_frac {K : PySem.W.Frag} {mg : Str → Option Value} {w : World} {base : Heap} (E : EnvK PySem.Challenge.pw_trueruns_k00_fractions_in_one_form md K mg) : FnH ⟨K, mg⟩ PySem.Challenge.pw_trueruns_k00_fractions_in_one_form w base 2 "_law_is_frac" 1 ⟨[false], [], f_law_is_frac⟩ :=
  fn_make E (x := "_law_is_frac") 32 (by rfl) [false] sc_law_is_frac (by rfl) ck_law_is_frac (fun _ _ _ _ _ _ us hl => match us, hl with | [_], _ => rfl) (.cons ((h_law_whole E).mono (by decide)) (.cons ((h_law_gcd E).mono (by decide)) .nil))
theorem sc_law_int : FnScope N_law_int ["well"] (defScope (top 58)) := ⟨rfl, rfl, rfl, by decide +kernel, rfl, by decide +kernel, by decide +kernel⟩
theorem ck_law_int : chkSs (md.tab N_law_int t_law_int 1) md.exc (defScope (top 58)) true b_law_int (defBody (top 58)) = true := by decide +kernel
theorem h_law_int {K : PySem.W.Frag} {mg : Str → Option Value} {w : World} {base : Heap} (E : EnvK PySem.Challenge.pw_trueruns_k00_fractions_in_one_form md K mg) : FnH ⟨K, mg⟩ PySem.Challenge.pw_trueruns_k00_fractions_in_one_form w base 2 "_law_int" 1 ⟨[true], [], f_law_int⟩ :=
  fn_make E (x := "_law_int") 34 (by rfl) [true] sc_law_int (by rfl) ck_law_int (fun _ _ _ _ _ _ us hl => match us, hl with | [_], _ => rfl) (.cons ((h_law_pull E).mono (by decide)) .nil)
theorem sc_check_number : FnScope N_check_number ["thing"] (defScope (top 27)) := ⟨rfl, rfl, rfl, by decide +kernel, rfl, by decide +kernel, by decide +kernel⟩
theorem ck_check_number : chkSs (md.tab N_check_number t_check_number 2) md.exc (defScope (top 27)) true b_check_number (defBody (top 27)) = true := by decide +kernel
theorem h_check_number {K : PySem.W.Frag} {mg : Str → Option Value} {w : World} {base : Heap} (E : EnvK PySem.Challenge.pw_trueruns_k00_fractions_in_one_form md K mg) : FnH ⟨K, mg⟩ PySem.Challenge.pw_trueruns_k00_fractions_in_one_form w base 3 "check_number" 1 ⟨[false], [], f_check_number⟩ :=
  fn_make E (x := "check_number") 4 (by rfl) [false] sc_check_number (by rfl) ck_check_number (fun _ _ _ _ _ _ us hl => match us, hl with | [_], _ => rfl) (.cons ((h_is_number E).mono (by decide)) .nil)
theorem sc_minus : FnScope N_minus ["x", "y"] (defScope (top 30)) := ⟨rfl, rfl, rfl, by decide +kernel, rfl, by decide +kernel, by decide +kernel⟩
theorem ck_minus : chkSs (md.tab N_minus t_minus 2) md.exc (defScope (top 30)) true b_minus (defBody (top 30)) = true := by decide +kernel
theorem h_minus {K : PySem.W.Frag} {mg : Str → Option Value} {w : World} {base : Heap} (E : EnvK PySem.Challenge.pw_trueruns_k00_fractions_in_one_form md K mg) : FnH ⟨K, mg⟩ PySem.Challenge.pw_trueruns_k00_fractions_in_one_form w base 3 "minus" 2 ⟨[false, false], [], f_minus⟩ :=
  fn_make E (x := "minus") 7 (by rfl) [false, false] sc_minus (by rfl) ck_minus (fun _ _ _ _ _ _ us hl => match us, hl with | [_, _], _ => rfl) (.cons ((h_plus E).mono (by decide)) .nil)
theorem sc_powered : FnScope N_powered ["x", "k"] (defScope (top 36)) := ⟨rfl, rfl, rfl, by decide +kernel, rfl, by decide +kernel, by decide +kernel⟩
theorem ck_powered : chkSs (md.tab N_powered t_powered 2) md.exc (defScope (top 36)) true b_powered (defBody (top 36)) = true := by decide +kernel
theorem h_powered {K : PySem.W.Frag} {mg : Str → Option Value} {w : World} {base : Heap} (E : EnvK PySem.Challenge.pw_trueruns_k00_fractions_in_one_form md K mg) : FnH ⟨K, mg⟩ PySem.Challenge.pw_trueruns_k00_fractions_in_one_form w base 3 "powered" 2 ⟨[false, false], [], f_powered⟩ :=
  fn_make E (x := "powered") 13 (by rfl) [false, false] sc_powered (by rfl) ck_powered (fun _ _ _ _ _ _ us hl => match us, hl with | [_, _], _ => rfl) (.cons ((h_product_of E).mono (by decide)) .nil)
theorem sc_sum_of : FnScope N_sum_of ["row"] (defScope (top 37)) := ⟨rfl, rfl, rfl, by decide +kernel, rfl, by decide +kernel, by decide +kernel⟩
theorem ck_sum_of : chkSs (md.tab N_sum_of t_sum_of 2) md.exc (defScope (top 37)) true b_sum_of (defBody (top 37)) = true := by decide +kernel
theorem h_sum_of {K : PySem.W.Frag} {mg : Str → Option Value} {w : World} {base : Heap} (E : EnvK PySem.Challenge.pw_trueruns_k00_fractions_in_one_form md K mg) : FnH ⟨K, mg⟩ PySem.Challenge.pw_trueruns_k00_fractions_in_one_form w base 3 "sum_of" 1 ⟨[false], [], f_sum_of⟩ :=
  fn_make E (x := "sum_of") 14 (by rfl) [false] sc_sum_of (by rfl) ck_sum_of (fun _ _ _ _ _ _ us hl => match us, hl with | [_], _ => rfl) (.cons ((h_plus E).mono (by decide)) .nil)
theorem sc_lesser : FnScope N_lesser ["x", "y"] (defScope (top 38)) := ⟨rfl, rfl, rfl, by decide +kernel, rfl, by decide +kernel, by decide +kernel⟩
theorem ck_lesser : chkSs (md.tab N_lesser t_lesser 2) md.exc (defScope (top 38)) true b_lesser (defBody (top 38)) = true := by decide +kernel
theorem h_lesser {K : PySem.W.Frag} {mg : Str → Option Value} {w : World} {base : Heap} (E : EnvK PySem.Challenge.pw_trueruns_k00_fractions_in_one_form md K mg) : FnH ⟨K, mg⟩ PySem.Challenge.pw_trueruns_k00_fractions_in_one_form w base 3 "lesser" 2 ⟨[false, false], [], f_lesser⟩ :=
  fn_make E (x := "lesser") 15 (by rfl) [false, false] sc_lesser (by rfl) ck_lesser (fun _ _ _ _ _ _ us hl => match us, hl with | [_, _], _ => rfl) (.cons ((h_compared E).mono (by decide)) .nil)
theorem sc_greater : FnScope N_greater ["x", "y"] (defScope (top 39)) := ⟨rfl, rfl, rfl, by decide +kernel, rfl, by decide +kernel, by decide +kernel⟩
theorem ck_greater : chkSs (md.tab N_greater t_greater 2) md.exc (defScope (top 39)) true b_greater (defBody (top 39)) = true := by decide +kernel
theorem h_greater {K : PySem.W.Frag} {mg : Str → Option Value} {w : World} {base : Heap} (E : EnvK PySem.Challenge.pw_trueruns_k00_fractions_in_one_form md K mg) : FnH ⟨K, mg⟩ PySem.Challenge.pw_trueruns_k00_fractions_in_one_form w base 3 "greater" 2 ⟨[false, false], [], f_greater⟩ :=
  fn_make E (x := "greater") 16 (by rfl) [false, false] sc_greater (by rfl) ck_greater (fun _ _ _ _ _ _ us hl => match us, hl with | [_, _], _ => rfl) (.cons ((h_compared E).mono (by decide)) .nil)
theorem sc_complex_plus : FnScope N_complex_plus ["a", "b"] (defScope (top 42)) := ⟨rfl, rfl, rfl, by decide +kernel, rfl, by decide +kernel, by decide +kernel⟩
theorem ck_complex_plus : chkSs (md.tab N_complex_plus t_complex_plus 2) md.exc (defScope (top 42)) true b_complex_plus (defBody (top 42)) = true := by decide +kernel
theorem h_complex_plus {K : PySem.W.Frag} {mg : Str → Option Value} {w : World} {base : Heap} (E : EnvK PySem.Challenge.pw_trueruns_k00_fractions_in_one_form md K mg) : FnH ⟨K, mg⟩ PySem.Challenge.pw_trueruns_k00_fractions_in_one_form w base 3 "complex_plus" 2 ⟨[false, false], [], f_complex_plus⟩ :=
  fn_make E (x := "complex_plus") 19 (by rfl) [false, false] sc_complex_plus (by rfl) ck_complex_plus (fun _ _ _ _ _ _ us hl => match us, hl with | [_, _], _ => rfl) (.cons ((h_plus E).mono (by decide)) .nil)
theorem sc_size_squared : FnScope N_size_squared ["a"] (defScope (top 43)) := ⟨rfl, rfl, rfl, by decide +kernel, rfl, by decide +kernel, by decide +kernel⟩
theorem ck_size_squared : chkSs (md.tab N_size_squared t_size_squared 2) md.exc (defScope (top 43)) true b_size_squared (defBody (top 43)) = true := by decide +kernel
theorem h_size_squared {K : PySem.W.Frag} {mg : Str → Option Value} {w : World} {base : Heap} (E : EnvK PySem.Challenge.pw_trueruns_k00_fractions_in_one_form md K mg) : FnH ⟨K, mg⟩ PySem.Challenge.pw_trueruns_k00_fractions_in_one_form w base 3 "size_squared" 1 ⟨[false], [], f_size_squared⟩ :=
  fn_make E (x := "size_squared") 20 (by rfl) [false] sc_size_squared (by rfl) ck_size_squared (fun _ _ _ _ _ _ us hl => match us, hl with | [_], _ => rfl) (.cons ((h_plus E).mono (by decide)) (.cons ((h_product_of E).mono (by decide)) .nil))
theorem sc_law_add : FnScope N_law_add ["one", "two"] (defScope (top 50)) := ⟨rfl, rfl, rfl, by decide +kernel, rfl, by decide +kernel, by decide +kernel⟩
theorem ck_law_add : chkSs (md.tab N_law_add t_law_add 2) md.exc (defScope (top 50)) true b_law_add (defBody (top 50)) = true := by decide +kernel
theorem h_law_add {K : PySem.W.Frag} {mg : Str → Option Value} {w : World} {base : Heap} (E : EnvK PySem.Challenge.pw_trueruns_k00_fractions_in_one_form md K mg) : FnH ⟨K, mg⟩ PySem.Challenge.pw_trueruns_k00_fractions_in_one_form w base 3 "_law_add" 2 ⟨[false, false], [], f_law_add⟩ :=
  fn_make E (x := "_law_add") 26 (by rfl) [false, false] sc_law_add (by rfl) ck_law_add (fun _ _ _ _ _ _ us hl => match us, hl with | [_, _], _ => rfl) (.cons ((h_law_frac E).mono (by decide)) .nil)
theorem sc_law_mul : FnScope N_law_mul ["one", "two"] (defScope (top 52)) := ⟨rfl, rfl, rfl, by decide +kernel, rfl, by decide +kernel, by decide +kernel⟩
theorem ck_law_mul : chkSs (md.tab N_law_mul t_law_mul 2) md.exc (defScope (top 52)) true b_law_mul (defBody (top 52)) = true := by decide +kernel
theorem h_law_mul {K : PySem.W.Frag} {mg : Str → Option Value} {w : World} {base : Heap} (E : EnvK PySem.Challenge.pw_trueruns_k00_fractions_in_one_form md K mg) : FnH ⟨K, mg⟩ PySem.Challenge.pw_trueruns_k00_fractions_in_one_form w base 3 "_law_mul" 2 ⟨[false, false], [], f_law_mul⟩ :=
  fn_make E (x := "_law_mul") 28 (by rfl) [false, false] sc_law_mul (by rfl) ck_law_mul (fun _ _ _ _ _ _ us hl => match us, hl with | [_, _], _ => rfl) (.cons ((h_law_frac E).mono (by decide)) .nil)
theorem sc_law_div : FnScope N_law_div ["one", "two"] (defScope (top 53)) := ⟨rfl, rfl, rfl, by decide +kernel, rfl, by decide +kernel, by decide +kernel⟩
theorem ck_law_div : chkSs (md.tab N_law_div t_law_div 2) md.exc (defScope (top 53)) true b_law_div (defBody (top 53)) = true := by decide +kernel
theorem h_law_div {K : PySem.W.Frag} {mg : Str → Option Value} {w : World} {base : Heap} (E : EnvK PySem.Challenge.pw_trueruns_k00_fractions_in_one_form md K mg) : FnH ⟨K, mg⟩ PySem.Challenge.pw_trueruns_k00_fractions_in_one_form w base 3 "_law_div" 2 ⟨[false, false], [], f_law_div⟩ :=
  fn_make E (x := "_law_div") 29 (by rfl) [false, false] sc_law_div (by rfl) ck_law_div (fun _ _ _ _ _ _ us hl => match us, hl with | [_, _], _ => rfl) (.cons ((h_law_frac E).mono (by decide)) .nil)
theorem sc_law_number : FnScope N_law_number ["well"] (defScope (top 57)) := ⟨rfl, rfl, rfl, by decide +kernel, rfl, by decide +kernel, by decide +kernel⟩
theorem ck_law_number : chkSs (md.tab N_law_number t_law_number 2) md.exc (defScope (top 57)) true b_law_number (defBody (top 57)) = true := by decide +kernel
theorem h_law_number {K : PySem.W.Frag} {mg : Str → Option Value} {w : World} {base : Heap} (E : EnvK PySem.Challenge.pw_trueruns_k00_fractions_in_one_form md K mg) : FnH ⟨K, mg⟩ PySem.Challenge.pw_trueruns_k00_fractions_in_one_form w base 3 "_law_number" 1 ⟨[true], [], f_law_number⟩ :=
  fn_make E (x := "_law_number") 33 (by rfl) [true] sc_law_number (by rfl) ck_law_number (fun _ _ _ _ _ _ us hl => match us, hl with | [_], _ => rfl) (.cons ((h_law_pull E).mono (by decide)) (.cons ((h_law_frac E).mono (by decide)) .nil))
theorem sc_law_told : FnScope N_law_told ["told", "due"] (defScope (top 63)) := ⟨rfl, rfl, rfl, by decide +kernel, rfl, by decide +kernel, by decide +kernel⟩
theorem ck_law_told : chkSs (md.tab N_law_told t_law_told 2) md.exc (defScope (top 63)) true b_law_told (defBody (top 63)) = true := by decide +kernel
theorem h_law_told {K : PySem.W.Frag} {mg : Str → Option Value} {w : World} {base : Heap} (E : EnvK PySem.Challenge.pw_trueruns_k00_fractions_in_one_form md K mg) : FnH ⟨K, mg⟩ PySem.Challenge.pw_trueruns_k00_fractions_in_one_form w base 3 "_law_told" 2 ⟨[false, false], [], f_law_told⟩ :=
  fn_make E (x := "_law_told") 39 (by rfl) [false, false] sc_law_told (by rfl) ck_law_told (fun _ _ _ _ _ _ us hl => match us, hl with | [_, _], _ => rfl) (.cons ((h_law_is_frac E).mono (by decide)) .nil)
theorem sc_check_complex : FnScope N_check_complex ["thing"] (defScope (top 28)) := ⟨rfl, rfl, rfl, by decide +kernel, rfl, by decide +kernel, by decide +kernel⟩
theorem ck_check_complex : chkSs (md.tab N_check_complex t_check_complex 3) md.exc (defScope (top 28)) true b_check_complex (defBody (top 28)) = true := by decide +kernel
theorem h_check_complex {K : PySem.W.Frag} {mg : Str → Option Value} {w : World} {base : Heap} (E : EnvK PySem.Challenge.pw_trueruns_k00_fractions_in_one_form md K mg) : FnH ⟨K, mg⟩ PySem.Challenge.pw_trueruns_k00_fractions_in_one_form w base 4 "check_complex" 1 ⟨[false], [], f_check_complex⟩ :=
  fn_make E (x := "check_complex") 5 (by rfl) [false] sc_check_complex (by rfl) ck_check_complex (fun _ _ _ _ _ _ us hl => match us, hl with | [_], _ => rfl) (.cons ((h_is_number E).mono (by decide)) (.cons ((h_check_number E).mono (by decide)) .nil))
theorem sc_complex_times : FnScope N_complex_times ["a", "b"] (defScope (top 41)) := ⟨rfl, rfl, rfl, by decide +kernel, rfl, by decide +kernel, by decide +kernel⟩
theorem ck_complex_times : chkSs (md.tab N_complex_times t_complex_times 3) md.exc (defScope (top 41)) true b_complex_times (defBody (top 41)) = true := by decide +kernel
theorem h_complex_times {K : PySem.W.Frag} {mg : Str → Option Value} {w : World} {base : Heap} (E : EnvK PySem.Challenge.pw_trueruns_k00_fractions_in_one_form md K mg) : FnH ⟨K, mg⟩ PySem.Challenge.pw_trueruns_k00_fractions_in_one_form w base 4 "complex_times" 2 ⟨[false, false], [], f_complex_times⟩ :=
  fn_make E (x := "complex_times") 18 (by rfl) [false, false] sc_complex_times (by rfl) ck_complex_times (fun _ _ _ _ _ _ us hl => match us, hl with | [_, _], _ => rfl) (.cons ((h_minus E).mono (by decide)) (.cons ((h_product_of E).mono (by decide)) (.cons ((h_plus E).mono (by decide)) .nil)))
theorem sc_law_any : FnScope N_law_any ["well"] (defScope (top 59)) := ⟨rfl, rfl, rfl, by decide +kernel, rfl, by decide +kernel, by decide +kernel⟩
theorem ck_law_any : chkSs (md.tab N_law_any t_law_any 3) md.exc (defScope (top 59)) true b_law_any (defBody (top 59)) = true := by decide +kernel
theorem h_law_any {K : PySem.W.Frag} {mg : Str → Option Value} {w : World} {base : Heap} (E : EnvK PySem.Challenge.pw_trueruns_k00_fractions_in_one_form md K mg) : FnH ⟨K, mg⟩ PySem.Challenge.pw_trueruns_k00_fractions_in_one_form w base 4 "_law_any" 1 ⟨[true], [], f_law_any⟩ :=
  fn_make E (x := "_law_any") 35 (by rfl) [true] sc_law_any (by rfl) ck_law_any (fun _ _ _ _ _ _ us hl => match us, hl with | [_], _ => rfl) (.cons ((h_law_pull E).mono (by decide)) (.cons ((h_law_number E).mono (by decide)) (.cons ((h_law_int E).mono (by decide)) (.cons ((h_law_frac E).mono (by decide)) .nil))))
theorem sc_law_is_pair : FnScope N_law_is_pair ["told", "due"] (defScope (top 64)) := ⟨rfl, rfl, rfl, by decide +kernel, rfl, by decide +kernel, by decide +kernel⟩
theorem ck_law_is_pair : chkSs (md.tab N_law_is_pair t_law_is_pair 3) md.exc (defScope (top 64)) true b_law_is_pair (defBody (top 64)) = true := by decide +kernel
theorem h_law_is_pair {K : PySem.W.Frag} {mg : Str → Option Value} {w : World} {base : Heap} (E : EnvK PySem.Challenge.pw_trueruns_k00_fractions_in_one_form md K mg) : FnH ⟨K, mg⟩ PySem.Challenge.pw_trueruns_k00_fractions_in_one_form w base 4 "_law_is_pair" 2 ⟨[false, false], [], f_law_is_pair⟩ :=
  fn_make E (x := "_law_is_pair") 40 (by rfl) [false, false] sc_law_is_pair (by rfl) ck_law_is_pair (fun _ _ _ _ _ _ us hl => match us, hl with | [_, _], _ => rfl) (.cons ((h_law_told E).mono (by decide)) .nil)
theorem sc_law_rows : FnScope N_law_rows ["row"] (defScope (top 68)) := ⟨rfl, rfl, rfl, by decide +kernel, rfl, by decide +kernel, by decide +kernel⟩
theorem ck_law_rows : chkSs (md.tab N_law_rows t_law_rows 3) md.exc (defScope (top 68)) true b_law_rows (defBody (top 68)) = true := by decide +kernel
theorem h_law_rows {K : PySem.W.Frag} {mg : Str → Option Value} {w : World} {base : Heap} (E : EnvK PySem.Challenge.pw_trueruns_k00_fractions_in_one_form md K mg) : FnH ⟨K, mg⟩ PySem.Challenge.pw_trueruns_k00_fractions_in_one_form w base 4 "_law_rows" 1 ⟨[false], [], f_law_rows⟩ :=
  fn_make E (x := "_law_rows") 44 (by rfl) [false] sc_law_rows (by rfl) ck_law_rows (fun _ _ _ _ _ _ us hl => match us, hl with | [_], _ => rfl) (.cons ((h_law_add E).mono (by decide)) (.cons ((h_law_told E).mono (by decide)) (.cons ((h_sum_of E).mono (by decide)) .nil)))
theorem sc_complex_over : FnScope N_complex_over ["a", "b"] (defScope (top 44)) := ⟨rfl, rfl, rfl, by decide +kernel, rfl, by decide +kernel, by decide +kernel⟩
theorem ck_complex_over : chkSs (md.tab N_complex_over t_complex_over 4) md.exc (defScope (top 44)) true b_complex_over (defBody (top 44)) = true := by decide +kernel
theorem h_complex_over {K : PySem.W.Frag} {mg : Str → Option Value} {w : World} {base : Heap} (E : EnvK PySem.Challenge.pw_trueruns_k00_fractions_in_one_form md K mg) : FnH ⟨K, mg⟩ PySem.Challenge.pw_trueruns_k00_fractions_in_one_form w base 5 "complex_over" 2 ⟨[false, false], [], f_complex_over⟩ :=
  fn_make E (x := "complex_over") 21 (by rfl) [false, false] sc_complex_over (by rfl) ck_complex_over (fun _ _ _ _ _ _ us hl => match us, hl with | [_, _], _ => rfl) (.cons ((h_size_squared E).mono (by decide)) (.cons ((h_complex_times E).mono (by decide)) (.cons ((h_opposite E).mono (by decide)) (.cons ((h_over E).mono (by decide)) .nil))))
theorem sc_law_asked : FnScope N_law_asked ["door", "one", "two"] (defScope (top 60)) := ⟨rfl, rfl, rfl, by decide +kernel, rfl, by decide +kernel, by decide +kernel⟩
theorem ck_law_asked : chkSs (md.tab N_law_asked t_law_asked 5) md.exc (defScope (top 60)) true b_law_asked (defBody (top 60)) = true := by decide +kernel
theorem h_law_asked {K : PySem.W.Frag} {mg : Str → Option Value} {w : World} {base : Heap} (E : EnvK PySem.Challenge.pw_trueruns_k00_fractions_in_one_form md K mg) : FnH ⟨K, mg⟩ PySem.Challenge.pw_trueruns_k00_fractions_in_one_form w base 6 "_law_asked" 3 ⟨[false, false, false], [], f_law_asked⟩ :=
  fn_make E (x := "_law_asked") 36 (by rfl) [false, false, false] sc_law_asked (by rfl) ck_law_asked (fun _ _ _ _ _ _ us hl => match us, hl with | [_, _, _], _ => rfl) (.cons ((h_fraction E).mono (by decide)) (.cons ((h_fraction_1 E).mono (by decide)) (.cons ((h_check_number E).mono (by decide)) (.cons ((h_check_complex E).mono (by decide)) (.cons ((h_over E).mono (by decide)) (.cons ((h_complex_over E).mono (by decide)) .nil))))))
theorem sc_law_is_bad : FnScope N_law_is_bad ["door", "one", "two"] (defScope (top 61)) := ⟨rfl, rfl, rfl, by decide +kernel, rfl, by decide +kernel, by decide +kernel⟩
theorem ck_law_is_bad : chkSs (md.tab N_law_is_bad t_law_is_bad 6) md.exc (defScope (top 61)) true b_law_is_bad (defBody (top 61)) = true := by decide +kernel
theorem h_law_is_bad {K : PySem.W.Frag} {mg : Str → Option Value} {w : World} {base : Heap} (E : EnvK PySem.Challenge.pw_trueruns_k00_fractions_in_one_form md K mg) : FnH ⟨K, mg⟩ PySem.Challenge.pw_trueruns_k00_fractions_in_one_form w base 7 "_law_is_bad" 3 ⟨[false, false, false], [], f_law_is_bad⟩ :=
  fn_make E (x := "_law_is_bad") 37 (by rfl) [false, false, false] sc_law_is_bad (by rfl) ck_law_is_bad (fun _ _ _ _ _ _ us hl => match us, hl with | [_, _, _], _ => rfl) (.cons ((h_law_asked E).mono (by decide)) .nil)
theorem sc_law_is_large : FnScope N_law_is_large ["door", "one"] (defScope (top 62)) := ⟨rfl, rfl, rfl, by decide +kernel, rfl, by decide +kernel, by decide +kernel⟩
theorem ck_law_is_large : chkSs (md.tab N_law_is_large t_law_is_large 6) md.exc (defScope (top 62)) true b_law_is_large (defBody (top 62)) = true := by decide +kernel
theorem h_law_is_large {K : PySem.W.Frag} {mg : Str → Option Value} {w : World} {base : Heap} (E : EnvK PySem.Challenge.pw_trueruns_k00_fractions_in_one_form md K mg) : FnH ⟨K, mg⟩ PySem.Challenge.pw_trueruns_k00_fractions_in_one_form w base 7 "_law_is_large" 2 ⟨[false, false], [], f_law_is_large⟩ :=
  fn_make E (x := "_law_is_large") 38 (by rfl) [false, false] sc_law_is_large (by rfl) ck_law_is_large (fun _ _ _ _ _ _ us hl => match us, hl with | [_, _], _ => rfl) (.cons ((h_law_asked E).mono (by decide)) .nil)
theorem sc_law_fractions : FnScope N_law_fractions ["top", "bottom", "scale"] (defScope (top 65)) := ⟨rfl, rfl, rfl, by decide +kernel, rfl, by decide +kernel, by decide +kernel⟩
theorem ck_law_fractions : chkSs (md.tab N_law_fractions t_law_fractions 7) md.exc (defScope (top 65)) true b_law_fractions (defBody (top 65)) = true := by decide +kernel
theorem h_law_fractions {K : PySem.W.Frag} {mg : Str → Option Value} {w : World} {base : Heap} (E : EnvK PySem.Challenge.pw_trueruns_k00_fractions_in_one_form md K mg) : FnH ⟨K, mg⟩ PySem.Challenge.pw_trueruns_k00_fractions_in_one_form w base 8 "_law_fractions" 3 ⟨[false, false, false], [], f_law_fractions⟩ :=
  fn_make E (x := "_law_fractions") 41 (by rfl) [false, false, false] sc_law_fractions (by rfl) ck_law_fractions (fun _ _ _ _ _ _ us hl => match us, hl with | [_, _, _], _ => rfl) (.cons ((h_law_asked E).mono (by decide)) (.cons ((h_law_told E).mono (by decide)) (.cons ((h_law_frac E).mono (by decide)) (.cons ((h_law_is_bad E).mono (by decide)) .nil))))
theorem sc_law_numbers : FnScope N_law_numbers ["x", "y"] (defScope (top 66)) := ⟨rfl, rfl, rfl, by decide +kernel, rfl, by decide +kernel, by decide +kernel⟩
theorem ck_law_numbers : chkSs (md.tab N_law_numbers t_law_numbers 7) md.exc (defScope (top 66)) true b_law_numbers (defBody (top 66)) = true := by decide +kernel
theorem h_law_numbers {K : PySem.W.Frag} {mg : Str → Option Value} {w : World} {base : Heap} (E : EnvK PySem.Challenge.pw_trueruns_k00_fractions_in_one_form md K mg) : FnH ⟨K, mg⟩ PySem.Challenge.pw_trueruns_k00_fractions_in_one_form w base 8 "_law_numbers" 2 ⟨[false, false], [], f_law_numbers⟩ :=
  fn_make E (x := "_law_numbers") 42 (by rfl) [false, false] sc_law_numbers (by rfl) ck_law_numbers (fun _ _ _ _ _ _ us hl => match us, hl with | [_, _], _ => rfl) (.cons ((h_is_number E).mono (by decide)) (.cons ((h_law_is_bad E).mono (by decide)) (.cons ((h_law_asked E).mono (by decide)) (.cons ((h_law_is_large E).mono (by decide)) (.cons ((h_law_told E).mono (by decide)) (.cons ((h_law_is_pair E).mono (by decide)) .nil))))))
theorem sc_law_sums : FnScope N_law_sums ["x", "y", "k"] (defScope (top 67)) := ⟨rfl, rfl, rfl, by decide +kernel, rfl, by decide +kernel, by decide +kernel⟩
theorem ck_law_sums : chkSs (md.tab N_law_sums t_law_sums 7) md.exc (defScope (top 67)) true b_law_sums (defBody (top 67)) = true := by decide +kernel
theorem h_law_sums {K : PySem.W.Frag} {mg : Str → Option Value} {w : World} {base : Heap} (E : EnvK PySem.Challenge.pw_trueruns_k00_fractions_in_one_form md K mg) : FnH ⟨K, mg⟩ PySem.Challenge.pw_trueruns_k00_fractions_in_one_form w base 8 "_law_sums" 3 ⟨[false, false, false], [], f_law_sums⟩ :=
  fn_make E (x := "_law_sums") 43 (by rfl) [false, false, false] sc_law_sums (by rfl) ck_law_sums (fun _ _ _ _ _ _ us hl => match us, hl with | [_, _, _], _ => rfl) (.cons ((h_law_told E).mono (by decide)) (.cons ((h_plus E).mono (by decide)) (.cons ((h_law_add E).mono (by decide)) (.cons ((h_minus E).mono (by decide)) (.cons ((h_law_neg E).mono (by decide)) (.cons ((h_product_of E).mono (by decide)) (.cons ((h_law_mul E).mono (by decide)) (.cons ((h_opposite E).mono (by decide)) (.cons ((h_size_of E).mono (by decide)) (.cons ((h_powered E).mono (by decide)) (.cons ((h_law_is_bad E).mono (by decide)) (.cons ((h_over E).mono (by decide)) (.cons ((h_law_div E).mono (by decide)) (.cons ((h_law_less E).mono (by decide)) (.cons ((h_law_whole E).mono (by decide)) (.cons ((h_compared E).mono (by decide)) (.cons ((h_sign_of E).mono (by decide)) (.cons ((h_lesser E).mono (by decide)) (.cons ((h_greater E).mono (by decide)) .nil)))))))))))))))))))
theorem sc_law_complex : FnScope N_law_complex ["a", "b"] (defScope (top 69)) := ⟨rfl, rfl, rfl, by decide +kernel, rfl, by decide +kernel, by decide +kernel⟩
theorem ck_law_complex : chkSs (md.tab N_law_complex t_law_complex 7) md.exc (defScope (top 69)) true b_law_complex (defBody (top 69)) = true := by decide +kernel
theorem h_law_complex {K : PySem.W.Frag} {mg : Str → Option Value} {w : World} {base : Heap} (E : EnvK PySem.Challenge.pw_trueruns_k00_fractions_in_one_form md K mg) : FnH ⟨K, mg⟩ PySem.Challenge.pw_trueruns_k00_fractions_in_one_form w base 8 "_law_complex" 2 ⟨[false, false], [], f_law_complex⟩ :=
  fn_make E (x := "_law_complex") 45 (by rfl) [false, false] sc_law_complex (by rfl) ck_law_complex (fun _ _ _ _ _ _ us hl => match us, hl with | [_, _], _ => rfl) (.cons ((h_law_is_pair E).mono (by decide)) (.cons ((h_complex_plus E).mono (by decide)) (.cons ((h_law_add E).mono (by decide)) (.cons ((h_law_mul E).mono (by decide)) (.cons ((h_law_neg E).mono (by decide)) (.cons ((h_complex_times E).mono (by decide)) (.cons ((h_law_told E).mono (by decide)) (.cons ((h_size_squared E).mono (by decide)) (.cons ((h_law_is_bad E).mono (by decide)) (.cons ((h_complex_over E).mono (by decide)) (.cons ((h_law_div E).mono (by decide)) .nil)))))))))))
theorem sc_law : FnScope N_law ["script"] (defScope (top 70)) := ⟨rfl, rfl, rfl, by decide +kernel, rfl, by decide +kernel, by decide +kernel⟩
theorem ck_law : chkSs (md.tab N_law t_law 8) md.exc (defScope (top 70)) true b_law (defBody (top 70)) = true := by decide +kernel
theorem h_law {K : PySem.W.Frag} {mg : Str → Option Value} {w : World} (E : EnvK PySem.Challenge.pw_trueruns_k00_fractions_in_one_form md K mg) : ∃ fd : FuncData, mg "law" = some (.ref (He.ga K "law")) ∧ (∀ (s : Shared) (v : Value), BindsTo s fd ⟨[v], []⟩ [("script", v)]) ∧
    ∀ base : Heap, FnOk PySem.Challenge.pw_trueruns_k00_fractions_in_one_form w K mg base L2.CX0 9 (He.ga K "law") fd ["script"] (fun vs H Q _ => spOf ⟨K, mg⟩ 1 f_law vs H Q (fun _ _ _ => False)) :=
  law_make E 46 (x := "law") (y := "script") (by rfl) sc_law (by rfl) ck_law (fun _ _ _ _ _ _ us hl => match us, hl with | [_], _ => rfl) fun base => (.cons ((h_law_well E).mono (by decide)) (.cons ((h_law_any E).mono (by decide)) (.cons ((h_law_pull E).mono (by decide)) (.cons ((h_law_int E).mono (by decide)) (.cons ((h_law_fractions E).mono (by decide)) (.cons ((h_law_numbers E).mono (by decide)) (.cons ((h_law_sums E).mono (by decide)) (.cons ((h_law_rows E).mono (by decide)) (.cons ((h_law_complex E).mono (by decide)) (.cons ((h_law_number E).mono (by decide)) (.cons ((h_law_told E).mono (by decide)) (.cons ((h_minus E).mono (by decide)) (.cons ((h_plus E).mono (by decide)) .nil)))))))))))))
end K00

/-! K00End -/
set_option Elab.async false
set_option linter.all false
set_option maxRecDepth 100000
set_option maxHeartbeats 0
open PySem PySem.W PySem.Calls PyProof.Rows
theorem PySem.Challenge.cw_trueruns_k00_fractions_in_one_form_holds : PySem.Challenge.rw_trueruns_k00_fractions_in_one_form.Holds := by
  w_on; o_law
  refine HandSHeadRun.head_imp (r := OpenLaw.row PySem.Challenge.rw_trueruns_k00_fractions_in_one_form) (q := view (OpenLaw.row PySem.Challenge.rw_trueruns_k00_fractions_in_one_form).prog [70]) (H := K00.hk) (ob := K00.ob) (M := 6000) (loose := K00.names) (d := HandSHeadRun.topDef (OpenLaw.row PySem.Challenge.rw_trueruns_k00_fractions_in_one_form).prog 70) (kwd := []) K00.ob_eq
    K00.run (by kernel_rfl) (by kernel_rfl) (by kernel_rfl) (by rfl) (by first | assumption | decide +kernel) (by decide +kernel) ⟨rfl, rfl, rfl, rfl, rfl, by decide +kernel⟩ ?hw ?hc
  case hw => w_witness2
  case hc =>
    refine PD.walk_ofP (n0 := 0) (l := PySem.Challenge.rw_trueruns_k00_fractions_in_one_form) (k := 9) (y := "script") (f := K00.f_law) rfl (by kernel_rfl) ⟨rfl, by decide, by decide⟩ ?hs ?F K00.plain
    case hs =>
      intro d hd
      simp only [K00.md, List.mem_cons, List.not_mem_nil, or_false] at hd
      rcases hd with rfl
      · exact K00.supOk_TooLarge
    case F =>
      intro w mg K E
      exact K00.h_law E
