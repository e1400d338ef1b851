import PyProof.Rows.All
import Wide.All
import OpenK.AllK
import Wide.FinOn
import KE.KStateDown
import HandS.ForMost
import HandS.ForExc
import HandS.Defaults
import HandS.Wide
import HandS.Gcd
import HandS.ExcField
import KE.KExcSuper
import KE.KxStill
import HandS.IsInst
import HandS.Text
import HandS.TupAny
import HandS.Style
import HandS.WideBits
import HandS.Iter
import HandS.Comp
import HandS.CallSlots
import KE.KExcIs
import HandS.ExcIs
import HandS.FStr
import HandS.ExcCtx
import HandS.TryMany
import HandS.SuiteRaise
import HandS.RaiseFrom
import HandS.HeadHook2
import HandS.HeadEnd
import HandS.Words
import HandS.EndBits
import Lean
import HandS.Head0
import HandS.Head1
import HandS.Head2
import HandS.Head3
import KE.IntTextLaws
import PySem.Challenge.RW_trueruns_k04_whole_texts

/-! PD1 -/
set_option Elab.async false
set_option linter.all false
set_option maxRecDepth 100000
set_option maxHeartbeats 4000000
/-! PD: plain data, and how they stand in the heap. -/
namespace PD
open PySem PySem.Spec PyProof.Rows L2

/-- plain data -/
inductive D where
  | non | bl (b : Bool) | int (i : Int) | str (s : Str)
  | tup (ds : List D) | lst (ds : List D)
  | dct (ks : List Key) (vs : List D)
  | obj (c : Str) (fs : List Str) (vs : List D)

/-- an exception: its class, its fields -/
structure XD where
  cls : Str
  fs : List (Str × D)
/-- an argument, or what a slot holds: plain data that stands still, or the list (dict) number n of the store -/
inductive Val where
  | fz (d : D) | loc (n : Nat) | exn (x : XD)
/-- what a def changes in place -/
inductive Cont where
  | lst (ds : List D) | dct (ks : List Key) (vs : List D) | fz (d : D)
abbrev Store := List Cont
abbrev Slots := List (Option Val)

def Cont.d : Cont → D
  | .lst ds => .lst ds
  | .dct ks vs => .dct ks vs
  | .fz d => d
def Cont.live : Cont → Bool
  | .fz _ => false
  | _ => true

/-! ### the heap of what stands still -/
def isD : HO → Bool
  | .dK _ => true
  | _ => false
/-- F stands in H (dicts may be locked there) -/
def Le (F H : Hp) : Prop := ∀ a o, F a = some o → H a = some o ∨ (isD o = true ∧ ∃ ob, H a = some (.frz ob o))
theorem Le.refl (F : Hp) : Le F F := fun _ _ h => .inl h
theorem Le.same {F G H : Hp} (h : Same F G) (l : Le G H) : Le F H := fun a o e => l a o (h a o e)
theorem Le.trans {F G H : Hp} (h : Le F G) (l : Le G H) : Le F H := fun a o e => by
  rcases h a o e with q | ⟨d, ob, q⟩
  · exact l a o q
  · rcases l a _ q with r | ⟨d2, _⟩
    · exact .inr ⟨d, ob, r⟩
    · cases d2
theorem Le.up {F H H' : Hp} (l : Le F H) (h : Same H H') : Le F H' := fun a o e => by
  rcases l a o e with q | ⟨d, ob, q⟩
  · exact .inl (h a o q)
  · exact .inr ⟨d, ob, h a _ q⟩
theorem Le.rdL {F H : Hp} (l : Le F H) {a : Addr} {xs : List V} (r : Rd F a (.lst xs)) : Rd H a (.lst xs) := by
  rcases r with r | ⟨o, r⟩
  · rcases l a _ r with q | ⟨d, _⟩
    · exact .inl q
    · cases d
  · rcases l a _ r with q | ⟨d, _⟩
    · exact .inr ⟨o, q⟩
    · cases d
theorem Le.rdT {F H : Hp} (l : Le F H) {a : Addr} {xs : List V} (r : Rd F a (.tup xs)) : Rd H a (.tup xs) := by
  rcases r with r | ⟨o, r⟩
  · rcases l a _ r with q | ⟨d, _⟩
    · exact .inl q
    · cases d
  · rcases l a _ r with q | ⟨d, _⟩
    · exact .inr ⟨o, q⟩
    · cases d
theorem Le.sqL {K : PySem.W.Frag} {F H : Hp} (l : Le F H) {a : Addr} {xs : List V} (r : SqL K F a xs) : SqL K H a xs := by
  rcases r with r | r
  · exact .inl (l.rdL r)
  · exact .inr r
theorem Le.sqT {K : PySem.W.Frag} {F H : Hp} (l : Le F H) {a : Addr} {xs : List V} (r : SqT K F a xs) : SqT K H a xs := by
  rcases r with r | r
  · exact .inl (l.rdT r)
  · exact .inr r
theorem Same.le {F H : Hp} (h : Same F H) : Le F H := fun a o e => .inl (h a o e)
theorem Le.free {F H : Hp} (l : Le F H) {p : Addr} (h : H p = none) : F p = none := by
  cases q : F p with
  | none => rfl
  | some o =>
    rcases l p o q with r | ⟨_, ob, r⟩
    · rw [h] at r; cases r
    · rw [h] at r; cases r
theorem Same.upd {H : Hp} {p : Addr} {o : HO} (h : H p = none) : Same H (upd H p o) := fun b u e => by
  rw [upd_ne (ne_of_none e h)]; exact e

/-! ### what stands for a datum -/
structure RC where
  K : PySem.W.Frag
  mg : Str → Option Value

mutual
inductive Rep (R : RC) (F : Hp) : V → D → Prop
  | non : Rep R F .non .non
  | bl (b : Bool) : Rep R F (.bl b) (.bl b)
  | int (i : Int) : Rep R F (.int i) (.int i)
  | str (x : Str) : Rep R F (.str x) (.str x)
  | tup {a : Addr} {xs : List V} {ds : List D} : SqT R.K F a xs → RepL R F xs ds → Rep R F (.ref a) (.tup ds)
  | lst {a : Addr} {xs : List V} {ds : List D} : SqL R.K F a xs → RepL R F xs ds → Rep R F (.ref a) (.lst ds)
  | dct {a : Addr} {kvs : List (Key × V)} {ks : List Key} {xs : List V} {ds : List D} : F a = some (.dK kvs) → kvs.map (·.1) = ks → kvs.map (·.2) = xs → RepL R F xs ds → Rep R F (.ref a) (.dct ks ds)
  | obj {a C dx : Addr} {c : Str} {fvs : List (Str × V)} {fs : List Str} {xs : List V} {ds : List D} : R.mg c = some (.ref C) → F a = some (.ins C dx fvs) → fvs.map (·.1) = fs → fvs.map (·.2) = xs → RepL R F xs ds → Rep R F (.ref a) (.obj c fs ds)
inductive RepL (R : RC) (F : Hp) : List V → List D → Prop
  | nil : RepL R F [] []
  | cons {v : V} {vs : List V} {d : D} {ds : List D} : Rep R F v d → RepL R F vs ds → RepL R F (v :: vs) (d :: ds)
end

section
variable {R : RC} {F F' H : Hp}
theorem SqL.mono {K : PySem.W.Frag} {a : Addr} {xs : List V} (h : Same F F') (r : SqL K F a xs) : SqL K F' a xs := h.seq r
theorem SqT.mono {K : PySem.W.Frag} {a : Addr} {xs : List V} (h : Same F F') (r : SqT K F a xs) : SqT K F' a xs := by
  rcases r with (r | ⟨o, r⟩) | r
  · exact .inl (.inl (h _ _ r))
  · exact .inl (.inr ⟨o, h _ _ r⟩)
  · exact .inr r
mutual
theorem Rep.mono (h : Same F F') : ∀ {d : D} {v : V}, Rep R F v d → Rep R F' v d
  | .non, _, .non => .non
  | .bl _, _, .bl b => .bl b
  | .int _, _, .int i => .int i
  | .str _, _, .str x => .str x
  | .tup _, _, .tup s l => .tup (SqT.mono h s) (RepL.mono h l)
  | .lst _, _, .lst s l => .lst (SqL.mono h s) (RepL.mono h l)
  | .dct _ _, _, .dct e k x l => .dct (h _ _ e) k x (RepL.mono h l)
  | .obj _ _ _, _, .obj m e k x l => .obj m (h _ _ e) k x (RepL.mono h l)
theorem RepL.mono (h : Same F F') : ∀ {ds : List D} {vs : List V}, RepL R F vs ds → RepL R F' vs ds
  | [], _, .nil => .nil
  | _ :: _, _, .cons r l => .cons (Rep.mono h r) (RepL.mono h l)
end
theorem RepL.length : ∀ {vs : List V} {ds : List D}, RepL R F vs ds → vs.length = ds.length
  | _, _, .nil => rfl
  | _, _, .cons _ l => congrArg Nat.succ (RepL.length l)
theorem RepL.append : ∀ {vs ws : List V} {ds es : List D}, RepL R F vs ds → RepL R F ws es → RepL R F (vs ++ ws) (ds ++ es)
  | _, _, _, _, .nil, s => s
  | _, _, _, _, .cons r l, s => .cons r (RepL.append l s)
theorem RepL.get : ∀ {vs : List V} {ds : List D} {i : Nat} {d : D}, RepL R F vs ds → ds[i]? = some d → ∃ v, vs[i]? = some v ∧ Rep R F v d
  | _, _, i, _, .nil, e => by simp at e
  | _, _, 0, _, .cons r _, e => by simp at e; subst e; exact ⟨_, rfl, r⟩
  | _, _, i + 1, d, .cons _ l, e => by
    obtain ⟨v, h1, h2⟩ := RepL.get (i := i) (d := d) l (by simpa using e)
    exact ⟨v, by simpa using h1, h2⟩
theorem RepL.get' : ∀ {vs : List V} {ds : List D} {i : Nat} {v : V}, RepL R F vs ds → vs[i]? = some v → ∃ d, ds[i]? = some d ∧ Rep R F v d
  | _, _, i, _, .nil, e => by simp at e
  | _, _, 0, _, .cons r _, e => by simp at e; subst e; exact ⟨_, rfl, r⟩
  | _, _, i + 1, d, .cons _ l, e => by
    obtain ⟨v, h1, h2⟩ := RepL.get' (i := i) (v := d) l (by simpa using e)
    exact ⟨v, by simpa using h1, h2⟩
theorem RepL.set : ∀ {vs : List V} {ds : List D} {v : V} {d : D} (i : Nat), RepL R F vs ds → Rep R F v d → RepL R F (vs.set i v) (ds.set i d)
  | _, _, _, _, _, .nil, _ => .nil
  | _, _, _, _, 0, .cons _ l, r => .cons r l
  | _, _, _, _, i + 1, .cons q l, r => .cons q (RepL.set i l r)
theorem RepL.take : ∀ {vs : List V} {ds : List D} (n : Nat), RepL R F vs ds → RepL R F (vs.take n) (ds.take n)
  | _, _, 0, _ => .nil
  | _, _, _ + 1, .nil => .nil
  | _, _, n + 1, .cons r t => .cons r (RepL.take n t)
theorem RepL.drop : ∀ {vs : List V} {ds : List D} (n : Nat), RepL R F vs ds → RepL R F (vs.drop n) (ds.drop n)
  | _, _, 0, r => r
  | _, _, _ + 1, .nil => .nil
  | _, _, n + 1, .cons _ t => RepL.drop n t
theorem RepL.reverse : ∀ {vs : List V} {ds : List D}, RepL R F vs ds → RepL R F vs.reverse ds.reverse
  | _, _, .nil => .nil
  | _, _, .cons r l => by
    rw [List.reverse_cons, List.reverse_cons]
    exact (RepL.reverse l).append (.cons r .nil)
theorem RepL.replicate {vs : List V} {ds : List D} (r : RepL R F vs ds) : ∀ n : Nat, RepL R F (List.replicate n vs).flatten (List.replicate n ds).flatten
  | 0 => .nil
  | n + 1 => by
    rw [List.replicate_succ, List.replicate_succ, List.flatten_cons, List.flatten_cons]
    exact r.append (RepL.replicate r n)
end

/-! ### the store -/
/-- what stands at a for a content -/
def ContR (R : RC) (F H : Hp) (a : Addr) : Cont → Prop
  | .lst ds => F a = none ∧ ∃ xs, H a = some (.lst xs) ∧ RepL R F xs ds
  | .dct ks ds => F a = none ∧ ∃ kvs : List (Key × V), H a = some (.dK kvs) ∧ kvs.map (·.1) = ks ∧ RepL R F (kvs.map (·.2)) ds
  | .fz d => Rep R F (.ref a) d
/-- an exception: its class, its own dict -/
def XR (R : RC) (F : Hp) (x : XD) (cls : Value) (dd : Option Addr) : Prop :=
  (∃ C, R.mg x.cls = some (.ref C) ∧ cls = .ref C) ∧ ((x.fs = [] ∧ dd = none) ∨
    ∃ d fvs, dd = some d ∧ F d = some (.xd fvs) ∧ fvs.map (·.1) = x.fs.map (·.1) ∧ RepL R F (fvs.map (·.2)) (x.fs.map (·.2)))
theorem XR.mono {R : RC} {F F' : Hp} {x : XD} {cls : Value} {dd : Option Addr} (h : Same F F') (r : XR R F x cls dd) : XR R F' x cls dd := by
  obtain ⟨r1, r2 | ⟨d, fvs, e, f, k, l⟩⟩ := r
  · exact ⟨r1, .inl r2⟩
  · exact ⟨r1, .inr ⟨d, fvs, e, h _ _ f, k, l.mono h⟩⟩
/-- the exception that a suite holds: its address, class, dict -/
abbrev ExH := Option (Addr × Value × Option Addr)
def ValR (R : RC) (X : ExH) (F : Hp) (A : List Addr) (x : V) : Val → Prop
  | .fz d => Rep R F x d
  | .loc n => ∃ a, A[n]? = some a ∧ x = .ref a
  | .exn e => ∃ a cls dd, X = some (a, cls, dd) ∧ x = .ref a ∧ XR R F e cls dd
theorem ValR.mono {R : RC} {X : ExH} {F F' : Hp} {A A' : List Addr} {x : V} {v : Val} (h : Same F F') (hA : A <+: A') (r : ValR R X F A x v) : ValR R X F' A' x v := by
  cases v with
  | fz d => exact Rep.mono h r
  | exn e =>
    obtain ⟨a, cls, dd, e1, e2, r⟩ := r
    exact ⟨a, cls, dd, e1, e2, r.mono h⟩
  | loc n =>
    obtain ⟨a, e, q⟩ := r
    obtain ⟨t, rfl⟩ := hA
    refine ⟨a, ?_, q⟩
    have hl : n < A.length := by
      rcases Nat.lt_or_ge n A.length with h | h
      · exact h
      · rw [List.getElem?_eq_none h] at e; cases e
    rw [List.getElem?_append_left hl]; exact e

/-- the fixed part of a def's run: the heap and what stood still at the entry, the addresses of the lists that it may change for its caller, the locked dicts -/
structure Bs where
  R : RC
  F0 : Hp
  H0 : Hp
  io : List Addr
  lk : List Addr
  ex : ExH
/-- the changing part -/
structure Gh where
  F : Hp
  A : List Addr

def SlotR (R : RC) (X : ExH) (g : Gh) : Option V → Option Val → Prop
  | o, some v => ∃ x, o = some x ∧ ValR R X g.F g.A x v
  | _, none => True

structure ER (B : Bs) (g : Gh) (H : Hp) (σ : L2.St) (ρ : Slots) (st : Store) : Prop where
  same0 : Same B.F0 g.F
  le : Le g.F H
  fresh : ∀ b, g.F b ≠ none → B.F0 b ≠ none ∨ B.H0 b = none
  keep : ∀ b o, B.H0 b = some o → b ∉ B.io → b ∉ B.lk → H b = some o
  lkd : ∀ b ∈ B.lk, g.F b ≠ none ∧ ∃ ob u, H b = some (.frz ob u) ∧ ∀ o, B.H0 b = some o → b ∉ B.io → o = u
  len : g.A.length = st.length
  nodup : g.A.Nodup
  io : B.io <+: g.A
  iolive : ∀ (i : Nat) (c : Cont), i < B.io.length → st[i]? = some c → c.live = true
  own : ∀ (i : Nat) (a : Addr), B.io.length ≤ i → g.A[i]? = some a → B.H0 a = none
  there : ∀ (i : Nat) (a : Addr), g.A[i]? = some a → H a ≠ none
  conts : ∀ (i : Nat) (a : Addr) (c : Cont), g.A[i]? = some a → st[i]? = some c → ContR B.R g.F H a c
  slen : σ.length = ρ.length
  slots : ∀ (i : Nat) (o : Option V) (v : Option Val), σ[i]? = some o → ρ[i]? = some v → SlotR B.R B.ex g o v

/-- the ghost grows -/
structure Gh.le (g g' : Gh) : Prop where
  F : Same g.F g'.F
  A : g.A <+: g'.A
theorem Gh.le.refl (g : Gh) : g.le g := ⟨Same.refl _, List.prefix_refl _⟩
theorem Gh.le.trans {a b c : Gh} (h : a.le b) (k : b.le c) : a.le c := ⟨h.F.trans k.F, h.A.trans k.A⟩
theorem ValR.up {R : RC} {X : ExH} {g g' : Gh} {x : V} {v : Val} (l : g.le g') (r : ValR R X g.F g.A x v) : ValR R X g'.F g'.A x v := r.mono l.F l.A
theorem SlotR.up {R : RC} {X : ExH} {g g' : Gh} {o : Option V} {v : Option Val} (l : g.le g') (r : SlotR R X g o v) : SlotR R X g' o v := by
  cases v with
  | none => trivial
  | some v =>
    obtain ⟨x, e, q⟩ := r
    exact ⟨x, e, q.up l⟩
theorem ContR.F {R : RC} {F F' H H' : Hp} {a : Addr} {c : Cont} (h : Same F F') (r : ContR R F H a c) (ha : c.live = true → F' a = none) (hH : c.live = true → H' a = H a) : ContR R F' H' a c := by
  cases c with
  | lst ds =>
    obtain ⟨_, xs, e, l⟩ := r
    exact ⟨ha rfl, xs, (hH rfl).trans e, l.mono h⟩
  | dct ks ds =>
    obtain ⟨_, kvs, e, k, l⟩ := r
    exact ⟨ha rfl, kvs, (hH rfl).trans e, k, l.mono h⟩
  | fz d => exact Rep.mono h r
theorem ContR.there {R : RC} {F H : Hp} {a : Addr} {c : Cont} (r : ContR R F H a c) (hc : c.live = true) : H a ≠ none := by
  cases c with
  | lst ds => obtain ⟨_, xs, e, _⟩ := r; rw [e]; intro z; cases z
  | dct ks ds => obtain ⟨_, xs, e, _⟩ := r; rw [e]; intro z; cases z
  | fz d => cases hc
theorem ContR.out {R : RC} {F H : Hp} {a : Addr} {c : Cont} (r : ContR R F H a c) (hc : c.live = true) : F a = none := by
  cases c with
  | lst ds => exact r.1
  | dct ks ds => exact r.1
  | fz d => cases hc
end PD

/-! PDS -/
set_option Elab.async false
set_option linter.all false
set_option maxRecDepth 100000
set_option maxHeartbeats 4000000
/-! PD: an own exception whose __init__ says super().__init__('..') and self.f = f. -/
namespace PySem
namespace SupX
open PySem.W PySem.Calls PyProof.Rows PySem.HandSPX
def iPar (pn : Str) (a1 a2 : Option Expr) (q1 q2 : Pos) : Arguments := { posonlyargs := [], args := [{ arg := "self", annotation := a1, pos := q1 }, { arg := pn, annotation := a2, pos := q2 }], vararg := none, kwonlyargs := [], kw_defaults := [], kwarg := none, defaults := [] }
def iBody (f pn m : Str) (kk : Nat) (p0 p1 p2 p3 p4 p5 p6 p7 p8 p9 : Pos) : List Stmt :=
  [.Expr (.Call (.Attribute (.Call (.Name "super" p0) [] [] p1) "__init__" p2) [.Constant (.str m) kk p3] [] p4) p5, .Assign [.Attribute (.Name "self" p6) f p7] (.Name pn p8) p9]
structure ScopeOk (sc : Scope) (pn : Str) : Prop where
  kind : sc.kind = .function
  gen : sc.isGenerator = false
  co : sc.isCoroutine = false
  slf : sc.names.lookup ("self" : Str) = some .local
  par : sc.names.lookup pn = some .local
  sup : sc.names.lookup ("super" : Str) = some .globalImplicit
  cls : sc.names.lookup ("__class__" : Str) = some .free
  nocell : ∀ x ∈ sc.names, x.2 ≠ .cell
structure SupTxt (prog : Program) (K : Frag) (mg : Str → Option Value) (C fI : Addr) (c f : Str) : Prop where
  gC : mg c = some (.ref C)
  cls : ∃ nm q N bs bm sn sub ab col dd k0 k1 k2 k3 k5, K.lookup C = some (excClassObj nm q C N bs bm true sn sub ab col dd k0 k1 k2 k3 k5 "ValueError.__new__") ∧ refsVE bm = true
  exi : excInitIn K C [.type "ValueError", .type "Exception", .type "BaseException", .type "object"] "ValueError.__new__" = true
  sa : findIn K (.ref C) "__setattr__" = some (some (.builtin "object.__setattr__"))
  noN : findIn K (.ref C) f = some none
  iC : findIn K (.ref C) "__init__" = some (some (.ref fI))
  tC : typeIn K (.ref fI) = some (.type "function")
  kC : keepIn K (.ref C) = true
  exC : subIn K (.ref C) (.type "BaseException") = some true
  veC : subIn K (.ref C) (.type "ValueError") = some true
  tyC : typeIn K (.ref C) = some (.type "type")
  mroC : mroIn K C (.ref C) = some true
  st : nsIn K cStatics "thirdparty.any" = some none
  sup : ks_superIn K C C "__init__" = some (some (.builtin "ValueError.__init__"))
  top : (prog.main.scope.names.lookup ("super" : Str)).isSome = false
  fn : ∃ (oc : Value) (od : Option Addr) (qual : Str) (doc pm : Value) (an : Option Addr) (cda cc : Addr) (ct : Value) (osl : Array (Option Value)) (pn m : Str) (kk : Nat) (a1 a2 : Option Expr) (q1 q2 p0 p1 p2 p3 p4 p5 p6 p7 p8 p9 : Pos) (sc : Scope)
      (ccl : Value) (cdd : Option Addr) (vs : Array Value) (ccs : Array (Option Value)) (file : Str) (tf : Tok) (cl : Value) (cld : Option Addr) (csl : Array (Option Value)),
    K.lookup fI = some ⟨oc, od, .func (ksFn "__init__" qual (iPar pn a1 a2 q1 q2) (iBody f pn m kk p0 p1 p2 p3 p4 p5 p6 p7 p8 p9) sc .none .none doc pm an (.ref cda) ct cc), osl⟩ ∧ codeIn K (.ref cda) qual = true ∧ ScopeOk sc pn ∧
    K.lookup cda = some ⟨ccl, cdd, .fields vs, ccs⟩ ∧ vs[2]? = some (.str file tf) ∧ ((prog.main.file : Str) == file) = true ∧ K.lookup cc = some ⟨cl, cld, .cell (some (.ref C)), csl⟩ ∧ (pn == ("self" : Str)) = false ∧ (pn == ("__debug__" : Str)) = false ∧ (p2.endLine == p4.line) = true
theorem one_size (v : Value) : [v].length ≤ sizeLine := by
  rw [sizeLine_eq]
  exact (by decide : 1 ≤ 16777216)
/-- what __init__ leaves of a fresh exception at x -/
structure InitEnd (h₀ h' : Heap) (x C dx t1 : Addr) (f : Str) (v : Value) : Prop where
  keep : ∀ b o, h₀.get? b = some o → h'.get? b = some o
  obj : h'.get? x = some { cls := .ref C, dict := some dx, data := .fields #[.ref t1, .none, .none, .none, .bool false, .none] }
  dbig : h₀.objs.size ≤ dx
  dne : dx ≠ x
  ns : h'.Ns1 dx (fun y => if y = f then some v else none)
/-- a made one -/
structure OwnMade (h h' : Heap) (e C d : Addr) (f : Str) (v : Value) : Prop where
  keep : ∀ b o, h.get? b = some o → h'.get? b = some o
  new : h.objs.size ≤ e
  obj : ∃ oe vs, h'.get? e = some oe ∧ oe.cls = .ref C ∧ oe.dict = some d ∧ oe.data = .fields vs ∧ vs[1]? = some .none ∧ 4 < vs.size
  dbig : h.objs.size ≤ d
  dne : d ≠ e
  ns : h'.Ns1 d (fun y => if y = f then some v else none)
section
variable {prog : Program} {w : World} {A : Around} {E : Value → Shared → Prop} {R : Result → Shared → Prop} {s : Shared} {K : Frag} {mg mb : Str → Option Value} {C fI : Addr} {c f : Str}
theorem bind_par {s : Shared} {pn name qual : Str} {a1 a2 : Option Expr} {q1 q2 : Pos} {body : List Stmt} {sc : Scope} {doc pm cdv ct : Value} {an : Option Addr} {cc : Addr} {x v : Value} (h : (pn == ("self" : Str)) = false) :
    BindsTo s (ksFn name qual (iPar pn a1 a2 q1 q2) body sc .none .none doc pm an cdv ct cc) ⟨[x, v], []⟩ [("self", x), (pn, v)] := by
  refine BindsTo.of_eq ?_
  have e1 : List.lookup pn [(("self" : Str), x), (pn, v)] = some v := by simp [List.lookup, h]
  have e2 : List.lookup ("self" : Str) [(("self" : Str), x), (pn, v)] = some x := by simp [List.lookup]
  unfold bindArgs
  simp [iPar, seqItems?, e1, e2]
  rfl

theorem sup_node {body : List Stmt} {q : Str} {scope : Scope} {p0 p1 : Pos} {attr : Str} {whole : Sem Value} {fd : FuncData} {ar : Arg} {vs : Array Value} {file : Str} {tf : Tok} {oc ccl cl : Value} {od cdd cld : Option Addr} {osl ccs csl : Array (Option Value)} {cdD : ClassData} {Q : Value → Shared → Prop}
    {h₀ : Heap} {L x D g0 cda cc : Addr} {m : Str → Option Value} {news : List (Addr × Obj)} {ox : Obj} {odx : Option Obj}
    (F : Fr h₀ L s.heap m) (X₀ : K.In h₀) (N : News h₀ L s.heap news) (G : h₀.Ns mainGlobals mg) (G2 : h₀.Ns builtinsNs mb) (hmb : mb ("super" : Str) = bootBuiltins "super")
    (hf : K.lookup g0 = some ⟨oc, od, .func fd, osl⟩) (hp : (fd.params.posonlyargs ++ fd.params.args).head? = some ar) (hv : m ar.arg = some (.ref x)) (I : InstAt s.heap x ox C odx)
    (hcode : K.lookup cda = some ⟨ccl, cdd, .fields vs, ccs⟩) (hvs : vs[2]? = some (.str file tf)) (hfile : ((prog.main.file : Str) == file) = true)
    (hcell : K.lookup cc = some ⟨cl, cld, .cell (some (.ref D)), csl⟩) (hD : clsIn K D = some cdD) (hsub : mroIn K C (.ref D) = some true) (hsuper : mg ("super" : Str) = none)
    (hat : (attr == ("__class__" : Str)) = false) (hks : scope.names.lookup ("super" : Str) = some .globalImplicit) (hkc : scope.names.lookup ("__class__" : Str) = some .free) (hka : scope.names.lookup ar.arg = some .local) (hk : scope.kind = .function)
    (htop : (prog.main.scope.names.lookup ("super" : Str)).isSome = false) (hboot : bootBuiltins "super" = some (.type "super"))
    (h : ∀ so h', Fr h₀ L h' m → News h₀ L h' ((so, ks_superObj D x C) :: news) → Q (.ref so) { s with heap := h' }) :
    _root_.PySem.wpAt (model prog w) A (.func body (ksEnv q scope L g0 (.ref cda) cc)) (attributeBase (.Call (.Name "super" p0) [] [] p1) attr (ksEnv q scope L g0 (.ref cda) cc) whole) Q E s := by
  have X : K.In s.heap := X₀.keeps F.keep
  obtain ⟨hh, gg, dd, tt, os⟩ := s
  obtain ⟨oD, hD1, hD2⟩ : ∃ oD, hh.get? D = some oD ∧ oD.data = .cls cdD := by
    unfold clsIn at hD
    split at hD
    · cases hD
      exact ⟨_, X _ _ (by assumption), rfl⟩
    · cases hD
  refine ks_wpAt_super_base (env := ksEnv q scope L g0 (.ref cda) cc) hks hkc hat rfl (X _ _ hf) rfl hp rfl (X _ _ hcode) rfl hvs hfile htop ?_
  refine ks_loadName_global hk hks (loadGlobal_builtin (env := ksEnv q scope L g0 (.ref cda) cc) (G.keeps F.keep) hsuper (G2.keeps F.keep) (hmb.trans hboot) ⟨rfl, ?_⟩)
  refine wpAny_loadName_free hk hkc rfl ⟨_, X _ _ hcell, rfl⟩ (wpAny_loadName_local hk hka F.ns hv (ks_wpAny_isType_cls hD1 hD2 ⟨rfl, ?_⟩))
  refine ks_wpAny_call_super hD1 hD2 I.at_ I.cls (fun c e => ?_) (looks_mroIn X hsub) (fun h' e k => ?_)
  · have z := I.no
    unfold notCls at z
    rw [e] at z
    cases z
  · obtain ⟨F', N', _⟩ := ks_newsPush (s := ⟨hh, gg, dd, tt, os⟩) F N rfl e k
    exact h _ _ F' N'
theorem call_line {o : Expr} {name : Str} {ap pos : Pos} {args : List Expr} {env : Env} (h : (ap.endLine == pos.line) = true) (hfew : methodCallForm (args.length + ([] : List Keyword).length) (backTo pos (starEach args env)) (backToKw pos (keywordEach [] env)) = true) :
    eval (.Call (.Attribute o name ap) args [] pos) env = (do
      let ov ← attributeBase o name env (eval o env)
      standAt ap.atName
      let (g, first) ← holding [ov] (getMethod ov name (do return (← importBound o env).getD true))
      callWith pos g first (backTo pos (starEach args env)) []) := by
  have hpos : methodCallPos true o env ap pos = pure pos := by unfold methodCallPos; simp [h]
  rw [arm_eval_Call]
  unfold methodCall
  rw [hfew, hpos]
  rfl
theorem sup_init (T : SupTxt prog K mg C fI c f) {h₀ : Heap} {x t0 : Addr} {v : Value} (X₀ : K.In h₀) (G : h₀.Ns mainGlobals mg) (G2 : h₀.Ns builtinsNs mb) (hmb : mb ("super" : Str) = bootBuiltins "super") (hsuper : mg ("super" : Str) = none)
    (k0 : ∀ b o, h₀.get? b = some o → s.heap.get? b = some o) (hL : h₀.objs.size ≤ s.heap.objs.size) (hx0 : h₀.get? x = none) (hlim : s.heap.NoLimit) (hx : s.heap.get? x = some (excO C t0)) (hroom : A.depth < recursionLimit)
    (hq : ∀ h' tk dx t1, InitEnd h₀ h' x C dx t1 f v → R (.ok (.ret .none)) { s with heap := h', toks := tk }) :
    codeAny (model prog w) A (.call (.ref fI) ⟨[.ref x, v], []⟩) R s := by
  obtain ⟨oc, od, qual, doc, pm, an, cda, cc, ct, osl, pn, mm, kk, a1, a2, q1, q2, p0, p1, p2, p3, p4, p5, p6, p7, p8, p9, sc, ccl, cdd, vs, ccs, file, tf, cl, cld, csl, ho, hcd, SC, hcode, hvs, hfile, hcell, hpn, hpd, hline⟩ := T.fn
  obtain ⟨nm, q, N0, bs, bm, sn, sub, ab, col, dd, k0', k1, k2, k3, k5, hC, hbm⟩ := T.cls
  have hcl : clsIn K C = some { name := nm, bases := bs, mro := .ref C :: bm, ns := N0, qualname := q, hasDict := true, slotNames := sn, subclasses := sub, abstract := ab, collection := col, hasDel := false } := by unfold clsIn; rw [hC] <;> rfl
  have X : K.In s.heap := X₀.keeps k0
  refine ks_codeAny_call_defAt (fd := ksFn "__init__" qual (iPar pn a1 a2 q1 q2) (iBody f pn mm kk p0 p1 p2 p3 p4 p5 p6 p7 p8 p9) sc .none .none doc pm an (.ref cda) ct cc) (body := iBody f pn mm kk p0 p1 p2 p3 p4 p5 p6 p7 p8 p9) (binds := [("self", .ref x), (pn, v)]) hroom (X _ _ ho) rfl hlim (codeRec_of X hcd) rfl (bind_par hpn) SC.nocell (fun y hy => ?_) (fun h₁ hns hk₁ => ?_) SC.co SC.gen SC.kind
  · rcases List.mem_cons.mp hy with rfl | hy
    · exact SC.slf
    · rcases List.mem_cons.mp hy with rfl | hy
      · exact SC.par
      · cases hy
  have hxL : x ≠ s.heap.objs.size := Nat.ne_of_lt (Heap.lt_size hx)
  have F : Fr h₀ s.heap.objs.size h₁ (fun y => ([(("self" : Str), Value.ref x), (pn, v)]).reverse.lookup y) := ⟨hns, fun b o e => hk₁ b o (k0 b o e), hL⟩
  have N : News h₀ s.heap.objs.size h₁ [(x, excO C t0)] := fun p hp => by
    have e : p = (x, excO C t0) := by simpa using hp
    subst e
    exact ⟨hk₁ _ _ hx, hxL, hx0⟩
  have mself : (fun y => ([(("self" : Str), Value.ref x), (pn, v)]).reverse.lookup y) ("self" : Str) = some (.ref x) := by
    have h2 : (("self" : Str) == pn) = false := by
      rw [Bool.eq_false_iff] at hpn ⊢
      intro z
      exact hpn (by rw [beq_iff_eq] at z ⊢; exact z.symm)
    simp [List.lookup, h2]
  have mpn : (fun y => ([(("self" : Str), Value.ref x), (pn, v)]).reverse.lookup y) pn = some v := by simp [List.lookup]
  refine ks_wpAt_execs_cons (ks_wpAt_Expr_any (ks_wpAt_MethodCall ?_ (call_line hline rfl)) (show (sc.kind == .module && _) = false by rw [SC.kind]; rfl) rfl)
  have J1 : InstAt h₁ x (excO C t0) C none := ⟨hk₁ _ _ hx, rfl, rfl, trivial⟩
  refine sup_node (s := ⟨h₁, s.gens, s.drawn, s.toks + 2, s.os⟩) (scope := sc) (q := qual) (g0 := fI) F X₀ N G G2 hmb ho rfl mself J1 hcode hvs hfile hcell hcl T.mroC hsuper (by decide +kernel) SC.sup SC.cls SC.slf SC.kind T.top (by decide +kernel) fun so h2 F2 N2 => ?_
  have J2 : InstAt h2 x (excO C t0) C none := ⟨(N2 (x, excO C t0) (by simp)).1, rfl, rfl, trivial⟩
  refine kxs_method (s := ⟨h2, s.gens, s.drawn, s.toks + 2, s.os⟩) kxs_ValueError F2 X₀ N2 (List.mem_cons_self) J2 T.st T.sup T.veC (by decide +kernel) fun u h3 F3 N3 _ => ?_
  refine kxs_callWith1 N3 (List.mem_cons_self) ?_ rfl rfl
  refine spliced_more (wpAny_Constant_str (spliced_none ⟨(N3 _ List.mem_cons_self).1, ?_⟩)) rfl
  have atx := (N3 (x, excO C t0) (by simp)).1
  have nu : u ≠ x := fun z => by
    have z2 := (N3 (u, kxs_mw "ValueError.__init__" x) (by simp)).1
    rw [z, atx] at z2
    cases z2
  have nso : so ≠ x := fun z => by
    have z2 := (N3 (so, ks_superObj C x C) (by simp)).1
    rw [z, atx] at z2
    cases z2
  · refine kxs_call (t := t0) (dv := none) (c2 := .none) F3 X₀ N3 PySem.F.excBase_ValueError T.exi (List.mem_cons_self) (.tail nu (.tail nso (.head fun p hp => by cases hp))) (one_size _) fun t' h4 F4 N4 _ => ?_
    have hx4 : h4.get? x = some (excObj C t' none .none) := (N4 (x, excObj C t' none .none) (by simp)).1
    have X4 : K.In h4 := X₀.keeps F4.keep
    refine wpAt_of_wpAny (wpAny_execs_cons (plainObj_wpAny_Assign_Attribute ?_ rfl))
    refine wpAny_Name (wpAny_loadName_local SC.kind SC.par F4.ns mpn (wpAny_Name (wpAny_loadName_local SC.kind SC.slf F4.ns mself ?_) (by decide +kernel))) hpd
    refine set_plain X4 (ox := excObj C t' none .none) (od := none) ⟨hx4, rfl, rfl, trivial⟩ T.sa ?_
    refine exc_osa X4 hx4 hcl (show refsVE (.ref C :: bm) = true from hbm) rfl T.noN fun h5 tk5 dx k5' dn dne hx5 hn5 => ?_
    refine wpAny_execs_nil ?_
    refine hq h5 tk5 dx t' ⟨fun b o e => k5' b o (fun z => by rw [z, hx0] at e; cases e) (F4.keep b o e), hx5, Nat.le_trans ?_ dn, dne, hn5⟩
    exact Nat.le_trans F4.above (Nat.le_of_lt F4.ns.lt)

theorem sup_made (T : SupTxt prog K mg C fI c f) {v : Value} (X : K.In s.heap) (G : s.heap.Ns mainGlobals mg) (G2 : s.heap.Ns builtinsNs mb) (hmb : mb ("super" : Str) = bootBuiltins "super") (hsuper : mg ("super" : Str) = none) (hlim : s.heap.NoLimit) (hroom : A.depth + 1 < recursionLimit)
    (hq : ∀ h' tk e d, OwnMade s.heap h' e C d f v → R (.ok (.ret (.ref e))) { s with heap := h', toks := tk }) :
    codeAny (model prog w) A (.call (.ref C) ⟨[v], []⟩) R s := by
  obtain ⟨nm, q, N, bs, bm, sn, sub, ab, col, dd, k0, k1, k2, k3, k5, hC, hbm⟩ := T.cls
  obtain ⟨hp, gs, dr, tk, os⟩ := s
  have up : ∀ b o, hp.get? b = some o → ((hp.push (kdv_tup [v])).push (excO C hp.objs.size)).get? b = some o := fun b o e => Heap.get?_push_of_some _ (Heap.get?_push_of_some _ e)
  have got : ((hp.push (kdv_tup [v])).push (excO C hp.objs.size)).get? (hp.objs.size + 1) = some (excO C hp.objs.size) := by heap_get
  have fresh : hp.get? (hp.objs.size + 1) = none := by
    cases e : hp.get? (hp.objs.size + 1) with
    | none => rfl
    | some o => exact absurd (Nat.lt_of_succ_lt (Heap.lt_size e)) (Nat.lt_irrefl _)
  refine call_own PySem.F.excBase_ValueError (fun X => refsVE_contains X bm hbm) (X _ _ hC) (looks_findIn X T.iC) (fun self => bind_fn X self T.tC) (one_size v) ?_
  refine sup_init (s := ⟨(hp.push (kdv_tup [v])).push (excO C hp.objs.size), gs, dr, tk, os⟩) (h₀ := hp) T X G G2 hmb hsuper up (by simp only [Heap.size_push]; omega) fresh (hlim.keeps up) got (show A.depth + 1 < recursionLimit from hroom) fun h' tk' dx t1 ⟨k', hx, dn, dne, hns⟩ => ?_
  exact ⟨rfl, hq h' tk' (hp.objs.size + 1) dx ⟨k', Nat.le_succ _, ⟨_, _, hx, rfl, rfl, rfl, rfl, by show (4 : Nat) < 6; decide⟩, dn, dne, hns⟩⟩
end
end SupX
end PySem
namespace PD
open PySem PySem.Spec PyProof.Rows L2
theorem relO_one {v : V} {v' : Value} (r : RelV v v') (f g : Str) : RelO (List.lookup g [(f, v)]) (if g = f then some v' else none) := by
  by_cases hw : g = f
  · subst hw
    rw [if_pos rfl]
    have q : List.lookup g [(g, v)] = some v := by simp [List.lookup]
    rw [q]
    exact r
  · rw [if_neg hw]
    have qw : (g == f) = false := by simpa using hw
    have q2 : List.lookup g [(f, v)] = none := by simp [List.lookup, qw]
    rw [q2]
    trivial
section
variable {X : Cx} {C fI : Addr} {c f : Str}
def tMkSup (C : Addr) (f : Str) (ta : TA) : L2.St → Hp → XK → Prop := fun σ H Q => ta σ H fun vs H1 => ∃ v, vs = [v] ∧ ∀ d, H1 d = none → Q (.ref C) (some d) (upd H1 d (.xd [(f, v)]))
/-- an expression that makes an exception of six fields -/
def PMk6 (X : Cx) (e : Expr) (t : L2.St → Hp → XK → Prop) : Prop :=
  ∀ (pins : List (Addr × Obj)) (s : Shared) (σ : L2.St) (H : Hp) (Q : XK), Inv X pins σ H s → t σ H Q → wpAny (model X.prog X.w) X.A (eval e X.env) (fun u s' => MkP X pins σ Q u s' ∧ ∀ (b : Addr) (o : Obj) (fs : Array Value), u = .ref b → s'.heap.get? b = some o → o.data = .fields fs → 4 < fs.size) X.xe s
theorem PMk6.pmk {X : Cx} {e : Expr} {t : L2.St → Hp → XK → Prop} (h : PMk6 X e t) : PMk X e t := fun pins s σ H Q I q => thn (h pins s σ H Q I q) fun _ _ x => x.1
theorem pmk_sup6 {a : Expr} {ta : TA} {p pos : Pos} {k : Nat} (T : PySem.SupX.SupTxt X.prog X.K X.mg C fI c f) (hsup : X.mg ("super" : Str) = none) (hr : X.A.depth + 3 * k + 5 < recursionLimit) (ha : PA X [a] ta) (hg : Gl X c) (hdb : (c == ("__debug__" : Str)) = false)
    (he : starEach (a :: []) X.env = (false, eval a X.env) :: starEach [] X.env) :
    PMk6 X (.Call (.Name c p) [a] [] pos) (tMkSup C f ta) := by
  intro pins s σ H Q I h
  refine wpAny_Call_Name_kw (ld_glob I hg T.gC ?_ hdb)
  refine PySem.W.callWith_K (h₀ := X.base) I.ok.mod.kin T.kC (thn (ha.run pos pins s σ H _ I h) fun us s1 hh => ?_) he rfl
  obtain ⟨vs, H1, I1, r1, v, ev, q1⟩ := hh
  subst ev
  refine ⟨I1.kIn, ?_⟩
  cases r1 with
  | cons rv rn =>
    rename_i v' us'
    cases rn
    show wpAny _ _ (call (.ref C) [v']) _ _ _
    have hlim := I1.nolimit
    obtain ⟨mb, hmb, hbb⟩ := I1.ok.mod.blt
    have kb : ∀ b o, X.base.get? b = some o → s1.heap.get? b = some o := I1.bk
    have G := I1.ok.mod.glob.keeps kb
    have G2 := hmb.keeps kb
    obtain ⟨hp, gs, dr, tk, os⟩ := s1
    refine wpAny_call (PySem.SupX.sup_made T I1.kIn G G2 (hbb _ (by decide +kernel)) hsup hlim (by omega) fun h' tk' e d M => ?_)
    show MkP X pins σ Q (.ref e) ⟨h', gs, dr, tk', os⟩ ∧ _
    obtain ⟨oe, fv, hoe, hc, hd, hdat, h1, hsix⟩ := M.obj
    refine ⟨?_, fun b o fs eb hg hd2 => by
      cases eb
      have hg2 : h'.get? e = some o := hg
      rw [hoe] at hg2
      cases hg2
      rw [hdat] at hd2
      cases hd2
      exact hsix⟩
    have hns := M.ns
    obtain ⟨G', g1, g2⟩ := restrict h' fun b => decide (b ≠ e)
    have gk : ∀ b, b ≠ e → G'.get? b = h'.get? b := fun b hb => g1 b (decide_eq_true hb)
    have ge : G'.get? e = none := g2 e (by simp)
    have old : ∀ b o, hp.get? b = some o → G'.get? b = some o := fun b o q => (gk b (Nat.ne_of_lt (Nat.lt_of_lt_of_le (Heap.lt_size q) M.new))).trans (M.keep b o q)
    have ob : ObjOk X.prog X.w (upd H1 d (.xd [(f, v)])) G' d (.xd [(f, v)]) :=
      ⟨_, hns.at (fun o q => (gk d M.dne).trans q), fun g => relO_one rv f g⟩
    have J : L2.Inv X pins σ (upd H1 d (.xd [(f, v)])) ⟨G', gs, dr, tk', os⟩ := I1.laid (t' := tk') old M.dbig ob
    refine ⟨e, oe, fv, ⟨G', gs, dr, tk', os⟩, _, .ref C, some d, rfl, J, fun b o q => ?_, ge, hoe, ⟨hc, hd⟩, hdat, h1, ?_, rfl, I1.bare, raises_own T.exC T.tyC, q1 d (I1.hok.fresh M.dbig)⟩
    · by_cases hb : b = e
      · have q' : G'.get? b = some o := q
        rw [hb, ge] at q'; cases q'
      · exact (gk b hb).symm.trans q
    · rw [upd_ne (Ne.symm M.dne)]
      exact I1.hok.fresh M.new
theorem pmk_sup {a : Expr} {ta : TA} {p pos : Pos} {k : Nat} (T : PySem.SupX.SupTxt X.prog X.K X.mg C fI c f) (hsup : X.mg ("super" : Str) = none) (hr : Room k X.A) (ha : PA X [a] ta) (hg : Gl X c) (hdb : (c == ("__debug__" : Str)) = false)
    (he : starEach (a :: []) X.env = (false, eval a X.env) :: starEach [] X.env) :
    PMk X (.Call (.Name c p) [a] [] pos) (tMkSup C f ta) := (pmk_sup6 T hsup hr.dp ha hg hdb he).pmk
end
end PD

/-! PD2 -/
set_option Elab.async false
set_option linter.all false
set_option maxRecDepth 100000
set_option maxHeartbeats 4000000
/-! PD: the small language and what it means. -/
namespace PD
open PySem PySem.Spec PyProof.Rows L2

/-! ### syntax -/
inductive Bop where | add | sub | mul | fdv | mod | pow
inductive Cop where | eq | ne | lt | le | gt | ge | inn | nin | is_ | isn
inductive Bfn where | len | abs | min2 | max2 | int | tuple | list | gcd | str
inductive Mth where | bitlen
inductive TyN where | ty (n : String) | own (c : Str)
  deriving DecidableEq
inductive Tg where | nm (i : Nat) | tp (is : List Nat)

mutual
inductive Ex where
  | var (i : Nat) | lit (d : D) | glo (j : Nat) | none_
  | bin (o : Bop) (a b : Ex) | cmp (o : Cop) (a b : Ex) | chain (o o' : Cop) (a b c : Ex)
  | neg (a : Ex) | not_ (a : Ex) | and_ (a b : Ex) | or_ (a b : Ex) | ife (c a b : Ex) | tru (a : Ex)
  | tup (es : Exs) | lst (es : Exs) | idx (a i : Ex) | slc (a lo hi : Ex)
  | call (j : Nat) (es : Exs) | bfn (f : Bfn) (es : Exs) | mth (m : Mth) (a : Ex) (es : Exs)
  | isi (a : Ex) (ts : List TyN) (tp : Bool) | isx (i : Nat) (ts : List Str) (tp : Bool) | xfld (i : Nat) (f : Str) | isv (i : Nat) (n : String)
  | pop (i : Nat)
  | fst (a : Ex) | fst3 (a : Ex) (s : Str) (b : Ex) | join (a b : Ex) | call0 (j : Nat)
  | lc (own : List Nat) (tg : Tg) (it : It) (c elt : Ex)
inductive Exs where
  | nil | cons (e : Ex) (es : Exs)
inductive It where
  | rng1 (a : Ex) | rng2 (a b : Ex) | seq (a : Ex)
end
mutual
inductive St where
  | asg (t : Tg) (e : Ex) | six (i : Nat) (k e : Ex) | app (i : Nat) (e : Ex) | exp (e : Ex)
  | if_ (c : Ex) (a b : Sts) | whl (c : Ex) (b : Sts) | for_ (t : Tg) (it : It) (b : Sts)
  | ret (e : Ex) | retl (e : Ex) | dead | retn | pass | brk | cnt
  | rais (c : Str) | raisf (c f : Str) (e : Ex)
  | try_ (b : Sts) (hs : Hds)
  | tryx (j : Nat) (es : Exs) (c : Str) (i : Nat) (x f : Str) (e : Ex)
inductive Sts where
  | nil | cons (s : St) (ss : Sts)
inductive Hds where
  | nil | cons (cs : List Str) (tp : Bool) (as_ : Option Nat) (b : Sts) (hs : Hds)
end

def Ex.isNone : Ex → Bool
  | .none_ => true
  | _ => false
def Exs.len : Exs → Nat
  | .nil => 0
  | .cons _ es => es.len + 1
mutual
/-- no call within: such a one raises nothing -/
def Ex.pur : Ex → Bool
  | .var _ => true
  | .lit _ => true
  | .glo _ => true
  | .bin _ a b => a.pur && b.pur
  | .cmp _ a b => a.pur && b.pur
  | .and_ a b => a.pur && b.pur
  | .or_ a b => a.pur && b.pur
  | .idx a b => a.pur && b.pur
  | .bfn _ es => es.pur
  | _ => false
def Exs.pur : Exs → Bool
  | .nil => true
  | .cons e es => e.pur && es.pur
end
/-! ### results -/
inductive Res (α : Type) where
  | ok (a : α) (st : Store) | exc (x : XD) (st : Store) | stuck
def Res.bind {α β : Type} (r : Res α) (k : α → Store → Res β) : Res β := match r with
  | .ok a st => k a st
  | .exc x st => .exc x st
  | .stuck => .stuck
def Res.nox {α : Type} (r : Res α) : Res α := match r with
  | .exc _ _ => .stuck
  | r => r
inductive SR where
  | nx (ρ : Slots) (st : Store) | rt (d : D) (st : Store) | rtl (ds : List D) (st : Store) | bk (ρ : Slots) (st : Store) | ct (ρ : Slots) (st : Store) | exc (x : XD) (ρ : Slots) (st : Store) | stuck
inductive Arg where
  | fz (d : D) | mu (c : Cont)
inductive FRes where
  | ok (d : D) (cs : List Cont) | okl (ds : List D) (cs : List Cont) | exc (x : XD) (cs : List Cont) | stuck
structure FnI where
  muts : List Bool
  dfl : List D
  f : List Arg → FRes
structure Gam where
  io : Nat
  con : List D
  fns : List FnI
  exm : Str → Str → Option Bool
  xfl : Str → Str → Bool
  exv : Str → String → Option Bool

/-! ### values -/
def LIM : Nat := 16777216
def dr (st : Store) : Val → Option D
  | .fz d => some d
  | .loc n => match st[n]? with
    | some c => some c.d
    | none => none
  | .exn _ => none
/-- the value is handed on: what it holds stands still from now on -/
def fr (io : Nat) (v : Val) (st : Store) : Res D := match v with
  | .fz d => .ok d st
  | .loc n => match st[n]? with
    | some (.fz d) => .ok d st
    | some c => if io ≤ n then .ok c.d (st.set n (.fz c.d)) else .stuck
    | none => .stuck
  | .exn _ => .stuck
def frs (io : Nat) : List Val → Store → Res (List D)
  | [], st => .ok [] st
  | v :: vs, st => (fr io v st).bind fun d st => (frs io vs st).bind fun ds st => .ok (d :: ds) st
def pick {α : Type} (o : Option α) (k : α → Res β) : Res β := match o with
  | some a => k a
  | none => .stuck

/-! ### operations -/
inductive OpD where | d (d : D) | l (ds : List D) | no
def opRes (r : OpD) (st : Store) : Res Val := match r with
  | .d d => .ok (.fz d) st
  | .l ds => .ok (.loc st.length) (st ++ [.lst ds])
  | .no => .stuck
def mok (i j : Int) : Bool := decide (i.natAbs.log2 + j.natAbs.log2 < 134217000)
def bopS : Bop → D → D → OpD
  | .add, .int i, .int j => .d (.int (i + j))
  | .add, .str x, .str y => if x.length + y.length ≤ LIM then .d (.str (x ++ y)) else .no
  | .add, .lst xs, .lst ys => if xs.length + ys.length ≤ LIM then .l (xs ++ ys) else .no
  | .add, .tup xs, .tup ys => if xs.length + ys.length ≤ LIM then .d (.tup (xs ++ ys)) else .no
  | .sub, .int i, .int j => .d (.int (i - j))
  | .mul, .int i, .int j => if mok i j then .d (.int (i * j)) else .no
  | .mul, .str x, .int j => if 2 ≤ j ∧ j ≤ 100000 ∧ 1 ≤ x.length ∧ x.length * j.toNat ≤ 100000 then .d (.str ⟨(List.replicate j.toNat x.cps).foldl (· ++ ·) #[]⟩) else .no
  | .fdv, .int i, .int j => if j = 0 ∨ Builtin.divisionGoesByPylong i j = true then .no else .d (.int (i.fdiv j))
  | .mod, .int i, .int j => if j = 0 then .no else .d (.int (i.fmod j))
  | .pow, .int i, .int j => if 0 ≤ j ∧ (i.natAbs.log2 + 1) * j.toNat < 134217000 then .d (.int (i ^ j.toNat)) else .no
  | _, _, _ => .no
mutual
def pyOf : D → Option PyData
  | .non => some .none
  | .bl b => some (.bool b)
  | .int i => some (.int i)
  | .str s => some (.str s)
  | .tup ds => match pyOfs ds with
    | some ps => some (.tuple ps)
    | none => none
  | .lst ds => match pyOfs ds with
    | some ps => some (.list ps)
    | none => none
  | .dct _ _ => none
  | .obj _ _ _ => none
def pyOfs : List D → Option (List PyData)
  | [] => some []
  | d :: ds => match pyOf d with
    | some p => (match pyOfs ds with
      | some ps => some (p :: ps)
      | none => none)
    | none => none
end
def eqS : D → D → Option Bool
  | .int i, .int j => some (i == j)
  | .str x, .str y => some (x == y)
  | .bl x, .bl y => some (x == y)
  | .non, .non => some true
  | a, b => match pyOf a, pyOf b with
    | some p, some q => if SeqAt.shaped p && SeqAt.shaped q then some (PyData.eqv p q) else none
    | _, _ => none
def isS : D → D → Option Bool
  | .non, .non => some true
  | _, .non => some false
  | .bl x, .bl y => some (x == y)
  | _, _ => none
/-- a text of one sign -/
def sign? (x : Str) : Option Nat := match x.cps.toList with
  | [c] => some c
  | _ => none
def cmpS : Cop → D → D → Option Bool
  | .inn, .str x, .str z => match sign? x with
    | some c => some (decide (c ∈ z.cps.toList))
    | none => none
  | .nin, .str x, .str z => match sign? x with
    | some c => some (!decide (c ∈ z.cps.toList))
    | none => none
  | .eq, a, b => eqS a b
  | .ne, a, b => match eqS a b with
    | some r => some (!r)
    | none => none
  | .lt, .int i, .int j => some (decide (i < j))
  | .le, .int i, .int j => some (decide (i ≤ j))
  | .gt, .int i, .int j => some (decide (j < i))
  | .ge, .int i, .int j => some (decide (j ≤ i))
  | .lt, .str x, .str y => some (decide (x.cps.toList < y.cps.toList))
  | .le, .str x, .str y => some (!decide (y.cps.toList < x.cps.toList))
  | .is_, a, b => isS a b
  | .isn, a, b => match isS a b with
    | some r => some (!r)
    | none => none
  | _, _, _ => none
def truS : D → Option Bool
  | .non => some false
  | .bl b => some b
  | .int i => some (i != 0)
  | .str s => if s.length ≤ LIM then some ((s.length : Int) != 0) else none
  | .lst ds => some (!ds.isEmpty)
  | .tup ds => some (!ds.isEmpty)
  | _ => none
def sgn (c : Nat) : Str := ⟨#[c]⟩
def idxS : D → D → Option D
  | .lst ds, .int i => atI ds i
  | .tup ds, .int i => atI ds i
  | .str s, .int i => if s.length ≤ LIM then (atI s.cps.toList i).map fun c => .str (sgn c) else none
  | _, _ => none
def cutD (xs : List D) (lo hi : Option Int) : List D := (xs.drop (HT.sIx xs.length 0 lo)).take (HT.sIx xs.length xs.length hi - HT.sIx xs.length 0 lo)
def slcS (d : D) (lo hi : Option Int) : OpD := match d with
  | .lst ds => .l (cutD ds lo hi)
  | .tup ds => .d (.tup (cutD ds lo hi))
  | .str s => if s.length ≤ LIM then .d (.str (cutS s lo hi)) else .no
  | _ => .no
def bndV : Bool → Val → Option (Option Int)
  | true, _ => some none
  | false, .fz (.int i) => some (some i)
  | _, _ => none
def bfnS : Bfn → List D → OpD
  | .len, [.lst ds] => .d (.int ds.length)
  | .len, [.tup ds] => .d (.int ds.length)
  | .len, [.str s] => if s.length ≤ LIM then .d (.int s.length) else .no
  | .abs, [.int i] => .d (.int (if i < 0 then -i else i))
  | .min2, [.int i, .int j] => .d (.int (if j < i then j else i))
  | .max2, [.int i, .int j] => .d (.int (if j > i then j else i))
  | .int, [.int i] => .d (.int i)
  | .int, [.bl b] => .d (.int (if b then 1 else 0))
  | .int, [.str a] => match PySem.intText? a with
    | some n => if a.length ≤ 640 then .d (.int n) else .no
    | none => .no
  | .str, [.int i] => if i.natAbs.log2 < 1920 then .d (.str (Str.ofString (toString i))) else .no
  | .tuple, [.lst ds] => .d (.tup ds)
  | .tuple, [.tup ds] => .d (.tup ds)
  | .list, [.lst ds] => .l ds
  | .list, [.tup ds] => .l ds
  | .gcd, [.int i, .int j] => .d (.int ((Nat.gcd i.natAbs j.natAbs : Nat) : Int))
  | _, _ => .no
/-- the texts of a row -/
def strs? : List D → Option (List Str)
  | [] => some []
  | .str s :: ds => (match strs? ds with
    | some r => some (s :: r)
    | none => none)
  | _ :: _ => none
def joinS (a : Str) (ds : List D) : OpD := match strs? ds with
  | some ys => if (ys.map (·.length)).sum + ys.length * a.length ≤ LIM then .d (.str (Txt.join a ys)) else .no
  | none => .no
def joinD (a : Str) : D → OpD
  | .lst ds => joinS a ds
  | .tup ds => joinS a ds
  | _ => .no
/-- a value within an f-string -/
def fmtS : D → Option Str
  | .str y => if y.length ≤ LIM then some y else none
  | .int i => if i.natAbs.log2 < 1920 then some (Str.ofString (toString i)) else none
  | _ => none
def cat2S (x s : Str) : Option Str := if (Str.empty ++ x).length ≤ LIM ∧ (Str.empty ++ x ++ s).length ≤ LIM then some (Str.empty ++ x ++ s) else none
def catS (u y : Str) : Option Str := if (u ++ y).length ≤ LIM then some (u ++ y) else none
def txt? : D → Option Str
  | .str a => some a
  | _ => none
def mthS : Mth → D → List D → OpD
  | .bitlen, .int i, [] => .d (.int (Builtin.Int.intBits i : Nat))
  | _, _, _ => .no
/-- the name of a datum's type -/
def tyS : D → Option String
  | .non => some "NoneType"
  | .bl _ => some "bool"
  | .int _ => some "int"
  | .str _ => some "str"
  | .tup _ => some "tuple"
  | .lst _ => some "list"
  | .dct _ _ => some "dict"
  | .obj _ _ _ => none
def isiOne (exm : Str → Str → Option Bool) (d : D) (t : TyN) : Option Bool := match t with
  | .ty n => (match tyS d with
    | some u => kitB u n
    | none => none)
  | .own _ => none
def isiS (exm : Str → Str → Option Bool) (d : D) : List TyN → Option Bool
  | [] => some false
  | t :: ts => match isiOne exm d t with
    | some true => some true
    | some false => isiS exm d ts
    | none => none
def isxS (exm : Str → Str → Option Bool) (c : Str) : List Str → Option Bool
  | [] => some false
  | t :: ts => match exm c t with
    | some true => some true
    | some false => isxS exm c ts
    | none => none

/-! ### what is walked -/
inductive Iter where | rng (lo : Int) (n : Nat) | lst (v : Val) | tup (ds : List D) | str (s : Str)
def Iter.size (st : Store) : Iter → Option Nat
  | .rng _ n => some n
  | .lst v => (match dr st v with
    | some (.lst ds) => some ds.length
    | _ => none)
  | .tup ds => some ds.length
  | .str s => some s.cps.size
def Iter.at (st : Store) (i : Nat) : Iter → Option D
  | .rng lo _ => some (.int (lo + i))
  | .lst v => (match dr st v with
    | some (.lst ds) => ds[i]?
    | _ => none)
  | .tup ds => ds[i]?
  | .str s => (s.cps[i]?).map fun c => .str (sgn c)
def seqI (v : Val) : D → Option Iter
  | .lst _ => some (.lst v)
  | .tup ds => some (.tup ds)
  | .str s => some (.str s)
  | _ => none
def rngOk (i : Int) : Bool := decide (-(2 ^ 62) ≤ i) && decide (i < 2 ^ 62)
def rngS (a b : D) : Option Iter := match a, b with
  | .int i, .int j => if rngOk i && rngOk j then some (.rng i (j - i).toNat) else none
  | _, _ => none

/-! ### targets -/
def setAll : List Nat → List D → Slots → Option Slots
  | [], [], ρ => some ρ
  | i :: is, d :: ds, ρ => setAll is ds (ρ.set i (some (.fz d)))
  | _, _, _ => none
def asgT (t : Tg) (v : Val) (ρ : Slots) (st : Store) : Option Slots := match t with
  | .nm i => some (ρ.set i (some v))
  | .tp is => match v with
    | .fz (.tup ds) => setAll is ds ρ
    | _ => none
def wipeS (ρ : Slots) : List Nat → Slots
  | [] => ρ
  | v :: vs => (wipeS ρ vs).set v none

/-! ### calls -/
/-- arguments: what a def changes for its caller must be a live list of the caller's -/
def frA (io : Nat) : List Bool → List Val → Store → Res (List (Sum D Nat))
  | _, [], st => .ok [] st
  | [], v :: vs, st => (fr io v st).bind fun d st => (frA io [] vs st).bind fun as st => .ok (.inl d :: as) st
  | false :: ms, v :: vs, st => (fr io v st).bind fun d st => (frA io ms vs st).bind fun as st => .ok (.inl d :: as) st
  | true :: ms, v :: vs, st => match v with
    | .loc n => (frA io ms vs st).bind fun as st => .ok (.inr n :: as) st
    | _ => .stuck
def mkA (st : Store) : List (Sum D Nat) → Option (List Arg)
  | [] => some []
  | .inl d :: as => (match mkA st as with
    | some r => some (.fz d :: r)
    | none => none)
  | .inr n :: as => (match st[n]? with
    | some c => if c.live then (match mkA st as with
      | some r => some (.mu c :: r)
      | none => none) else none
    | none => none)
def locsA : List (Sum D Nat) → List Nat
  | [] => []
  | .inl _ :: as => locsA as
  | .inr n :: as => n :: locsA as
def putBack : List Nat → List Cont → Store → Option Store
  | [], [], st => some st
  | n :: ns, c :: cs, st => if c.live then putBack ns cs (st.set n c) else none
  | _, _, _ => none
def noDup : List Nat → Bool
  | [] => true
  | n :: ns => !ns.contains n && noDup ns
def callS (io : Nat) (fi : FnI) (vs : List Val) (st : Store) : Res Val :=
  (frA io fi.muts vs st).bind fun as st => if noDup (locsA as) then
    pick (mkA st as) fun args => match fi.f (args ++ fi.dfl.map .fz) with
      | .ok d cs => pick (putBack (locsA as) cs st) fun st => .ok (.fz d) st
      | .okl ds cs => pick (putBack (locsA as) cs st) fun st => .ok (.loc st.length) (st ++ [.lst ds])
      | .exc x cs => pick (putBack (locsA as) cs st) fun st => .exc x st
      | .stuck => .stuck
  else .stuck

/-! ### expressions -/
def lcLoop (I : Iter) (body : D → Store → Res (List D)) : Nat → Nat → List D → Store → Res (List D)
  | 0, i, acc, st => if I.size st = some i then .ok acc st else .stuck
  | k + 1, i, acc, st => if I.size st = some (i + (k + 1)) then pick (I.at st i) fun d => (body d st).bind fun ds st' => lcLoop I body k (i + 1) (acc ++ ds) st' else .stuck

def lcEnd (ds : List D) (st : Store) : Res Val := .ok (.loc st.length) (st ++ [.lst ds])
def lcPut (io : Nat) (v : Val) (st : Store) : Res (List D) := (fr io v st).bind fun d st => .ok [d] st
def lcTurn (b : Val) (kt kf : Res (List D)) : Res (List D) := match b with
  | .fz (.bl true) => kt
  | .fz (.bl false) => kf
  | _ => .stuck
mutual
def ev (G : Gam) : Ex → Slots → Store → Res Val
  | .var i, ρ, st => match ρ[i]? with
    | some (some v) => .ok v st
    | _ => .stuck
  | .lit d, _, st => .ok (.fz d) st
  | .none_, _, st => .ok (.fz .non) st
  | .glo j, _, st => pick G.con[j]? fun d => .ok (.fz d) st
  | .bin o a b, ρ, st => (ev G a ρ st).bind fun x st => (ev G b ρ st).bind fun y st => pick (dr st x) fun dx => pick (dr st y) fun dy => opRes (bopS o dx dy) st
  | .cmp o a b, ρ, st => (ev G a ρ st).bind fun x st => (ev G b ρ st).bind fun y st => pick (dr st x) fun dx => pick (dr st y) fun dy => pick (cmpS o dx dy) fun r => .ok (.fz (.bl r)) st
  | .chain o o' a b c, ρ, st => (ev G a ρ st).bind fun x st => (ev G b ρ st).bind fun y st => pick (dr st x) fun dx => pick (dr st y) fun dy => pick (cmpS o dx dy) fun r =>
      if r then (ev G c ρ st).bind fun z st => pick (dr st y) fun dy => pick (dr st z) fun dz => pick (cmpS o' dy dz) fun r => .ok (.fz (.bl r)) st else .ok (.fz (.bl false)) st
  | .neg a, ρ, st => (ev G a ρ st).bind fun x st => match x with
    | .fz (.int i) => .ok (.fz (.int (-i))) st
    | _ => .stuck
  | .not_ a, ρ, st => (ev G a ρ st).bind fun x st => match x with
    | .fz (.bl b) => .ok (.fz (.bl (!b))) st
    | _ => .stuck
  | .and_ a b, ρ, st => (ev G a ρ st).bind fun x st => match x with
    | .fz (.bl true) => ev G b ρ st
    | .fz (.bl false) => .ok (.fz (.bl false)) st
    | _ => .stuck
  | .or_ a b, ρ, st => (ev G a ρ st).bind fun x st => match x with
    | .fz (.bl true) => .ok (.fz (.bl true)) st
    | .fz (.bl false) => ev G b ρ st
    | _ => .stuck
  | .ife c a b, ρ, st => (ev G c ρ st).bind fun x st => match x with
    | .fz (.bl true) => ev G a ρ st
    | .fz (.bl false) => ev G b ρ st
    | _ => .stuck
  | .tru a, ρ, st => (ev G a ρ st).bind fun x st => pick (dr st x) fun d => pick (truS d) fun r => .ok (.fz (.bl r)) st
  | .tup es, ρ, st => (evs G es ρ st).bind fun vs st => (frs G.io vs st).bind fun ds st => if ds.length ≤ LIM then .ok (.fz (.tup ds)) st else .stuck
  | .lst es, ρ, st => (evs G es ρ st).bind fun vs st => (frs G.io vs st).bind fun ds st => if ds.length ≤ LIM then .ok (.loc st.length) (st ++ [.lst ds]) else .stuck
  | .idx a i, ρ, st => (ev G a ρ st).bind fun x st => (ev G i ρ st).bind fun y st => pick (dr st x) fun dx => pick (dr st y) fun dy => pick (idxS dx dy) fun d => .ok (.fz d) st
  | .slc a lo hi, ρ, st => (ev G a ρ st).bind fun x st => ((ev G lo ρ st).bind fun l st => pick (bndV lo.isNone l) fun b => .ok b st).bind fun bl st =>
      ((ev G hi ρ st).bind fun h st => pick (bndV hi.isNone h) fun b => .ok b st).bind fun bh st => pick (dr st x) fun dx => opRes (slcS dx bl bh) st
  | .call j es, ρ, st => pick G.fns[j]? fun fi => (evs G es ρ st).bind fun vs st => callS G.io fi vs st
  | .call0 j, _, st => pick G.fns[j]? fun fi => callS G.io fi [] st
  | .bfn f es, ρ, st => (evs G es ρ st).bind fun vs st => pick (vs.mapM (dr st)) fun ds => opRes (bfnS f ds) st
  | .mth m a es, ρ, st => (ev G a ρ st).bind fun x st => (evs G es ρ st).bind fun vs st => pick (dr st x) fun d => pick (vs.mapM (dr st)) fun ds => opRes (mthS m d ds) st
  | .isi a ts _, ρ, st => (ev G a ρ st).bind fun x st => pick (dr st x) fun d => pick (isiS G.exm d ts) fun r => .ok (.fz (.bl r)) st
  | .isx i ts _, ρ, st => match ρ[i]? with
    | some (some (.exn x)) => pick (isxS G.exm x.cls ts) fun r => .ok (.fz (.bl r)) st
    | _ => .stuck
  | .isv i n, ρ, st => match ρ[i]? with
    | some (some (.exn x)) => pick (G.exv x.cls n) fun r => .ok (.fz (.bl r)) st
    | _ => .stuck
  | .xfld i f, ρ, st => match ρ[i]? with
    | some (some (.exn x)) => if G.xfl x.cls f = true then pick (x.fs.lookup f) fun d => .ok (.fz d) st else .stuck
    | _ => .stuck
  | .pop i, ρ, st => match ρ[i]? with
    | some (some (.loc n)) => (match st[n]? with
      | some (.lst ds) => pick ds.getLast? fun d => .ok (.fz d) (st.set n (.lst ds.dropLast))
      | _ => .stuck)
    | _ => .stuck
  | .join a b, ρ, st => (ev G a ρ st).bind fun x st => pick (dr st x) fun dx => pick (txt? dx) fun a => (ev G b ρ st).bind fun y st => pick (dr st y) fun dy => opRes (joinD a dy) st
  | .fst a, ρ, st => (ev G a ρ st).bind fun x st => pick (dr st x) fun d => pick (fmtS d) fun s => .ok (.fz (.str s)) st
  | .fst3 a s b, ρ, st => (ev G a ρ st).bind fun x st => pick (dr st x) fun dx => pick (fmtS dx) fun sx => pick (cat2S sx s) fun u => (ev G b ρ st).bind fun y st => pick (dr st y) fun dy => pick (fmtS dy) fun sy => pick (catS u sy) fun z => .ok (.fz (.str z)) st
  | .lc own tg it c elt, ρ, st => (evI G it ρ st).bind fun I st => pick (I.size st) fun n => if n ≤ LIM then
      (lcLoop I (fun d st => pick (asgT tg (.fz d) (wipeS ρ own) st) fun ρ' => (ev G c ρ' st).nox.bind fun b st => lcTurn b ((ev G elt ρ' st).nox.bind fun v st => lcPut G.io v st) (.ok [] st)) n 0 [] st).bind lcEnd else .stuck
def evs (G : Gam) : Exs → Slots → Store → Res (List Val)
  | .nil, _, st => .ok [] st
  | .cons e es, ρ, st => (ev G e ρ st).bind fun v st => (evs G es ρ st).bind fun vs st => .ok (v :: vs) st
def evI (G : Gam) : It → Slots → Store → Res Iter
  | .rng1 a, ρ, st => (ev G a ρ st).bind fun x st => pick (dr st x) fun d => pick (rngS (.int 0) d) fun I => .ok I st
  | .rng2 a b, ρ, st => (ev G a ρ st).bind fun x st => (ev G b ρ st).bind fun y st => pick (dr st x) fun d => pick (dr st y) fun e => pick (rngS d e) fun I => .ok I st
  | .seq a, ρ, st => (ev G a ρ st).bind fun x st => pick (dr st x) fun d => pick (seqI x d) fun I => .ok I st
end

/-! ### statements -/
def Res.sr {α : Type} (r : Res α) (ρ : Slots) (k : α → Store → SR) : SR := match r with
  | .ok a st => k a st
  | .exc x st => .exc x ρ st
  | .stuck => .stuck
def SR.bind (r : SR) (k : Slots → Store → SR) : SR := match r with
  | .nx ρ st => k ρ st
  | r => r
def pickS {α : Type} (o : Option α) (k : α → SR) : SR := match o with
  | some a => k a
  | none => .stuck
def forLoop (I : Iter) (body : D → Slots → Store → SR) : Nat → Nat → Slots → Store → SR
  | 0, i, ρ, st => if I.size st = some i then .nx ρ st else .stuck
  | k + 1, i, ρ, st => if I.size st = some (i + (k + 1)) then pickS (I.at st i) fun d => match body d ρ st with
    | .nx ρ' st' => forLoop I body k (i + 1) ρ' st'
    | .ct ρ' st' => forLoop I body k (i + 1) ρ' st'
    | .bk ρ' st' => .nx ρ' st'
    | r => r else .stuck
/-- a while, n turns at most (none: not ended) -/
def whileN (c : Slots → Store → Res Val) (body : Slots → Store → SR) : Nat → Slots → Store → Option SR
  | 0, _, _ => none
  | n + 1, ρ, st => match c ρ st with
    | .ok (.fz (.bl true)) st => (match body ρ st with
      | .nx ρ' st' => whileN c body n ρ' st'
      | .ct ρ' st' => whileN c body n ρ' st'
      | .bk ρ' st' => some (.nx ρ' st')
      | r => some r)
    | .ok (.fz (.bl false)) st => some (.nx ρ st)
    | .exc x st => some (.exc x ρ st)
    | _ => some .stuck
open Classical in
noncomputable def whileS (c : Slots → Store → Res Val) (body : Slots → Store → SR) (ρ : Slots) (st : Store) : SR :=
  if h : ∃ n r, whileN c body n ρ st = some r then (Classical.choose_spec h).choose else .stuck
/-- the clause that takes it -/
def hitS (exm : Str → Str → Option Bool) (c : Str) : List Str → Option Bool
  | [] => some false
  | t :: ts => match exm c t, hitS exm c ts with
    | some b, some d => some (b || d)
    | _, _ => none

def begH (as_ : Option Nat) (x : XD) (ρ : Slots) : Slots := match as_ with
  | none => ρ
  | some i => ρ.set i (some (.exn x))
def goneH (as_ : Option Nat) (ρ : Slots) : Slots := match as_ with
  | none => ρ
  | some i => ρ.set i none
def noExn : Slots → Bool
  | [] => true
  | some (.exn _) :: _ => false
  | _ :: ρ => noExn ρ
/-- behind an except suite: its name is gone -/
def endH (as_ : Option Nat) : SR → SR
  | .nx ρ st => if noExn (goneH as_ ρ) = true then .nx (goneH as_ ρ) st else .stuck
  | .bk ρ st => if noExn (goneH as_ ρ) = true then .bk (goneH as_ ρ) st else .stuck
  | .ct ρ st => if noExn (goneH as_ ρ) = true then .ct (goneH as_ ρ) st else .stuck
  | .rt d st => .rt d st
  | .rtl ds st => .rtl ds st
  | _ => .stuck
mutual
noncomputable def ex (G : Gam) : St → Slots → Store → SR
  | .asg t e, ρ, st => (ev G e ρ st).sr ρ fun v st => pickS (asgT t v ρ st) fun ρ => .nx ρ st
  | .six i k e, ρ, st => (ev G e ρ st).sr ρ fun v st => match ρ[i]? with
    | some (some (.loc n)) => (ev G k ρ st).sr ρ fun y st => (fr G.io v st).sr ρ fun d st => (match dr st y, st[n]? with
      | some (.int j), some (.lst ds) => pickS (ixN ds.length j) fun m => .nx ρ (st.set n (.lst (ds.set m d)))
      | _, _ => .stuck)
    | _ => .stuck
  | .app i e, ρ, st => match ρ[i]? with
    | some (some (.loc n)) => (match st[n]? with
      | some (.lst _) => (ev G e ρ st).sr ρ fun v st => (fr G.io v st).sr ρ fun d st => (match st[n]? with
        | some (.lst ds) => if ds.length < LIM then .nx ρ (st.set n (.lst (ds ++ [d]))) else .stuck
        | _ => .stuck)
      | _ => .stuck)
    | _ => .stuck
  | .exp e, ρ, st => (ev G e ρ st).sr ρ fun _ st => .nx ρ st
  | .if_ c a b, ρ, st => (ev G c ρ st).sr ρ fun x st => match x with
    | .fz (.bl true) => exs G a ρ st
    | .fz (.bl false) => exs G b ρ st
    | _ => .stuck
  | .whl c b, ρ, st => whileS (ev G c) (exs G b) ρ st
  | .for_ t it b, ρ, st => (evI G it ρ st).sr ρ fun I st => pickS (I.size st) fun n => forLoop I (fun d ρ st => pickS (asgT t (.fz d) ρ st) fun ρ => exs G b ρ st) n 0 ρ st
  | .ret e, ρ, st => (ev G e ρ st).sr ρ fun v st => (fr G.io v st).sr ρ fun d st => .rt d st
  | .retl e, ρ, st => (ev G e ρ st).sr ρ fun v st => match v with
    | .loc n => if G.io ≤ n then (match st[n]? with
      | some (.lst ds) => .rtl ds st
      | _ => .stuck) else .stuck
    | _ => .stuck
  | .dead, _, _ => .stuck
  | .retn, _, st => .rt .non st
  | .pass, ρ, st => .nx ρ st
  | .brk, ρ, st => .bk ρ st
  | .cnt, ρ, st => .ct ρ st
  | .rais c, ρ, st => .exc ⟨c, []⟩ ρ st
  | .raisf c f e, ρ, st => (ev G e ρ st).sr ρ fun v st => (fr G.io v st).sr ρ fun d st => .exc ⟨c, [(f, d)]⟩ ρ st
  | .try_ b hs, ρ, st => match exs G b ρ st with
    | .exc x ρ st => exh G hs x ρ st
    | r => r
  | .tryx j es c i x f e, ρ, st => if es.pur && e.pur then (match ev G (.call j es) ρ st with
    | .ok _ st => .nx ρ st
    | .exc y st => (match G.exm y.cls c with
      | some true => if noExn (ρ.set i none) = true then (ev G e (ρ.set i (some (.exn y))) st).sr ρ fun v st => (fr G.io v st).sr (ρ.set i none) fun d st => .exc ⟨x, [(f, d)]⟩ (ρ.set i none) st else .stuck
      | some false => .exc y ρ st
      | none => .stuck)
    | .stuck => .stuck) else .stuck
noncomputable def exs (G : Gam) : Sts → Slots → Store → SR
  | .nil, ρ, st => .nx ρ st
  | .cons s ss, ρ, st => (ex G s ρ st).bind fun ρ st => exs G ss ρ st
noncomputable def exh (G : Gam) : Hds → XD → Slots → Store → SR
  | .nil, x, ρ, st => .exc x ρ st
  | .cons cs _ as_ b hs, x, ρ, st => match hitS G.exm x.cls cs with
    | some true => endH as_ (exs G b (begH as_ x ρ) st)
    | some false => exh G hs x ρ st
    | none => .stuck
end

/-! ### a def -/
structure Def where
  n : Nat
  body : Sts
def contsOf : List Arg → List Cont
  | [] => []
  | .mu c :: as => c :: contsOf as
  | .fz _ :: as => contsOf as
def slotsOf : Nat → List Arg → Slots
  | _, [] => []
  | i, .mu _ :: as => some (.loc i) :: slotsOf (i + 1) as
  | i, .fz d :: as => some (.fz d) :: slotsOf i as
noncomputable def runDef (G : Gam) (d : Def) (args : List Arg) : FRes :=
  match exs { G with io := (contsOf args).length } d.body (slotsOf 0 args ++ List.replicate (d.n - args.length) none) (contsOf args) with
  | .nx _ st => .ok .non (st.take (contsOf args).length)
  | .rt d st => .ok d (st.take (contsOf args).length)
  | .rtl ds st => .okl ds (st.take (contsOf args).length)
  | .exc x _ st => .exc x (st.take (contsOf args).length)
  | _ => .stuck
end PD

/-! PD3 -/
set_option Elab.async false
set_option linter.all false
set_option maxRecDepth 100000
set_option maxHeartbeats 4000000
/-! PD: the state's relation kept by the store's deeds. -/
namespace PD
open PySem PySem.Spec PyProof.Rows L2

/-- a step of the ghost and the heap -/
structure Step (g : Gh) (H : Hp) (g' : Gh) (H' : Hp) : Prop where
  le : g.le g'
  frame : ∀ b o, H b = some o → b ∉ g.A → H' b = some o
  freshF : ∀ b, g'.F b ≠ none → g.F b ≠ none ∨ H b = none ∨ b ∈ g.A
  freshA : ∀ b, b ∈ g'.A → b ∈ g.A ∨ H b = none
theorem Step.refl (g : Gh) (H : Hp) : Step g H g H := ⟨Gh.le.refl g, fun _ _ e _ => e, fun _ h => .inl h, fun _ h => .inl h⟩
theorem Step.trans {g0 g1 g2 : Gh} {H0 H1 H2 : Hp} (a : Step g0 H0 g1 H1) (b : Step g1 H1 g2 H2) : Step g0 H0 g2 H2 where
  le := a.le.trans b.le
  frame := fun c o e h => by
    refine b.frame c o (a.frame c o e h) fun hc => ?_
    rcases a.freshA c hc with q | q
    · exact h q
    · rw [e] at q; cases q
  freshF := fun c h => by
    rcases b.freshF c h with q | q | q
    · exact a.freshF c q
    · cases e : H0 c with
      | none => exact .inr (.inl rfl)
      | some o =>
        by_cases hc : c ∈ g0.A
        · exact .inr (.inr hc)
        · rw [a.frame c o e hc] at q; cases q
    · rcases a.freshA c q with r | r
      · exact .inr (.inr r)
      · exact .inr (.inl r)
  freshA := fun c h => by
    rcases b.freshA c h with q | q
    · exact a.freshA c q
    · cases e : H0 c with
      | none => exact .inr rfl
      | some o =>
        by_cases hc : c ∈ g0.A
        · exact .inl hc
        · rw [a.frame c o e hc] at q; cases q

section
variable {B : Bs} {g : Gh} {H : Hp} {σ : L2.St} {ρ : Slots} {st : Store}

theorem getA {A : List Addr} (h : A.Nodup) {i j : Nat} {a : Addr} (e1 : A[i]? = some a) (e2 : A[j]? = some a) : i = j := by
  have h1 := (List.getElem?_eq_some_iff.mp e1)
  have h2 := (List.getElem?_eq_some_iff.mp e2)
  obtain ⟨l1, q1⟩ := h1
  obtain ⟨l2, q2⟩ := h2
  exact (List.getElem_inj h).mp (q1.trans q2.symm)

theorem ER.fresh0 (r : ER B g H σ ρ st) {p : Addr} (h : H p = none) : g.F p = none ∧ p ∉ g.A ∧ B.H0 p = none ∧ p ∉ B.lk := by
  have h1 : g.F p = none := r.le.free h
  have h2 : p ∉ g.A := fun hp => by
    obtain ⟨i, hi⟩ := List.getElem?_of_mem hp
    exact r.there i p hi h
  have h3 : p ∉ B.lk := fun hp => (r.lkd p hp).1 h1
  refine ⟨h1, h2, ?_, h3⟩
  cases e : B.H0 p with
  | none => rfl
  | some o =>
    have := r.keep p o e (fun hp => h2 (r.io.subset hp)) h3
    rw [h] at this; cases this

/-- b is a list that may be changed now -/
def Live (g : Gh) (st : Store) (b : Addr) : Prop := ∃ (i : Nat) (c : Cont), g.A[i]? = some b ∧ st[i]? = some c ∧ c.live = true
theorem ContR.mut {R : RC} {F H : Hp} {a : Addr} {c : Cont} (r : ContR R F H a c) (hc : c.live = true) : (∃ xs, H a = some (.lst xs)) ∨ ∃ kvs, H a = some (.dK kvs) := by
  cases c with
  | lst ds => obtain ⟨_, xs, e, _⟩ := r; exact .inl ⟨xs, e⟩
  | dct ks ds => obtain ⟨_, xs, e, _⟩ := r; exact .inr ⟨xs, e⟩
  | fz d => cases hc

/-- the state goes on: the ghost's F and A grow, the heap changes at live lists alone -/
theorem ER.next (r : ER B g H σ ρ st) {g' : Gh} {H' : Hp} {st' : Store} (hle : g.le g') (le : Le g'.F H')
    (fresh : ∀ b, g'.F b ≠ none → g.F b ≠ none ∨ B.H0 b = none) (keep : ∀ b o, H b = some o → Live g st b ∨ H' b = some o)
    (hlen : g'.A.length = st'.length) (hnd : g'.A.Nodup) (hlive : ∀ (i : Nat) (c : Cont), i < B.io.length → st'[i]? = some c → c.live = true)
    (hown : ∀ (i : Nat) (a : Addr), g.A.length ≤ i → g'.A[i]? = some a → B.H0 a = none)
    (hthere : ∀ (i : Nat) (a : Addr), g'.A[i]? = some a → H' a ≠ none)
    (hc : ∀ (i : Nat) (a : Addr) (c : Cont), g'.A[i]? = some a → st'[i]? = some c → ContR B.R g'.F H' a c) : ER B g' H' σ ρ st' where
  same0 := r.same0.trans hle.F
  le := le
  fresh := fun b h => by
    rcases fresh b h with q | q
    · exact r.fresh b q
    · exact .inr q
  keep := fun b o e hio hlk => by
    have h1 := r.keep b o e hio hlk
    rcases keep b o h1 with ⟨i, c, hA, hs, hl⟩ | q
    · by_cases hi : i < B.io.length
      · obtain ⟨t, ht⟩ := r.io
        have : B.io[i]? = some b := by
          rw [← ht, List.getElem?_append_left hi] at hA; exact hA
        exact absurd (List.mem_of_getElem? this) hio
      · have := r.own i b (by omega) hA
        rw [e] at this; cases this
    · exact q
  lkd := fun b hb => by
    obtain ⟨h1, ob, u, h2, h3⟩ := r.lkd b hb
    refine ⟨fun z => ?_, ob, u, ?_, h3⟩
    · cases e : g.F b with
      | none => exact h1 e
      | some o => rw [hle.F b o e] at z; cases z
    · rcases keep b _ h2 with ⟨i, c, hA, hs, hl⟩ | q
      · rcases (r.conts i b c hA hs).mut hl with ⟨xs, z⟩ | ⟨xs, z⟩
        · rw [h2] at z; cases z
        · rw [h2] at z; cases z
      · exact q
  len := hlen
  nodup := hnd
  io := r.io.trans hle.A
  iolive := hlive
  own := fun i a hi e => by
    by_cases h : i < g.A.length
    · obtain ⟨t, ht⟩ := hle.A
      rw [← ht, List.getElem?_append_left h] at e
      exact r.own i a hi e
    · exact hown i a (by omega) e
  there := hthere
  conts := hc
  slen := r.slen
  slots := fun i o v e1 e2 => (r.slots i o v e1 e2).up hle

/-- nothing but what stands still grows: a new object that stands still at p -/
theorem ER.lay (r : ER B g H σ ρ st) {p : Addr} {o : HO} (h : H p = none) : ER B ⟨upd g.F p o, g.A⟩ (upd H p o) σ ρ st ∧ Step g H ⟨upd g.F p o, g.A⟩ (upd H p o) := by
  obtain ⟨h1, h2, h3, h4⟩ := r.fresh0 h
  have hF : Same g.F (upd g.F p o) := Same.upd h1
  have hH : Same H (upd H p o) := Same.upd h
  have neA : ∀ (i : Nat) (a : Addr), g.A[i]? = some a → a ≠ p := fun i a e z => h2 (by rw [← z]; exact List.mem_of_getElem? e)
  refine ⟨r.next ⟨hF, List.prefix_refl _⟩ (fun a u e => ?_) (fun b hb => ?_) (fun b u e => .inr (hH b u e)) r.len r.nodup r.iolive (fun i a hi e => ?_) (fun i a e => ?_) fun i a c e1 e2 => ?_, ⟨⟨hF, List.prefix_refl _⟩, fun b u e _ => hH b u e, fun b hb => ?_, fun b hb => .inl hb⟩⟩
  · by_cases ha : a = p
    · subst ha
      have e' : upd g.F a o a = some u := e
      rw [upd_same] at e'
      exact .inl (by rw [upd_same]; exact e')
    · have e' : upd g.F p o a = some u := e
      rw [upd_ne ha] at e'
      rw [upd_ne ha]
      exact r.le a u e'
  · by_cases ha : b = p
    · exact .inr (by rw [ha]; exact h3)
    · have hb' : upd g.F p o b ≠ none := hb
      rw [upd_ne ha] at hb'
      exact .inl hb'
  · have := (List.getElem?_eq_some_iff.mp e).1
    exact absurd this (by simp only; omega)
  · have := r.there i a e
    rw [upd_ne (neA i a e)]; exact this
  · refine (r.conts i a c e1 e2).F hF (fun hl => ?_) (fun _ => upd_ne (neA i a e1))
    show upd g.F p o a = none
    rw [upd_ne (neA i a e1)]
    exact (r.conts i a c e1 e2).out hl
  · by_cases ha : b = p
    · exact .inr (.inl (by rw [ha]; exact h))
    · have hb' : upd g.F p o b ≠ none := hb
      rw [upd_ne ha] at hb'
      exact .inl hb'

/-- a new list or dict of the store at p -/
theorem ER.alloc (r : ER B g H σ ρ st) {p : Addr} {o : HO} {c : Cont} (h : H p = none) (hl : c.live = true) (hc : ∀ H', H' p = some o → ContR B.R g.F H' p c) :
    ER B ⟨g.F, g.A ++ [p]⟩ (upd H p o) σ ρ (st ++ [c]) ∧ Step g H ⟨g.F, g.A ++ [p]⟩ (upd H p o) := by
  obtain ⟨h1, h2, h3, h4⟩ := r.fresh0 h
  have hH : Same H (upd H p o) := Same.upd h
  have neA : ∀ (i : Nat) (a : Addr), g.A[i]? = some a → a ≠ p := fun i a e z => h2 (by rw [← z]; exact List.mem_of_getElem? e)
  have lastA : ∀ (i : Nat) (a : Addr), (g.A ++ [p])[i]? = some a → g.A[i]? = some a ∨ (i = g.A.length ∧ a = p) := fun i a e => by
    by_cases hi : i < g.A.length
    · rw [List.getElem?_append_left hi] at e; exact .inl e
    · rw [List.getElem?_append_right (by omega)] at e
      have hi2 : i - g.A.length = 0 := by
        have := (List.getElem?_eq_some_iff.mp e).1
        simp at this; omega
      rw [hi2] at e
      simp at e
      exact .inr ⟨by omega, e.symm⟩
  refine ⟨r.next ⟨Same.refl _, List.prefix_append _ _⟩ (fun a u e => ?_) (fun b hb => .inl hb) (fun b u e => .inr (hH b u e)) ?_ ?_ (fun i c' hi e => ?_) (fun i a hi e => ?_) (fun i a e => ?_) fun i a c' e1 e2 => ?_, ⟨⟨Same.refl _, List.prefix_append _ _⟩, fun b u e _ => hH b u e, fun b hb => .inl hb, fun b hb => ?_⟩⟩
  · exact (r.le.up hH) a u e
  · simp [r.len]
  · refine List.nodup_append.mpr ⟨r.nodup, by simp, fun x hx y hy => ?_⟩
    have : y = p := by simpa using hy
    subst this
    intro z; subst z; exact h2 hx
  · by_cases h' : i < st.length
    · rw [List.getElem?_append_left h'] at e
      exact r.iolive i c' hi e
    · rw [List.getElem?_append_right (by omega)] at e
      have := (List.getElem?_eq_some_iff.mp e).1
      simp at this
      have hz : i - st.length = 0 := by omega
      rw [hz] at e
      simp at e
      rw [← e]; exact hl
  · rcases lastA i a e with q | ⟨_, q⟩
    · have := (List.getElem?_eq_some_iff.mp q).1
      exact absurd this (by omega)
    · rw [q]; exact h3
  · rcases lastA i a e with q | ⟨_, q⟩
    · rw [upd_ne (neA i a q)]; exact r.there i a q
    · rw [q, upd_same]; intro z; cases z
  · rcases lastA i a e1 with q | ⟨qi, q⟩
    · have hi : i < st.length := by
        have := (List.getElem?_eq_some_iff.mp q).1
        rw [r.len] at this; exact this
      rw [List.getElem?_append_left hi] at e2
      exact (r.conts i a c' q e2).F (Same.refl _) (fun hl' => (r.conts i a c' q e2).out hl') (fun _ => upd_ne (neA i a q))
    · have hi : i = st.length := by rw [qi, r.len]
      subst hi
      rw [List.getElem?_append_right (Nat.le_refl _)] at e2
      simp at e2
      rw [← e2, q]
      exact hc _ upd_same
  · rcases List.mem_append.mp hb with q | q
    · exact .inl q
    · have : b = p := by simpa using q
      exact .inr (by rw [this]; exact h)

theorem setAt {α : Type} {l : List α} {i j : Nat} {x y : α} (h : (l.set i x)[j]? = some y) : (i ≠ j ∧ l[j]? = some y) ∨ (i = j ∧ x = y) := by
  by_cases hij : i = j
  · subst hij
    rw [List.getElem?_set_self'] at h
    cases e : l[i]? with
    | none => rw [e] at h; cases h
    | some z =>
      rw [e] at h
      simp at h
      exact .inr ⟨rfl, h⟩
  · rw [List.getElem?_set_ne hij] at h
    exact .inl ⟨hij, h⟩

/-- a live list of the store is changed -/
theorem ER.put (r : ER B g H σ ρ st) {n : Nat} {a : Addr} {c0 c : Cont} {o : HO} (hA : g.A[n]? = some a) (hs : st[n]? = some c0) (h0 : c0.live = true) (hl : c.live = true) (hc : ∀ H', H' a = some o → ContR B.R g.F H' a c) :
    ER B g (upd H a o) σ ρ (st.set n c) ∧ Step g H g (upd H a o) := by
  have out := (r.conts n a c0 hA hs).out h0
  refine ⟨r.next (Gh.le.refl g) (fun b u e => ?_) (fun b hb => .inl hb) (fun b u e => ?_) (by rw [List.length_set]; exact r.len) r.nodup (fun i c' hi e => ?_) (fun i b hi e => ?_) (fun i b e => ?_) fun i b c' e1 e2 => ?_, ⟨Gh.le.refl g, fun b u e hb => ?_, fun b hb => .inl hb, fun b hb => .inl hb⟩⟩
  · have hb : b ≠ a := fun z => by rw [z, out] at e; cases e
    rw [upd_ne hb]
    exact r.le b u e
  · by_cases hb : b = a
    · subst hb
      exact .inl ⟨n, c0, hA, hs, h0⟩
    · exact .inr (by rw [upd_ne hb]; exact e)
  · rcases setAt e with ⟨_, q⟩ | ⟨_, q⟩
    · exact r.iolive i c' hi q
    · rw [← q]; exact hl
  · have := (List.getElem?_eq_some_iff.mp e).1
    exact absurd this (by omega)
  · by_cases hb : b = a
    · rw [hb, upd_same]; intro z; cases z
    · rw [upd_ne hb]; exact r.there i b e
  · rcases setAt e2 with ⟨hn, q⟩ | ⟨hn, q⟩
    · have hb : b ≠ a := fun z => hn (getA r.nodup hA (by rw [← z]; exact e1))
      exact (r.conts i b c' e1 q).F (Same.refl _) (fun hl' => (r.conts i b c' e1 q).out hl') (fun _ => upd_ne hb)
    · subst hn
      rw [hA] at e1; cases e1
      rw [← q]
      exact hc _ upd_same
  · have hb' : b ≠ a := fun z => hb (by rw [z]; exact List.mem_of_getElem? hA)
    rw [upd_ne hb']; exact e

/-- a live list of the store stands still from now on -/
theorem ER.still (r : ER B g H σ ρ st) {n : Nat} {a : Addr} {c : Cont} (hA : g.A[n]? = some a) (hs : st[n]? = some c) (hl : c.live = true) (hn : B.io.length ≤ n) :
    ∃ F', ER B ⟨F', g.A⟩ H σ ρ (st.set n (.fz c.d)) ∧ Step g H ⟨F', g.A⟩ H ∧ Rep B.R F' (.ref a) c.d := by
  have q := r.conts n a c hA hs
  have out := q.out hl
  have h0 := r.own n a hn hA
  obtain ⟨o, ho⟩ : ∃ o, H a = some o := by
    cases e : H a with
    | none => exact absurd e (r.there n a hA)
    | some o => exact ⟨o, rfl⟩
  have hF : Same g.F (upd g.F a o) := Same.upd out
  have rep : Rep B.R (upd g.F a o) (.ref a) c.d := by
    cases c with
    | lst ds =>
      obtain ⟨_, xs, e, l⟩ := q
      rw [ho] at e; cases e
      exact .lst (SqL.of upd_same) (l.mono hF)
    | dct ks ds =>
      obtain ⟨_, kvs, e, k, l⟩ := q
      rw [ho] at e; cases e
      exact .dct upd_same k rfl (l.mono hF)
    | fz d => cases hl
  have neA : ∀ (i : Nat) (b : Addr), g.A[i]? = some b → i ≠ n → b ≠ a := fun i b e hi z => hi (getA r.nodup (by rw [← z]; exact e) hA)
  refine ⟨upd g.F a o, r.next ⟨hF, List.prefix_refl _⟩ (fun b u e => ?_) (fun b hb => ?_) (fun b u e => .inr e) (by rw [List.length_set]; exact r.len) r.nodup (fun i c' hi e => ?_) (fun i b hi e => ?_) r.there fun i b c' e1 e2 => ?_, ⟨⟨hF, List.prefix_refl _⟩, fun b u e _ => e, fun b hb => ?_, fun b hb => .inl hb⟩, rep⟩
  · have e' : upd g.F a o b = some u := e
    by_cases hb : b = a
    · rw [hb, upd_same] at e'; cases e'
      exact .inl (by rw [hb]; exact ho)
    · rw [upd_ne hb] at e'
      exact r.le b u e'
  · have hb' : upd g.F a o b ≠ none := hb
    by_cases hba : b = a
    · exact .inr (by rw [hba]; exact h0)
    · rw [upd_ne hba] at hb'; exact .inl hb'
  · rcases setAt e with ⟨_, q⟩ | ⟨hz, _⟩
    · exact r.iolive i c' hi q
    · omega
  · have := (List.getElem?_eq_some_iff.mp e).1
    exact absurd this (by simp only; omega)
  · rcases setAt e2 with ⟨hz, q2⟩ | ⟨hz, q2⟩
    · have hb := neA i b e1 (Ne.symm hz)
      refine (r.conts i b c' e1 q2).F hF (fun hl' => ?_) (fun _ => rfl)
      show upd g.F a o b = none
      rw [upd_ne hb]
      exact (r.conts i b c' e1 q2).out hl'
    · subst hz
      have e1' : g.A[n]? = some b := e1
      rw [hA] at e1'; cases e1'
      rw [← q2]
      exact rep
  · have hb' : upd g.F a o b ≠ none := hb
    by_cases hba : b = a
    · exact .inr (.inr (by rw [hba]; exact List.mem_of_getElem? hA))
    · rw [upd_ne hba] at hb'; exact .inl hb'

/-! ### what a value is -/
theorem ER.stAt (r : ER B g H σ ρ st) {n : Nat} {a : Addr} (h : g.A[n]? = some a) : ∃ c, st[n]? = some c := by
  have := (List.getElem?_eq_some_iff.mp h).1
  rw [r.len] at this
  exact ⟨_, List.getElem?_eq_getElem this⟩
theorem ER.atA (r : ER B g H σ ρ st) {n : Nat} {c : Cont} (h : st[n]? = some c) : ∃ a, g.A[n]? = some a := by
  have := (List.getElem?_eq_some_iff.mp h).1
  rw [← r.len] at this
  exact ⟨_, List.getElem?_eq_getElem this⟩
/-- what may be read at a value -/
inductive RdV (R : RC) (F H : Hp) : V → D → Prop
  | rep {x : V} {d : D} : Rep R F x d → RdV R F H x d
  | lst {a : Addr} {xs : List V} {ds : List D} : F a = none → H a = some (.lst xs) → RepL R F xs ds → RdV R F H (.ref a) (.lst ds)
  | dct {a : Addr} {kvs : List (Key × V)} {ks : List Key} {ds : List D} : F a = none → H a = some (.dK kvs) → kvs.map (·.1) = ks → RepL R F (kvs.map (·.2)) ds → RdV R F H (.ref a) (.dct ks ds)
theorem ER.rd (r : ER B g H σ ρ st) {x : V} {v : Val} {d : D} (h : ValR B.R B.ex g.F g.A x v) (e : dr st v = some d) : RdV B.R g.F H x d := by
  cases v with
  | fz d' => cases e; exact .rep h
  | loc n =>
    obtain ⟨a, hA, rfl⟩ := h
    have e' : (match st[n]? with | some c => some c.d | none => none) = some d := e
    cases hs : st[n]? with
    | none => rw [hs] at e'; cases e'
    | some c =>
      rw [hs] at e'
      cases e'
      have q := r.conts n a c hA hs
      cases c with
      | lst ds => obtain ⟨o, xs, hx, l⟩ := q; exact .lst o hx l
      | dct ks ds => obtain ⟨o, kvs, hx, k, l⟩ := q; exact .dct o hx k l
      | fz d => exact .rep q
  | exn x => cases e
theorem RdV.int {R : RC} {F H : Hp} {x : V} {i : Int} (h : RdV R F H x (.int i)) : x = .int i := by
  cases h with
  | rep h => cases h; rfl
theorem RdV.str {R : RC} {F H : Hp} {x : V} {s : Str} (h : RdV R F H x (.str s)) : x = .str s := by
  cases h with
  | rep h => cases h; rfl
theorem RdV.bl {R : RC} {F H : Hp} {x : V} {b : Bool} (h : RdV R F H x (.bl b)) : x = .bl b := by
  cases h with
  | rep h => cases h; rfl
theorem RdV.non {R : RC} {F H : Hp} {x : V} (h : RdV R F H x .non) : x = .non := by
  cases h with
  | rep h => cases h; rfl
theorem RdV.asL {R : RC} {F H : Hp} {x : V} {ds : List D} (l : Le F H) (h : RdV R F H x (.lst ds)) : ∃ a xs, x = .ref a ∧ SqL R.K H a xs ∧ RepL R F xs ds := by
  cases h with
  | rep h => cases h with
    | lst s k => exact ⟨_, _, rfl, l.sqL s, k⟩
  | lst _ h k => exact ⟨_, _, rfl, SqL.of h, k⟩
theorem RdV.asT {R : RC} {F H : Hp} {x : V} {ds : List D} (l : Le F H) (h : RdV R F H x (.tup ds)) : ∃ a xs, x = .ref a ∧ SqT R.K H a xs ∧ RepL R F xs ds := by
  cases h with
  | rep h => cases h with
    | tup s k => exact ⟨_, _, rfl, l.sqT s, k⟩

/-- a value is handed on -/
theorem ER.fr (r : ER B g H σ ρ st) {x : V} {v : Val} {d : D} {st' : Store} (h : ValR B.R B.ex g.F g.A x v) (e : fr B.io.length v st = .ok d st') :
    ∃ F', ER B ⟨F', g.A⟩ H σ ρ st' ∧ Step g H ⟨F', g.A⟩ H ∧ Rep B.R F' x d := by
  cases v with
  | fz d' => cases e; exact ⟨g.F, r, Step.refl _ _, h⟩
  | loc n =>
    obtain ⟨a, hA, rfl⟩ := h
    obtain ⟨c, hs⟩ := r.stAt hA
    have e' : (match st[n]? with | some (.fz d) => Res.ok d st | some c => if B.io.length ≤ n then .ok c.d (st.set n (.fz c.d)) else .stuck | none => .stuck) = .ok d st' := e
    rw [hs] at e'
    have live : c.live = true → (if B.io.length ≤ n then Res.ok c.d (st.set n (.fz c.d)) else .stuck) = .ok d st' → ∃ F', ER B ⟨F', g.A⟩ H σ ρ st' ∧ Step g H ⟨F', g.A⟩ H ∧ Rep B.R F' (.ref a) d := fun hl q => by
      by_cases hn : B.io.length ≤ n
      · rw [if_pos hn] at q
        cases q
        exact r.still hA hs hl hn
      · rw [if_neg hn] at q; cases q
    cases c with
    | lst ds => exact live rfl e'
    | dct ks ds => exact live rfl e'
    | fz d0 =>
      cases e'
      exact ⟨g.F, r, Step.refl _ _, r.conts n a _ hA hs⟩
  | exn x => cases e
theorem fr_no_exc {io : Nat} {v : Val} {st st' : Store} {x : XD} : PD.fr io v st ≠ .exc x st' := by
  intro h
  cases v with
  | fz d => cases h
  | loc n =>
    have e' : (match st[n]? with | some (.fz d) => Res.ok d st | some c => if io ≤ n then .ok c.d (st.set n (.fz c.d)) else .stuck | none => .stuck) = .exc x st' := h
    cases hs : st[n]? with
    | none => rw [hs] at e'; cases e'
    | some c =>
      rw [hs] at e'
      cases c with
      | fz d => cases e'
      | lst ds =>
        by_cases hn : io ≤ n
        · simp only [if_pos hn] at e'; cases e'
        · simp only [if_neg hn] at e'; cases e'
      | dct ks ds =>
        by_cases hn : io ≤ n
        · simp only [if_pos hn] at e'; cases e'
        · simp only [if_neg hn] at e'; cases e'
  | exn x => cases h
end
end PD

/-! PD4 -/
set_option Elab.async false
set_option linter.all false
set_option maxRecDepth 100000
set_option maxHeartbeats 4000000
/-! PD: what must hold behind a result; the operations. -/
namespace PD
open PySem PySem.Spec PyProof.Rows L2

theorem lim_eq : LIM = sizeLine := by rw [sizeLine_eq] <;> rfl

/-- what must hold behind a result: k of a value, W of an exception -/
def Pst (B : Bs) (W : WX) (g : Gh) (H : Hp) (σ : L2.St) (ρ : Slots) {α : Type} (r : Res α) (k : α → Store → Gh → Hp → Prop) : Prop := match r with
  | .ok a st' => ∀ g' H', ER B g' H' σ ρ st' → Step g H g' H' → k a st' g' H'
  | .exc x st' => ∀ g' H' cls dd, ER B g' H' σ ρ st' → Step g H g' H' → XR B.R g'.F x cls dd → W cls dd σ H'
  | .stuck => False
abbrev kV (B : Bs) (Q : VK) : Val → Store → Gh → Hp → Prop := fun v _ g' H' => ∀ x, ValR B.R B.ex g'.F g'.A x v → Q x H'
def tE (B : Bs) (W : WX) (c : Slots → Store → Res Val) : TE := fun σ H Q => ∃ g ρ st, ER B g H σ ρ st ∧ Pst B W g H σ ρ (c ρ st) (kV B Q)
/-- .. of a test -/
def tT (B : Bs) (W : WX) (c : Slots → Store → Res Val) : TT := fun σ H Q => ∃ g ρ st, ER B g H σ ρ st ∧ Pst B W g H σ ρ (c ρ st) fun v _ _ H' => ∃ b, v = .fz (.bl b) ∧ Q b H'
inductive ValsR (R : RC) (X : ExH) (F : Hp) (A : List Addr) : List V → List Val → Prop
  | nil : ValsR R X F A [] []
  | cons {x : V} {xs : List V} {v : Val} {vs : List Val} : ValR R X F A x v → ValsR R X F A xs vs → ValsR R X F A (x :: xs) (v :: vs)
def tA' (B : Bs) (W : WX) (c : Slots → Store → Res (List Val)) : TA := fun σ H Q => ∃ g ρ st, ER B g H σ ρ st ∧ Pst B W g H σ ρ (c ρ st) fun vs _ g' H' => ∀ xs, ValsR B.R B.ex g'.F g'.A xs vs → Q xs H'

section
variable {B : Bs} {W : WX} {g : Gh} {H : Hp} {σ : L2.St} {ρ : Slots} {st : Store} {α β : Type} {Q : VK}

theorem Pst.imp {r : Res α} {k k' : α → Store → Gh → Hp → Prop} (h : Pst B W g H σ ρ r k) (i : ∀ a st' g' H', ER B g' H' σ ρ st' → Step g H g' H' → k a st' g' H' → k' a st' g' H') : Pst B W g H σ ρ r k' := by
  cases r with
  | ok a st' => exact fun g' H' e s => i a st' g' H' e s (h g' H' e s)
  | exc x st' => exact h
  | stuck => exact h
theorem Pst.bind {r : Res α} {f : α → Store → Res β} {k : β → Store → Gh → Hp → Prop} (h : Pst B W g H σ ρ (r.bind f) k) : Pst B W g H σ ρ r (fun a st1 g1 H1 => Pst B W g1 H1 σ ρ (f a st1) k) := by
  cases r with
  | ok a st1 =>
    intro g1 H1 e1 s1
    have h' : Pst B W g H σ ρ (f a st1) k := h
    cases q : f a st1 with
    | ok b st2 =>
      rw [q] at h'
      exact fun g2 H2 e2 s2 => h' g2 H2 e2 (s1.trans s2)
    | exc x st2 =>
      rw [q] at h'
      exact fun g2 H2 cls dd e2 s2 xr => h' g2 H2 cls dd e2 (s1.trans s2) xr
    | stuck =>
      rw [q] at h'
      exact h'
  | exc x st1 => exact h
  | stuck => exact h
theorem Pst.bindE {r : Res α} {f : α → Store → Res β} {k : β → Store → Gh → Hp → Prop} (h : Pst B W g H σ ρ (r.bind f) k) : Pst B W g H σ ρ r (fun a st1 g1 H1 => r = .ok a st1 ∧ Pst B W g1 H1 σ ρ (f a st1) k) := by
  have h2 := h.bind
  cases r with
  | ok a st1 => exact fun g1 H1 e1 s1 => ⟨rfl, h2 g1 H1 e1 s1⟩
  | exc x st1 => exact h2
  | stuck => exact h2
theorem Pst.pick {o : Option α} {f : α → Res β} {k : β → Store → Gh → Hp → Prop} (h : Pst B W g H σ ρ (pick o f) k) : ∃ a, o = some a ∧ Pst B W g H σ ρ (f a) k := by
  cases o with
  | none => exact h.elim
  | some a => exact ⟨a, rfl, h⟩
theorem Pst.ok {a : α} {k : α → Store → Gh → Hp → Prop} (h : Pst B W g H σ ρ (.ok a st) k) (e : ER B g H σ ρ st) : k a st g H := h g H e (Step.refl _ _)
theorem Pst.here {g' : Gh} {H' : Hp} {st' : Store} {a : α} {k : α → Store → Gh → Hp → Prop} (h : Pst B W g H σ ρ (.ok a st') k) (e : ER B g' H' σ ρ st') (s : Step g H g' H') : k a st' g' H' := h g' H' e s

/-! ### new values -/
theorem Pst.same {d : D} {x : V} (h : Pst B W g H σ ρ (.ok (.fz d) st) (kV B Q)) (e : ER B g H σ ρ st) (r : Rep B.R g.F x d) : Q x H := h.ok e x r
theorem Pst.newt {ds : List D} {xs : List V} (h : Pst B W g H σ ρ (.ok (.fz (.tup ds)) st) (kV B Q)) (e : ER B g H σ ρ st) (r : RepL B.R g.F xs ds) {p : Addr} (hp : H p = none) : Q (.ref p) (upd H p (.tup xs)) := by
  obtain ⟨e', s⟩ := e.lay (o := .tup xs) hp
  exact h.here e' s _ (.tup (SqT.of upd_same) (r.mono s.le.F))
theorem Pst.newl {ds : List D} {xs : List V} (h : Pst B W g H σ ρ (.ok (.loc st.length) (st ++ [.lst ds])) (kV B Q)) (e : ER B g H σ ρ st) (r : RepL B.R g.F xs ds) {p : Addr} (hp : H p = none) : Q (.ref p) (upd H p (.lst xs)) := by
  obtain ⟨e', s⟩ := e.alloc (c := .lst ds) (o := .lst xs) hp rfl fun H' hH => ⟨(e.fresh0 hp).1, xs, hH, r⟩
  exact h.here e' s _ ⟨p, by rw [← e.len]; simp, rfl⟩
end

/-! ### operations by values -/
section
variable {X : Cx}
theorem opr_or {f : Value → Value → Sem Value} {r r' : R2} (h : OpR X f r) (h' : OpR X f r') : OpR X f (fun x y H Q => r x y H Q ∨ r' x y H Q) := by
  intro pins s σ H x y v u Q I rx ry q
  rcases q with q | q
  · exact h pins s σ H x y v u Q I rx ry q
  · exact h' pins s σ H x y v u Q I rx ry q
theorem opr_of {f : Value → Value → Sem Value} {r r' : R2} (h : OpR X f r) (i : ∀ x y H Q, r' x y H Q → r x y H Q) : OpR X f r' := fun pins s σ H x y v u Q I rx ry q => h pins s σ H x y v u Q I rx ry (i _ _ _ _ q)
/-- list + list, wherever they stand -/
def rCatL (K : PySem.W.Frag) : R2 := fun x y H Q => ∃ a b xs ys, x = .ref a ∧ y = .ref b ∧ SqL K H a xs ∧ SqL K H b ys ∧ xs.length + ys.length ≤ sizeLine ∧ ∀ p, H p = none → Q (.ref p) (upd H p (.lst (xs ++ ys)))
theorem op_catL : OpR X (binaryOp .Add) (rCatL X.K) := by
  intro pins s σ H x y v u Q I rx ry h
  obtain ⟨a, b, xs, ys, rfl, rfl, ha, hb, hz, q⟩ := h
  cases rx
  cases ry
  obtain ⟨i1, r1, ⟨⟨cls, dd, data, sl⟩, n, ho, hc, hdd, hd⟩, _⟩ := I.list ha
  obtain ⟨i2, r2, ⟨⟨cls2, dd2, data2, sl2⟩, n2, ho2, hc2, hdd2, hd2⟩, _⟩ := I.list hb
  simp only at hc hd hc2 hd2 hdd hdd2
  subst hc hd hc2 hd2 hdd hdd2
  have e : i1.toArray ++ i2.toArray = (i1 ++ i2).toArray := by simp
  refine concat_meets ⟨_, ho, rfl⟩ ⟨_, ho2, rfl⟩ noFill_list_add seq_list_add PySem.F.slot_list_add PySem.F.entry_list_add (PySem.F.args_list_add_2 _ _)
    (list_addW a b i1.toArray i2.toArray n n2 none none sl sl2 (by rw [List.size_toArray, List.size_toArray, ← r1.length, ← r2.length]; exact hz)) ⟨ho, ho2, ?_⟩
  rw [e]
  exact ⟨.ref _, _, I.lnew (t' := s.toks) (r1.append r2) (by rw [List.length_append]; exact hz), rfl, q _ I.fresh⟩
def CMulB (i j : Int) : Prop := mok i j = true
theorem intBits_le (x : Int) : Builtin.Int.intBits x ≤ x.natAbs.log2 + 1 := by
  unfold Builtin.Int.intBits
  split <;> omega
theorem CMulB.ok {i j : Int} (h : CMulB i j) : IntMulOk i j := by
  have h1 := intBits_le i
  have h2 := intBits_le j
  have h3 : i.natAbs.log2 + j.natAbs.log2 < 134217000 := of_decide_eq_true h
  have e : bitsLine = 134217728 := by decide
  unfold IntMulOk
  intro z
  rw [Bool.and_eq_true] at z
  have z2 := z.2
  unfold Builtin.Int.intTooBig at z2
  have z3 := of_decide_eq_true z2
  rw [e] at z3
  omega
theorem op_mulB : OpR X (binaryOp .Mult) (rI CMulB fun i j => .int (i * j)) := opI fun _ _ _ _ _ _ _ hc q => mul_int q hc.ok
def CDivB (i j : Int) : Prop := j ≠ 0 ∧ Builtin.divisionGoesByPylong i j = false
theorem op_fdivB : OpR X (binaryOp .FloorDiv) (rI CDivB fun i j => .int (i.fdiv j)) := opI fun _ _ _ _ _ _ _ hc q => floordiv_int hc.1 q (.inl hc.2)
def CPowB (i j : Int) : Prop := 0 ≤ j ∧ (i.natAbs.log2 + 1) * j.toNat < 134217000
theorem op_powB : OpR X (binaryOp .Pow) (rI CPowB fun i j => .int (i ^ j.toNat)) := opI fun i j _ _ _ _ _ hc q => by
  obtain ⟨h0, h1⟩ := hc
  refine pow_int h0 ?_ q
  have hb := intBits_le i
  have h2 : Builtin.Int.intBits i * j.toNat ≤ (i.natAbs.log2 + 1) * j.toNat := Nat.mul_le_mul_right _ hb
  have h3 : ((Builtin.Int.intBits i * j.toNat : Nat) : Int) ≤ 2 ^ 27 := by
    have : (2 : Int) ^ 27 = 134217728 := by decide
    rw [this]; omega
  have h4 : (j.toNat : Int) = j := Int.toNat_of_nonneg h0
  rw [Int.natCast_mul, h4] at h3
  exact h3
end
/-- a text, many times -/
def rRepS : R2 := fun x y H Q => ∃ (z : Str) (j : Int), x = .str z ∧ y = .int j ∧ 2 ≤ j ∧ j ≤ 100000 ∧ 1 ≤ z.length ∧ z.length * j.toNat ≤ 100000 ∧ Q (.str ⟨(List.replicate j.toNat z.cps).foldl (· ++ ·) #[]⟩) H
theorem op_repS {X : Cx} : OpR X (binaryOp .Mult) rRepS := by
  intro pins s σ H x y v u Q I rx ry h
  obtain ⟨z, j, rfl, rfl, h1, h2, h3, h4, q⟩ := h
  obtain ⟨t, rfl⟩ := rx
  obtain ⟨t', rfl⟩ := ry
  have e1 : ¬ j < 1 := by omega
  have e2 : (j == 1 || z.length == 0) = false := by
    have a1 : (j == 1) = false := by simp; omega
    have a2 : (z.length == 0) = false := by simp; omega
    rw [a1, a2]; rfl
  refine PySem.P.mul_str ?_ (fun _ _ => ?_) (fun _ _ => ?_) ?_
  · have a1 : ¬ j < -(2 ^ 63 : Int) := by omega
    have a2 : ¬ j ≥ 2 ^ 63 := by omega
    rw [decide_eq_false a1, decide_eq_false a2]; rfl
  · have a3 : z.length ≤ 100000 := by
      have : z.length * 1 ≤ z.length * j.toNat := Nat.mul_le_mul_left _ (by omega)
      omega
    intro hgt
    have : (100000 : Int) ≤ (2 ^ 63 - 1) / j := by
      refine Int.le_ediv_of_mul_le (by omega) ?_
      omega
    omega
  · unfold Builtin.Str.tooLong
    have : ¬ z.length * j.toNat > sizeLine := by rw [sizeLine_eq]; omega
    exact decide_eq_false this
  · rw [if_neg e1, if_neg (by rw [e2]; decide)]
    have rep : ∀ (n : Nat) (a : Array Nat), ((List.replicate n z.cps).foldl (· ++ ·) a).size = a.size + z.length * n := fun n => by
      induction n with
      | zero => intro a; simp
      | succ n ih => intro a; rw [List.replicate_succ, List.foldl_cons, ih, Array.size_append, Nat.mul_succ]; show _ + z.cps.size + _ = _; have : z.length = z.cps.size := rfl; omega
    refine ⟨?_, ⟨.str _, H, I.tok _, ⟨_, rfl⟩, q⟩⟩
    show ((List.replicate j.toNat z.cps).foldl (· ++ ·) #[]).size ≤ _
    rw [rep, sizeLine_eq]
    simp
    omega
def Bop.op : Bop → Operator
  | .add => .Add | .sub => .Sub | .mul => .Mult | .fdv => .FloorDiv | .mod => .Mod | .pow => .Pow
def bopR (K : PySem.W.Frag) : Bop → R2
  | .add => fun x y H Q => (rI0 (fun i j => V.int (i + j))) x y H Q ∨ (∃ i j, x = .str i ∧ y = .str j ∧ i.length + j.length ≤ sizeLine ∧ Q (.str (i ++ j)) H) ∨ rCatL K x y H Q ∨ rCatA K x y H Q
  | .sub => rI0 fun i j => .int (i - j)
  | .mul => fun x y H Q => rI CMulB (fun i j => .int (i * j)) x y H Q ∨ rRepS x y H Q
  | .fdv => rI CDivB fun i j => .int (i.fdiv j)
  | .mod => rI (fun _ j => j ≠ 0) fun i j => .int (i.fmod j)
  | .pow => rI CPowB fun i j => .int (i ^ j.toNat)
theorem bop_ok {X : Cx} : ∀ o : Bop, OpR X (binaryOp o.op) (bopR X.K o)
  | .add => opr_or op_add (opr_or op_add_str (opr_or op_catL op_catA))
  | .sub => op_sub
  | .mul => opr_or op_mulB op_repS
  | .fdv => op_fdivB
  | .mod => op_modN
  | .pow => op_powB
end PD

/-! PD5 -/
set_option Elab.async false
set_option linter.all false
set_option maxRecDepth 100000
set_option maxHeartbeats 4000000
/-! PD: the operations' meanings are the model's. -/
namespace PD
open PySem PySem.Spec PyProof.Rows L2

theorem RdV.tupRep {R : RC} {F H : Hp} {x : V} {ds : List D} (h : RdV R F H x (.tup ds)) : Rep R F x (.tup ds) := by
  cases h with
  | rep h => exact h
mutual
theorem Rep.dp {R : RC} {F H : Hp} (l : Le F H) : ∀ {d : D} {x : V} {p : PyData}, Rep R F x d → pyOf d = some p → Dp R.K H x p
  | .non, _, p, h, e => by cases h; rw [pyOf] at e; cases e; exact .non
  | .bl b, _, p, h, e => by cases h; rw [pyOf] at e; cases e; exact .bl b
  | .int i, _, p, h, e => by cases h; rw [pyOf] at e; cases e; exact .int i
  | .str s, _, p, h, e => by cases h; rw [pyOf] at e; cases e; exact .str s
  | .tup ds, _, p, h, e => by
    cases h with
    | tup s k =>
      rw [pyOf] at e
      cases q : pyOfs ds with
      | none => rw [q] at e; cases e
      | some ps =>
        rw [q] at e; cases e
        exact .tup (l.sqT s) (RepL.dp l k q)
  | .lst ds, _, p, h, e => by
    cases h with
    | lst s k =>
      rw [pyOf] at e
      cases q : pyOfs ds with
      | none => rw [q] at e; cases e
      | some ps =>
        rw [q] at e; cases e
        exact .lst (l.sqL s) (RepL.dp l k q)
  | .dct _ _, _, p, h, e => by rw [pyOf] at e; cases e
  | .obj _ _ _, _, p, h, e => by rw [pyOf] at e; cases e
theorem RepL.dp {R : RC} {F H : Hp} (l : Le F H) : ∀ {ds : List D} {xs : List V} {ps : List PyData}, RepL R F xs ds → pyOfs ds = some ps → DpAll R.K H xs ps
  | [], _, ps, h, e => by cases h; rw [pyOfs] at e; cases e; exact .nil
  | d :: ds, _, ps, h, e => by
    cases h with
    | cons r k =>
      rw [pyOfs] at e
      cases q : pyOf d with
      | none => rw [q] at e; cases e
      | some p =>
        rw [q] at e
        cases q2 : pyOfs ds with
        | none => rw [q2] at e; cases e
        | some ps2 =>
          rw [q2] at e; cases e
          exact .cons (Rep.dp l r q) (RepL.dp l k q2)
end
theorem RdV.dp {R : RC} {F H : Hp} {x : V} {d : D} {p : PyData} (l : Le F H) (h : RdV R F H x d) (e : pyOf d = some p) : Dp R.K H x p := by
  cases h with
  | rep h => exact h.dp l e
  | @lst a xs ds _ hx k =>
    rw [pyOf] at e
    cases q : pyOfs ds with
    | none => rw [q] at e; cases e
    | some ps =>
      rw [q] at e; cases e
      exact .lst (SqL.of hx) (RepL.dp l k q)
  | dct _ _ _ _ => rw [pyOf] at e; cases e

section
variable {B : Bs} {W : WX} {g : Gh} {H : Hp} {σ : L2.St} {ρ : Slots} {st : Store} {Q : VK}

theorem bop_pst (e : ER B g H σ ρ st) (o : Bop) {x y : V} {dx dy : D} (rx : RdV B.R g.F H x dx) (ry : RdV B.R g.F H y dy) (h : Pst B W g H σ ρ (opRes (bopS o dx dy) st) (kV B Q)) : bopR B.R.K o x y H Q := by
  have le := e.le
  cases o with
  | add =>
    cases dx <;> cases dy <;> first
      | exact h.elim
      | skip
    · obtain rfl := rx.int; obtain rfl := ry.int
      exact .inl ⟨_, _, rfl, rfl, h.same e (.int _)⟩
    · obtain rfl := rx.str; obtain rfl := ry.str
      rename_i s t
      have h' : Pst B W g H σ ρ (opRes (if s.length + t.length ≤ LIM then .d (.str (s ++ t)) else .no) st) (kV B Q) := h
      by_cases hz : s.length + t.length ≤ LIM
      · rw [if_pos hz] at h'
        exact .inr (.inl ⟨_, _, rfl, rfl, by rw [← lim_eq]; exact hz, h'.same e (.str _)⟩)
      · rw [if_neg hz] at h'; exact h'.elim
    · rename_i xs ys
      have h' : Pst B W g H σ ρ (opRes (if xs.length + ys.length ≤ LIM then .d (.tup (xs ++ ys)) else .no) st) (kV B Q) := h
      by_cases hz : xs.length + ys.length ≤ LIM
      · rw [if_pos hz] at h'
        have tx := rx.tupRep
        have ty := ry.tupRep
        cases tx with
        | tup sx kx =>
          cases ty with
          | tup sy ky =>
            refine .inr (.inr (.inr ⟨_, _, _, _, rfl, rfl, le.sqT sx, le.sqT sy, ?_, fun z => ?_, fun z1 z2 => ?_, fun _ _ p hp => ?_⟩))
            · rw [kx.length, ky.length, ← lim_eq]; exact hz
            · subst z
              cases kx
              exact h'.same e (.tup sy (by simpa using ky))
            · subst z2
              cases ky
              exact h'.same e (.tup sx (by simpa using kx))
            · exact h'.newt e (kx.append ky) hp
      · rw [if_neg hz] at h'; exact h'.elim
    · rename_i xs ys
      have h' : Pst B W g H σ ρ (opRes (if xs.length + ys.length ≤ LIM then .l (xs ++ ys) else .no) st) (kV B Q) := h
      by_cases hz : xs.length + ys.length ≤ LIM
      · rw [if_pos hz] at h'
        obtain ⟨a, vx, rfl, sx, kx⟩ := rx.asL le
        obtain ⟨b, vy, rfl, sy, ky⟩ := ry.asL le
        refine .inr (.inr (.inl ⟨a, b, vx, vy, rfl, rfl, sx, sy, ?_, fun p hp => ?_⟩))
        · rw [kx.length, ky.length, ← lim_eq]; exact hz
        · exact h'.newl e (kx.append ky) hp
      · rw [if_neg hz] at h'; exact h'.elim
  | sub =>
    cases dx <;> cases dy <;> first
      | exact h.elim
      | skip
    obtain rfl := rx.int; obtain rfl := ry.int
    exact ⟨_, _, rfl, rfl, h.same e (.int _)⟩
  | mul =>
    cases dx <;> cases dy <;> first
      | exact h.elim
      | skip
    · obtain rfl := rx.int; obtain rfl := ry.int
      rename_i i j
      have h' : Pst B W g H σ ρ (opRes (if mok i j then .d (.int (i * j)) else .no) st) (kV B Q) := h
      by_cases hz : mok i j = true
      · rw [if_pos hz] at h'
        exact .inl ⟨_, _, rfl, rfl, hz, h'.same e (.int _)⟩
      · rw [if_neg hz] at h'; exact h'.elim
    · obtain rfl := rx.str; obtain rfl := ry.int
      rename_i z j
      have h' : Pst B W g H σ ρ (opRes (if 2 ≤ j ∧ j ≤ 100000 ∧ 1 ≤ z.length ∧ z.length * j.toNat ≤ 100000 then .d (.str ⟨(List.replicate j.toNat z.cps).foldl (· ++ ·) #[]⟩) else .no) st) (kV B Q) := h
      by_cases hz : 2 ≤ j ∧ j ≤ 100000 ∧ 1 ≤ z.length ∧ z.length * j.toNat ≤ 100000
      · rw [if_pos hz] at h'
        exact .inr ⟨_, _, rfl, rfl, hz.1, hz.2.1, hz.2.2.1, hz.2.2.2, h'.same e (.str _)⟩
      · rw [if_neg hz] at h'; exact h'.elim
  | fdv =>
    cases dx <;> cases dy <;> first
      | exact h.elim
      | skip
    obtain rfl := rx.int; obtain rfl := ry.int
    rename_i i j
    have h' : Pst B W g H σ ρ (opRes (if j = 0 ∨ Builtin.divisionGoesByPylong i j = true then .no else .d (.int (i.fdiv j))) st) (kV B Q) := h
    by_cases hz : j = 0 ∨ Builtin.divisionGoesByPylong i j = true
    · rw [if_pos hz] at h'; exact h'.elim
    · rw [if_neg hz] at h'
      have h1 : j ≠ 0 := fun z => hz (.inl z)
      have h2 : Builtin.divisionGoesByPylong i j = false := by
        cases q : Builtin.divisionGoesByPylong i j with
        | false => rfl
        | true => exact absurd (.inr q) hz
      exact ⟨_, _, rfl, rfl, ⟨h1, h2⟩, h'.same e (.int _)⟩
  | mod =>
    cases dx <;> cases dy <;> first
      | exact h.elim
      | skip
    obtain rfl := rx.int; obtain rfl := ry.int
    rename_i i j
    have h' : Pst B W g H σ ρ (opRes (if j = 0 then .no else .d (.int (i.fmod j))) st) (kV B Q) := h
    by_cases hz : j = 0
    · rw [if_pos hz] at h'; exact h'.elim
    · rw [if_neg hz] at h'
      exact ⟨_, _, rfl, rfl, hz, h'.same e (.int _)⟩
  | pow =>
    cases dx <;> cases dy <;> first
      | exact h.elim
      | skip
    obtain rfl := rx.int; obtain rfl := ry.int
    rename_i i j
    have h' : Pst B W g H σ ρ (opRes (if 0 ≤ j ∧ (i.natAbs.log2 + 1) * j.toNat < 134217000 then .d (.int (i ^ j.toNat)) else .no) st) (kV B Q) := h
    by_cases hz : 0 ≤ j ∧ (i.natAbs.log2 + 1) * j.toNat < 134217000
    · rw [if_pos hz] at h'
      exact ⟨_, _, rfl, rfl, hz, h'.same e (.int _)⟩
    · rw [if_neg hz] at h'; exact h'.elim

/-! ### comparisons -/
def _root_.PD.Cop.op : Cop → CmpOp
  | .eq => .Eq | .ne => .NotEq | .lt => .Lt | .le => .LtE | .gt => .Gt | .ge => .GtE | .inn => .In | .nin => .NotIn | .is_ => .Is | .isn => .IsNot
def copR (K : PySem.W.Frag) : Cop → R2
  | .eq => fun x y H Q => rEq x y H Q ∨ rEqD K x y H Q
  | .ne => fun x y H Q => rNe x y H Q ∨ rNeD K x y H Q
  | .lt => fun x y H Q => (rI0 (fun i j => V.bl (decide (i < j)))) x y H Q ∨ (∃ i j, x = .str i ∧ y = .str j ∧ Q (.bl (decide (i.cps.toList < j.cps.toList))) H)
  | .le => fun x y H Q => (rI0 (fun i j => V.bl (decide (i ≤ j)))) x y H Q ∨ (∃ i j, x = .str i ∧ y = .str j ∧ Q (.bl (!decide (j.cps.toList < i.cps.toList))) H)
  | .gt => rI0 fun i j => .bl (decide (j < i))
  | .ge => rI0 fun i j => .bl (decide (j ≤ i))
  | .is_ => fun x y H Q => (y = .non ∧ Q (.bl (decide (x = .non))) H) ∨ rIsB x y H Q
  | .isn => fun x y H Q => (y = .non ∧ Q (.bl (!decide (x = .non))) H) ∨ rNotB x y H Q
  | .inn => fun x y H Q => ∃ (c : Nat) (z : Str), x = .str ⟨#[c]⟩ ∧ y = .str z ∧ Q (.bl (decide (c ∈ z.cps.toList))) H
  | .nin => fun x y H Q => ∃ (c : Nat) (z : Str), x = .str ⟨#[c]⟩ ∧ y = .str z ∧ Q (.bl (!decide (c ∈ z.cps.toList))) H
theorem cop_ok {X : Cx} (hu : X.A.units + 64 < cLine) : ∀ o : Cop, OpR X (compareOp o.op) (copR X.K o)
  | .eq => opr_or op_eq (op_eqD hu)
  | .ne => opr_or op_ne (op_neD hu)
  | .lt => opr_or op_lt op_lt_str
  | .le => opr_or op_le op_le_str
  | .gt => op_gt
  | .ge => op_ge
  | .is_ => opr_or op_isN op_isBl
  | .isn => opr_or op_notN op_notBl
  | .inn => op_in_sign
  | .nin => op_notIn_sign

theorem eqS_ok {R : RC} {F : Hp} (le : Le F H) {x y : V} {dx dy : D} {r : Bool} (rx : RdV R F H x dx) (ry : RdV R F H y dy) (h : eqS dx dy = some r) :
    (scal x y = true ∧ decide (x = y) = r) ∨ ∃ d e, Dp R.K H x d ∧ Dp R.K H y e ∧ SeqAt.shaped d = true ∧ SeqAt.shaped e = true ∧ PyData.eqv d e = r := by
  have gen : (match pyOf dx, pyOf dy with
      | some p, some q => if SeqAt.shaped p && SeqAt.shaped q then some (PyData.eqv p q) else none
      | _, _ => none) = some r → ∃ d e, Dp R.K H x d ∧ Dp R.K H y e ∧ SeqAt.shaped d = true ∧ SeqAt.shaped e = true ∧ PyData.eqv d e = r := fun h => by
    cases q1 : pyOf dx with
    | none => rw [q1] at h; cases h
    | some p =>
      cases q2 : pyOf dy with
      | none => rw [q1, q2] at h; cases h
      | some q =>
        rw [q1, q2] at h
        have h' : (if SeqAt.shaped p && SeqAt.shaped q then some (PyData.eqv p q) else none) = some r := h
        cases q3 : SeqAt.shaped p && SeqAt.shaped q with
        | false => rw [q3] at h'; cases h'
        | true =>
          rw [q3] at h'
          simp only [if_true] at h'
          obtain ⟨z1, z2⟩ := Bool.and_eq_true_iff.mp q3
          exact ⟨p, q, rx.dp le q1, ry.dp le q2, z1, z2, Option.some.inj h'⟩
  cases dx <;> cases dy <;> first
    | (obtain rfl := rx.non; obtain rfl := ry.non; cases h; exact .inl ⟨rfl, by simp⟩)
    | (obtain rfl := rx.bl; obtain rfl := ry.bl
       have h' : (_ == _) = r := Option.some.inj h
       exact .inl ⟨rfl, by rw [dec_bl]; exact h'⟩)
    | (obtain rfl := rx.int; obtain rfl := ry.int
       have h' : (_ == _) = r := Option.some.inj h
       exact .inl ⟨rfl, by rw [dec_int]; exact h'⟩)
    | (obtain rfl := rx.str; obtain rfl := ry.str
       have h' : (_ == _) = r := Option.some.inj h
       exact .inl ⟨rfl, by rw [dec_str]; exact h'⟩)
    | exact .inr (gen h)
theorem RdV.nonD {R : RC} {F : Hp} {x : V} {d : D} (rx : RdV R F H x d) : decide (x = .non) = (match d with | .non => true | _ => false) := by
  cases rx with
  | rep h => cases h <;> rfl
  | lst _ _ _ => rfl
  | dct _ _ _ _ => rfl
theorem isS_ok {R : RC} {F : Hp} {x y : V} {dx dy : D} {r : Bool} (rx : RdV R F H x dx) (ry : RdV R F H y dy) (h : isS dx dy = some r) :
    (y = .non ∧ decide (x = .non) = r) ∨ ∃ a b : Bool, x = .bl a ∧ y = .bl b ∧ decide (a = b) = r := by
  cases dy with
  | non =>
    obtain rfl := ry.non
    refine .inl ⟨rfl, ?_⟩
    rw [rx.nonD]
    cases dx <;> exact Option.some.inj h
  | bl b =>
    obtain rfl := ry.bl
    cases dx with
    | bl a =>
      obtain rfl := rx.bl
      refine .inr ⟨a, b, rfl, rfl, ?_⟩
      have h' : (a == b) = r := Option.some.inj h
      rw [← h']
      cases a <;> cases b <;> rfl
    | _ => cases h
  | _ => cases dx <;> cases h
theorem sign_of {x : Str} {c : Nat} (h : sign? x = some c) : x = ⟨#[c]⟩ := by
  unfold sign? at h
  split at h
  · rename_i c' e
    cases h
    obtain ⟨⟨l⟩⟩ := x
    have e' : l = [c] := e
    rw [e']
  · cases h
theorem cop_pst (e : ER B g H σ ρ st) (o : Cop) {x y : V} {dx dy : D} {r : Bool} (rx : RdV B.R g.F H x dx) (ry : RdV B.R g.F H y dy) (h : cmpS o dx dy = some r) (q : Q (.bl r) H) : copR B.R.K o x y H Q := by
  have le := e.le
  cases o with
  | eq =>
    rcases eqS_ok le rx ry h with ⟨h1, h2⟩ | ⟨d, d2, h1, h2, h3, h4, h5⟩
    · exact .inl ⟨h1, by rw [h2]; exact q⟩
    · exact .inr ⟨d, d2, h1, h2, h3, h4, by rw [h5]; exact q⟩
  | ne =>
    have h' : (match eqS dx dy with | some r => some (!r) | none => none) = some r := h
    cases z : eqS dx dy with
    | none => rw [z] at h'; cases h'
    | some r0 =>
      rw [z] at h'
      have h2 : (!r0) = r := Option.some.inj h'
      rcases eqS_ok le rx ry z with ⟨h1, h3⟩ | ⟨d, d2, h1, h3, h4, h5, h6⟩
      · exact .inl ⟨h1, by rw [h3, h2]; exact q⟩
      · exact .inr ⟨d, d2, h1, h3, h4, h5, by rw [h6, h2]; exact q⟩
  | lt =>
    cases dx <;> cases dy <;> first
      | cases h
      | skip
    · obtain rfl := rx.int; obtain rfl := ry.int
      exact .inl ⟨_, _, rfl, rfl, q⟩
    · obtain rfl := rx.str; obtain rfl := ry.str
      exact .inr ⟨_, _, rfl, rfl, q⟩
  | le =>
    cases dx <;> cases dy <;> first
      | cases h
      | skip
    · obtain rfl := rx.int; obtain rfl := ry.int
      exact .inl ⟨_, _, rfl, rfl, q⟩
    · obtain rfl := rx.str; obtain rfl := ry.str
      exact .inr ⟨_, _, rfl, rfl, q⟩
  | gt =>
    cases dx <;> cases dy <;> first
      | cases h
      | skip
    obtain rfl := rx.int; obtain rfl := ry.int
    exact ⟨_, _, rfl, rfl, q⟩
  | ge =>
    cases dx <;> cases dy <;> first
      | cases h
      | skip
    obtain rfl := rx.int; obtain rfl := ry.int
    exact ⟨_, _, rfl, rfl, q⟩
  | inn =>
    cases dx <;> cases dy <;> first
      | cases h
      | skip
    obtain rfl := rx.str; obtain rfl := ry.str
    rename_i x z
    have h' : (match sign? x with
      | some c => some (decide (c ∈ z.cps.toList))
      | none => none) = some r := h
    cases q2 : sign? x with
    | none => rw [q2] at h'; cases h'
    | some c =>
      rw [q2] at h'
      obtain rfl := sign_of q2
      have h2 : (decide (c ∈ z.cps.toList)) = r := Option.some.inj h'
      exact ⟨c, z, rfl, rfl, by rw [h2]; exact q⟩
  | nin =>
    cases dx <;> cases dy <;> first
      | cases h
      | skip
    obtain rfl := rx.str; obtain rfl := ry.str
    rename_i x z
    have h' : (match sign? x with
      | some c => some (!decide (c ∈ z.cps.toList))
      | none => none) = some r := h
    cases q2 : sign? x with
    | none => rw [q2] at h'; cases h'
    | some c =>
      rw [q2] at h'
      obtain rfl := sign_of q2
      have h2 : (!decide (c ∈ z.cps.toList)) = r := Option.some.inj h'
      exact ⟨c, z, rfl, rfl, by rw [h2]; exact q⟩
  | is_ =>
    have h' : isS dx dy = some r := by cases dx <;> cases dy <;> exact h
    rcases isS_ok rx ry h' with ⟨h1, h2⟩ | ⟨a, b, h1, h2, h3⟩
    · exact .inl ⟨h1, by rw [h2]; exact q⟩
    · exact .inr ⟨a, b, h1, h2, by rw [h3]; exact q⟩
  | isn =>
    have h0 : (match isS dx dy with | some r => some (!r) | none => none) = some r := by cases dx <;> cases dy <;> exact h
    cases z : isS dx dy with
    | none => rw [z] at h0; cases h0
    | some r0 =>
      rw [z] at h0
      have h2 : (!r0) = r := Option.some.inj h0
      rcases isS_ok rx ry z with ⟨h1, h3⟩ | ⟨a, b, h1, h3, h4⟩
      · exact .inl ⟨h1, by rw [h3, h2]; exact q⟩
      · exact .inr ⟨a, b, h1, h3, by rw [h4, h2]; exact q⟩
end
end PD

/-! PD6 -/
set_option Elab.async false
set_option linter.all false
set_option maxRecDepth 100000
set_option maxHeartbeats 4000000
/-! PD: items, slices, built-in functions, kinds. -/
namespace PD
open PySem PySem.Spec PyProof.Rows L2

section
variable {B : Bs} {W : WX} {g : Gh} {H : Hp} {σ : L2.St} {ρ : Slots} {st : Store} {Q : VK}

theorem RepL.atI {R : RC} {F : Hp} {xs : List V} {ds : List D} {i : Int} {d : D} (l : RepL R F xs ds) (h : L2.atI ds i = some d) : ∃ v, L2.atI xs i = some v ∧ Rep R F v d := by
  unfold L2.atI at h ⊢
  rw [← l.length] at h
  cases e : ixN xs.length i with
  | none => rw [e] at h; cases h
  | some j =>
    rw [e] at h
    exact l.get h
theorem idx_pst (e : ER B g H σ ρ st) {x y : V} {dx dy d : D} (rx : RdV B.R g.F H x dx) (ry : RdV B.R g.F H y dy) (h : idxS dx dy = some d) (q : ∀ z, Rep B.R g.F z d → Q z H) : rIx B.R.K x y H Q := by
  have le := e.le
  cases dx <;> cases dy <;> first
    | cases h
    | skip
  · obtain rfl := rx.str; obtain rfl := ry.int
    rename_i s i
    have h' : (if s.length ≤ LIM then (L2.atI s.cps.toList i).map fun c => D.str (sgn c) else none) = some d := h
    by_cases hz : s.length ≤ LIM
    · rw [if_pos hz] at h'
      cases z : L2.atI s.cps.toList i with
      | none => rw [z] at h'; cases h'
      | some c =>
        rw [z] at h'
        cases h'
        exact .inr (.inr ⟨_, _, c, rfl, rfl, by rw [← lim_eq]; exact hz, z, q _ (.str _)⟩)
    · rw [if_neg hz] at h'; cases h'
  · obtain rfl := ry.int
    cases rx.tupRep with
    | tup s k =>
      obtain ⟨v, hv, rv⟩ := k.atI h
      exact .inr (.inl ⟨_, _, _, v, rfl, rfl, le.sqT s, hv, q _ rv⟩)
  · obtain rfl := ry.int
    obtain ⟨a, xs, rfl, s, k⟩ := rx.asL le
    obtain ⟨v, hv, rv⟩ := k.atI h
    exact .inl ⟨_, _, _, v, rfl, rfl, s, hv, q _ rv⟩

/-! ### slices -/
def rSlc (K : PySem.W.Frag) : V → Option Int → Option Int → Hp → VK → Prop := fun x lo hi H Q => rSlL K x lo hi H Q ∨ rSlA K x lo hi H Q ∨ rSlS x lo hi H Q
theorem sl_any {X : Cx} : L2.SlR X (rSlc X.K) := L2.SlR.or sl_list (L2.SlR.or sl_tupA sl_str)
theorem RepL.cut {R : RC} {F : Hp} {xs : List V} {ds : List D} {lo hi : Option Int} (l : RepL R F xs ds) : RepL R F (cutV xs lo hi) (cutD ds lo hi) := by
  unfold cutV cutD
  rw [l.length]
  exact (l.drop _).take _
theorem cutD_all {ds : List D} {lo hi : Option Int} (h : HT.sIx ds.length 0 lo = 0 ∧ HT.sIx ds.length ds.length hi = ds.length) : cutD ds lo hi = ds := by
  unfold cutD
  rw [h.1, h.2]
  simp
theorem slc_pst (e : ER B g H σ ρ st) {x : V} {dx : D} {lo hi : Option Int} (rx : RdV B.R g.F H x dx) (h : Pst B W g H σ ρ (opRes (slcS dx lo hi) st) (kV B Q)) : rSlc B.R.K x lo hi H Q := by
  have le := e.le
  cases dx with
  | lst ds =>
    obtain ⟨a, xs, rfl, s, k⟩ := rx.asL le
    exact .inl ⟨a, xs, rfl, s, fun p hp => Pst.newl (ds := cutD ds lo hi) h e k.cut hp⟩
  | tup ds =>
    cases rx.tupRep with
    | tup s k =>
      refine .inr (.inl ⟨_, _, rfl, le.sqT s, fun z => ?_, fun z p hp => Pst.newt (ds := cutD ds lo hi) h e k.cut hp⟩)
      rw [k.length] at z
      have h' : Pst B W g H σ ρ (.ok (.fz (.tup (cutD ds lo hi))) st) (kV B Q) := h
      rw [cutD_all z] at h'
      exact h'.same e (.tup s k)
  | str s =>
    obtain rfl := rx.str
    have h' : Pst B W g H σ ρ (opRes (if s.length ≤ LIM then .d (.str (cutS s lo hi)) else .no) st) (kV B Q) := h
    by_cases hz : s.length ≤ LIM
    · rw [if_pos hz] at h'
      exact .inr (.inr ⟨s, rfl, by rw [← lim_eq]; exact hz, h'.same e (.str _)⟩)
    · rw [if_neg hz] at h'; exact h'.elim
  | _ => exact h.elim

/-! ### built-in functions -/
inductive RdL (R : RC) (F H : Hp) : List V → List D → Prop
  | nil : RdL R F H [] []
  | cons {x : V} {xs : List V} {d : D} {ds : List D} : RdV R F H x d → RdL R F H xs ds → RdL R F H (x :: xs) (d :: ds)
theorem ER.rds (r : ER B g H σ ρ st) : ∀ {xs : List V} {vs : List Val} {ds : List D}, ValsR B.R B.ex g.F g.A xs vs → vs.mapM (dr st) = some ds → RdL B.R g.F H xs ds
  | _, [], ds, .nil, e => by
    have : some ([] : List D) = some ds := by simpa using e
    cases this
    exact .nil
  | _, v :: vs, ds, .cons h t, e => by
    rw [List.mapM_cons] at e
    cases q : dr st v with
    | none => rw [q] at e; cases e
    | some d =>
      rw [q] at e
      cases q2 : vs.mapM (dr st) with
      | none => rw [q2] at e; cases e
      | some ds2 =>
        rw [q2] at e
        have : some (d :: ds2) = some ds := e
        cases this
        exact .cons (r.rd h q) (ER.rds r t q2)
theorem callr_or {X : Cx} {f : Value} {r r' : List V → Hp → VK → Prop} (h : CallR X f r) (h' : CallR X f r') : CallR X f (fun xs H Q => r xs H Q ∨ r' xs H Q) := by
  intro pins s σ H xs us Q I rx q
  rcases q with q | q
  · exact h pins s σ H xs us Q I rx q
  · exact h' pins s σ H xs us Q I rx q
def Bfn.fv : Bfn → Value
  | .len => .builtin "len" | .abs => .builtin "abs" | .min2 => .builtin "min" | .max2 => .builtin "max" | .int => .type "int" | .tuple => .type "tuple" | .list => .type "list" | .gcd => .builtin "math.gcd" | .str => .type "str"
def bfnR (K : PySem.W.Frag) : Bfn → List V → Hp → VK → Prop
  | .len => fun xs H Q => (∃ p ys, xs = [.ref p] ∧ (SqL K H p ys ∨ SqT K H p ys) ∧ Q (.int ys.length) H) ∨ ∃ z, xs = [.str z] ∧ z.length ≤ sizeLine ∧ Q (.int z.length) H
  | .abs => fun xs H Q => ∃ i, xs = [.int i] ∧ Q (.int (if i < 0 then -i else i)) H
  | .min2 => fun xs H Q => ∃ i j, xs = [.int i, .int j] ∧ Q (.int (if j < i then j else i)) H
  | .max2 => fun xs H Q => ∃ i j, xs = [.int i, .int j] ∧ Q (.int (if j > i then j else i)) H
  | .int => fun xs H Q => ((∃ i, xs = [.int i] ∧ Q (.int i) H) ∨ (∃ k, xs = [.bl k] ∧ Q (.int (if k then 1 else 0)) H)) ∨ ∃ a n, xs = [.str a] ∧ PySem.intText? a = some n ∧ a.length ≤ 640 ∧ Q (.int n) H
  | .str => fun xs H Q => ∃ i, xs = [.int i] ∧ i.natAbs.log2 < 1920 ∧ Q (.str (Str.ofString (toString i))) H
  | .tuple => fun xs H Q => ∃ p ys, xs = [.ref p] ∧ ((SqL K H p ys ∧ ∀ l, H l = none → Q (.ref l) (upd H l (.tup ys))) ∨ (SqT K H p ys ∧ Q (.ref p) H))
  | .list => fun xs H Q => ∃ p ys, xs = [.ref p] ∧ (SqL K H p ys ∨ SqT K H p ys) ∧ ∀ l, H l = none → Q (.ref l) (upd H l (.lst ys))
  | .gcd => rGcd
def Bfn.calm : Bfn → Bool
  | .min2 => true | .max2 => true | _ => false
theorem bfn_ok {X : Cx} : ∀ f : Bfn, (f.calm = true → X.calm = true) → CallR X f.fv (bfnR X.K f)
  | .len, _ => callr_or call_len_seq call_len_str
  | .abs, _ => call_abs
  | .min2, h => call_min2 (h rfl)
  | .max2, h => call_max2 (h rfl)
  | .int, _ => callr_or call_int1 call_int_str
  | .str, _ => call_str_int
  | .tuple, _ => call_tuple_of
  | .list, _ => call_list_of
  | .gcd, _ => cr_gcd
theorem bfn_pst (e : ER B g H σ ρ st) (f : Bfn) {xs : List V} {ds : List D} (r : RdL B.R g.F H xs ds) (h : Pst B W g H σ ρ (opRes (bfnS f ds) st) (kV B Q)) : bfnR B.R.K f xs H Q := by
  have le := e.le
  cases f with
  | len =>
    cases r with
    | nil => exact h.elim
    | @cons x xs d ds rd t =>
      cases t with
      | cons _ _ => cases d <;> exact h.elim
      | nil =>
        cases d <;> first
          | exact h.elim
          | skip
        · obtain rfl := rd.str
          rename_i s
          have h' : Pst B W g H σ ρ (opRes (if s.length ≤ LIM then .d (.int s.length) else .no) st) (kV B Q) := h
          by_cases hz : s.length ≤ LIM
          · rw [if_pos hz] at h'
            exact .inr ⟨_, rfl, by rw [← lim_eq]; exact hz, h'.same e (.int _)⟩
          · rw [if_neg hz] at h'; exact h'.elim
        · cases rd.tupRep with
          | tup s k =>
            refine .inl ⟨_, _, rfl, .inr (le.sqT s), ?_⟩
            rw [k.length]
            exact Pst.same h e (.int _)
        · obtain ⟨a, ys, rfl, s, k⟩ := rd.asL le
          refine .inl ⟨_, _, rfl, .inl s, ?_⟩
          rw [k.length]
          exact Pst.same h e (.int _)
  | abs =>
    cases r with
    | nil => exact h.elim
    | @cons x xs d ds rd t =>
      cases t with
      | cons _ _ => cases d <;> exact h.elim
      | nil =>
        cases d <;> first
          | exact h.elim
          | skip
        obtain rfl := rd.int
        exact ⟨_, rfl, Pst.same h e (.int _)⟩
  | min2 =>
    cases r with
    | nil => exact h.elim
    | @cons x xs d ds rd t =>
      cases t with
      | nil => cases d <;> exact h.elim
      | @cons x2 xs2 d2 ds2 rd2 t2 =>
        cases t2 with
        | cons _ _ => cases d <;> cases d2 <;> exact h.elim
        | nil =>
          cases d <;> cases d2 <;> first
            | exact h.elim
            | skip
          obtain rfl := rd.int; obtain rfl := rd2.int
          exact ⟨_, _, rfl, Pst.same h e (.int _)⟩
  | max2 =>
    cases r with
    | nil => exact h.elim
    | @cons x xs d ds rd t =>
      cases t with
      | nil => cases d <;> exact h.elim
      | @cons x2 xs2 d2 ds2 rd2 t2 =>
        cases t2 with
        | cons _ _ => cases d <;> cases d2 <;> exact h.elim
        | nil =>
          cases d <;> cases d2 <;> first
            | exact h.elim
            | skip
          obtain rfl := rd.int; obtain rfl := rd2.int
          exact ⟨_, _, rfl, Pst.same h e (.int _)⟩
  | gcd =>
    cases r with
    | nil => exact h.elim
    | @cons x xs d ds rd t =>
      cases t with
      | nil => cases d <;> exact h.elim
      | @cons x2 xs2 d2 ds2 rd2 t2 =>
        cases t2 with
        | cons _ _ => cases d <;> cases d2 <;> exact h.elim
        | nil =>
          cases d <;> cases d2 <;> first
            | exact h.elim
            | skip
          obtain rfl := rd.int; obtain rfl := rd2.int
          exact ⟨_, _, rfl, Pst.same h e (.int _)⟩
  | int =>
    cases r with
    | nil => exact h.elim
    | @cons x xs d ds rd t =>
      cases t with
      | cons _ _ => cases d <;> exact h.elim
      | nil =>
        cases d <;> first
          | exact h.elim
          | skip
        · obtain rfl := rd.bl
          exact .inl (.inr ⟨_, rfl, Pst.same h e (.int _)⟩)
        · obtain rfl := rd.int
          exact .inl (.inl ⟨_, rfl, Pst.same h e (.int _)⟩)
        · obtain rfl := rd.str
          rename_i a
          have h' : Pst B W g H σ ρ (opRes (match PySem.intText? a with
            | some n => if a.length ≤ 640 then .d (.int n) else .no
            | none => .no) st) (kV B Q) := h
          cases q : PySem.intText? a with
          | none => rw [q] at h'; exact h'.elim
          | some n =>
            rw [q] at h'
            have h2 : Pst B W g H σ ρ (opRes (if a.length ≤ 640 then .d (.int n) else .no) st) (kV B Q) := h'
            by_cases hz : a.length ≤ 640
            · rw [if_pos hz] at h2
              exact .inr ⟨a, n, rfl, q, hz, h2.same e (.int _)⟩
            · rw [if_neg hz] at h2; exact h2.elim
  | str =>
    cases r with
    | nil => exact h.elim
    | @cons x xs d ds rd t =>
      cases t with
      | cons _ _ => cases d <;> exact h.elim
      | nil =>
        cases d <;> first
          | exact h.elim
          | skip
        obtain rfl := rd.int
        rename_i i
        have h' : Pst B W g H σ ρ (opRes (if i.natAbs.log2 < 1920 then .d (.str (Str.ofString (toString i))) else .no) st) (kV B Q) := h
        by_cases hz : i.natAbs.log2 < 1920
        · rw [if_pos hz] at h'
          exact ⟨_, rfl, hz, h'.same e (.str _)⟩
        · rw [if_neg hz] at h'; exact h'.elim
  | tuple =>
    cases r with
    | nil => exact h.elim
    | @cons x xs d ds rd t =>
      cases t with
      | cons _ _ => cases d <;> exact h.elim
      | nil =>
        cases d <;> first
          | exact h.elim
          | skip
        · cases rd.tupRep with
          | tup s k => exact ⟨_, _, rfl, .inr ⟨le.sqT s, Pst.same h e (.tup s k)⟩⟩
        · obtain ⟨a, ys, rfl, s, k⟩ := rd.asL le
          exact ⟨_, _, rfl, .inl ⟨s, fun p hp => Pst.newt h e k hp⟩⟩
  | list =>
    cases r with
    | nil => exact h.elim
    | @cons x xs d ds rd t =>
      cases t with
      | cons _ _ => cases d <;> exact h.elim
      | nil =>
        cases d <;> first
          | exact h.elim
          | skip
        · cases rd.tupRep with
          | tup s k => exact ⟨_, _, rfl, .inr (le.sqT s), fun p hp => Pst.newl h e k hp⟩
        · obtain ⟨a, ys, rfl, s, k⟩ := rd.asL le
          exact ⟨_, _, rfl, .inl s, fun p hp => Pst.newl h e k hp⟩

/-! ### kinds -/
theorem sqL_ty {K : PySem.W.Frag} {a : Addr} {xs : List V} (h : SqL K H a xs) : TyX K H (.ref a) (.type "list") := by
  rcases h with (h | ⟨o, h⟩) | ⟨o, its, n, h, c, _⟩
  · exact .base (.lst h)
  · exact .base (.frz h)
  · exact .kList h c
theorem sqT_ty {K : PySem.W.Frag} {a : Addr} {xs : List V} (h : SqT K H a xs) : TyX K H (.ref a) (.type "tuple") := by
  rcases h with (h | ⟨o, h⟩) | ⟨o, its, n, h, c, _⟩
  · exact .base (.tup h)
  · exact .fTuple h
  · exact .kTuple h c
theorem RdV.ty {R : RC} {F : Hp} {x : V} {d : D} {u : String} (le : Le F H) (r : RdV R F H x d) (h : tyS d = some u) : TyX R.K H x (.type u) := by
  cases r with
  | rep r =>
    cases r with
    | non => cases h; exact .base .non
    | bl b => cases h; exact .base (.bl b)
    | int i => cases h; exact .base (.int i)
    | str s => cases h; exact .base (.str s)
    | tup s k => cases h; exact sqT_ty (le.sqT s)
    | lst s k => cases h; exact sqL_ty (le.sqL s)
    | dct e _ _ _ =>
      cases h
      rcases le _ _ e with q | ⟨_, ob, q⟩
      · exact .base (.dK q)
      · exact .fDict q
    | obj _ _ _ _ _ => cases h
  | lst _ e _ => cases h; exact .base (.lst e)
  | dct _ e _ _ => cases h; exact .base (.dK e)

/-! ### truth -/
theorem tru_pst {R : RC} {F : Hp} {x : V} {d : D} {b : Bool} (le : Le F H) (r : RdV R F H x d) (h : truS d = some b) : TruV R.K x H b := by
  cases d with
  | non => obtain rfl := r.non; cases h; rfl
  | bl b => obtain rfl := r.bl; cases h; rfl
  | int i => obtain rfl := r.int; cases h; rfl
  | str s =>
    obtain rfl := r.str
    have h' : (if s.length ≤ LIM then some ((s.length : Int) != 0) else none) = some b := h
    by_cases hz : s.length ≤ LIM
    · rw [if_pos hz] at h'
      cases h'
      exact ⟨by rw [← lim_eq]; exact hz, rfl⟩
    · rw [if_neg hz] at h'; cases h'
  | tup ds =>
    cases r.tupRep with
    | tup s k =>
      cases h
      refine .inr (.inl ⟨_, le.sqT s, ?_⟩)
      cases k <;> rfl
  | lst ds =>
    obtain ⟨a, xs, rfl, s, k⟩ := r.asL le
    cases h
    refine .inl ⟨_, s, ?_⟩
    cases k <;> rfl
  | dct ks vs => cases h
  | obj c fs vs => cases h
end
end PD

/-! PD7 -/
set_option Elab.async false
set_option linter.all false
set_option maxRecDepth 100000
set_option maxHeartbeats 4000000
/-! PD: the data of a def against the model's text, and the context. -/
namespace PD
open PySem PySem.Spec PyProof.Rows L2

/-! ### what a def's data are held against -/
structure Tab where
  N : List Str
  con : List Str
  fns : List (Str × Nat)
  free : List Str
  gcd : Bool
  exn : List Str
  raf : List (Str × Str)
  lv : Nat
  cold : List Str
def seen (x : Str) : Bool := !(x == ("__debug__" : Str)) && (!(x == ("__classdict__" : Str)) && (!(x == ("__name__" : Str)) && !(x == ("super" : Str))))
def visB (sc : Scope) (x : Str) : Bool := match sc.names.lookup x with
  | some .local => true
  | some .cell => true
  | some .free => true
  | _ => false
def glB (sc : Scope) (x : Str) : Bool := match sc.names.lookup x with
  | some .globalImplicit => true
  | _ => false
def bopB : Bop → Operator → Bool
  | .add, .Add => true | .sub, .Sub => true | .mul, .Mult => true | .fdv, .FloorDiv => true | .mod, .Mod => true | .pow, .Pow => true
  | _, _ => false
def copB : Cop → CmpOp → Bool
  | .eq, .Eq => true | .ne, .NotEq => true | .lt, .Lt => true | .le, .LtE => true | .gt, .Gt => true | .ge, .GtE => true | .inn, .In => true | .nin, .NotIn => true | .is_, .Is => true | .isn, .IsNot => true
  | _, _ => false
theorem bopB_ok {o : Bop} {op : Operator} (h : bopB o op = true) : op = o.op := by cases o <;> cases op <;> first | rfl | cases h
theorem copB_ok {o : Cop} {op : CmpOp} (h : copB o op = true) : op = o.op := by cases o <;> cases op <;> first | rfl | cases h
def litB : D → Const → Bool
  | .int i, .int j => decide (i = j)
  | .bl b, .bool c => b == c
  | .non, .none => true
  | .str s, .str t => decide (s = t)
  | _, _ => false
/-- neither a star nor a slice -/
def plainE : Expr → Bool
  | .Starred _ _ => false
  | .Slice _ _ _ _ => false
  | .Set _ _ _ => false
  | _ => true
/-- whose test is its value's truth -/
def plainT : Expr → Bool
  | .Name _ _ => true
  | .Call _ _ _ _ => true
  | .Subscript _ _ _ => true
  | .Attribute _ _ _ => true
  | .Constant _ _ _ => true
  | .BinOp _ _ _ _ => true
  | _ => false
def notSuper : Expr → Bool
  | .Call (.Name x _) _ _ _ => !(x == ("super" : Str))
  | _ => true
def Bfn.nm : Bfn → Str
  | .len => "len" | .abs => "abs" | .min2 => "min" | .max2 => "max" | .int => "int" | .tuple => "tuple" | .list => "list" | .gcd => "gcd" | .str => "str"
def tyNames : List (Str × String) := [("int", "int"), ("bool", "bool"), ("str", "str"), ("tuple", "tuple"), ("list", "list"), ("dict", "dict"), ("ValueError", "ValueError"), ("Exception", "Exception")]
def tynB (T : Tab) (sc : Scope) : TyN → Expr → Bool
  | .ty n, .Name x _ => decide ((x, n) ∈ tyNames) && (T.free.contains x && glB sc x)
  | _, _ => false
def tynsB (T : Tab) (sc : Scope) : List TyN → List Expr → Bool
  | [], [] => true
  | t :: ts, e :: es => tynB T sc t e && (plainE e && tynsB T sc ts es)
  | _, _ => false
def locB (sc : Scope) (x : Str) : Bool := match sc.names.lookup x with
  | some .local => true
  | _ => false
def celB (sc : Scope) (x : Str) : Bool := match sc.names.lookup x with
  | some .cell => true
  | _ => false
def nmB (T : Tab) (sc : Scope) (i : Nat) : Expr → Bool
  | .Name x _ => decide (T.N[i]? = some x) && (locB sc x || celB sc x)
  | _ => false
def tgB (T : Tab) (sc : Scope) : Tg → Expr → Bool
  | .nm i, e => nmB T sc i e
  | .tp is, .Tuple es _ _ => decide (is.length = es.length) && (is.zip es).all fun p => nmB T sc p.1 p.2
  | _, _ => false
def ownB (T : Tab) (sc scope : Scope) (own : List Nat) : Bool := blkC T.N sc scope (own.map fun i => ((T.N.getD i Str.empty), i))
/-- the names of the comprehension's target are among its own -/
def tgIn (own : List Nat) : Tg → Bool
  | .nm i => own.contains i
  | .tp is => is.all own.contains

def clsB (T : Tab) (sc : Scope) : Str → Expr → Bool
  | c, .Name x _ => decide (c = x) && (T.exn.contains x && (glB sc x && seen x))
  | _, _ => false
def clssB (T : Tab) (sc : Scope) : List Str → List Expr → Bool
  | [], [] => true
  | c :: cs, e :: es => clsB T sc c e && clssB T sc cs es
  | _, _ => false
def fstP : Expr → Option (Expr × Pos × Pos)
  | .JoinedStr [.FormattedValue ea k none p] q => if k = -1 then some (ea, p, q) else none
  | _ => none
theorem fstP_ok {e ea : Expr} {p q : Pos} (h : fstP e = some (ea, p, q)) : e = .JoinedStr [.FormattedValue ea (-1) none p] q := by
  unfold fstP at h
  split at h
  · split at h
    · rename_i hk
      subst hk
      cases h; rfl
    · cases h
  · cases h
def fst3P : Expr → Option (Expr × Str × Expr × Pos × Nat × Pos × Pos × Pos)
  | .JoinedStr [.FormattedValue ea k none p, .Constant (.str s) j p2, .FormattedValue eb k2 none p3] q => if k = -1 ∧ k2 = -1 then some (ea, s, eb, p, j, p2, p3, q) else none
  | _ => none
theorem fst3P_ok {e ea eb : Expr} {s : Str} {j : Nat} {p p2 p3 q : Pos} (h : fst3P e = some (ea, s, eb, p, j, p2, p3, q)) : e = .JoinedStr [.FormattedValue ea (-1) none p, .Constant (.str s) j p2, .FormattedValue eb (-1) none p3] q := by
  unfold fst3P at h
  split at h
  · split at h
    · rename_i hk
      obtain ⟨h1, h2⟩ := hk
      subst h1 h2
      cases h; rfl
    · cases h
  · cases h
def joinP : Expr → Option (Expr × Pos × Expr × Pos)
  | .Call (.Attribute eo x ap) [eb] [] cp => if x = "join" then some (eo, ap, eb, cp) else none
  | _ => none
theorem joinP_ok {e eo eb : Expr} {ap cp : Pos} (h : joinP e = some (eo, ap, eb, cp)) : e = .Call (.Attribute eo "join" ap) [eb] [] cp := by
  unfold joinP at h
  split at h
  · split at h
    · rename_i hk
      subst hk
      cases h; rfl
    · cases h
  · cases h
def call0P : Expr → Option (Str × Pos × Pos)
  | .Call (.Name x p) [] [] q => some (x, p, q)
  | _ => none
theorem call0P_ok {e : Expr} {x : Str} {p q : Pos} (h : call0P e = some (x, p, q)) : e = .Call (.Name x p) [] [] q := by
  unfold call0P at h
  split at h
  · cases h; rfl
  · cases h
mutual
/-- m: a test -/
def chk (T : Tab) (sc : Scope) (calm : Bool) : Ex → Bool → Expr → Bool
  | .var i, m, .Name x _ => decide (T.N[i]? = some x) && (visB sc x && seen x)
  | .lit d, m, .Constant c _ _ => litB d c
  | .glo j, m, .Name x _ => decide (T.con[j]? = some x) && (glB sc x && seen x)
  | .bin o a b, m, .BinOp ea op eb _ => bopB o op && (chk T sc calm a false ea && chk T sc calm b false eb)
  | .cmp o a b, m, .Compare ea [op] [eb] _ => copB o op && (plainE eb && (chk T sc calm a false ea && chk T sc calm b false eb))
  | .chain o o' a b c, m, .Compare ea [op, op'] [eb, ec] _ => copB o op && (copB o' op' && (plainE eb && (plainE ec && (chk T sc calm a false ea && (chk T sc calm b false eb && chk T sc calm c false ec)))))
  | .neg a, m, .UnaryOp .USub ea _ => !m && chk T sc calm a false ea
  | .not_ a, m, .UnaryOp .Not ea _ => chk T sc calm a m ea
  | .and_ a b, m, .BoolOp .And (ea :: eb :: rest) pos => chk T sc calm a m ea && (match rest with
    | [] => chk T sc calm b m eb
    | _ :: _ => chk T sc calm b m (.BoolOp .And (eb :: rest) pos))
  | .or_ a b, m, .BoolOp .Or (ea :: eb :: rest) pos => chk T sc calm a m ea && (match rest with
    | [] => chk T sc calm b m eb
    | _ :: _ => chk T sc calm b m (.BoolOp .Or (eb :: rest) pos))
  | .ife c a b, m, .IfExp ec ea eb _ => !m && (chk T sc calm c true ec && (chk T sc calm a false ea && chk T sc calm b false eb))
  | .tru a, m, e => m && (plainT e && chk T sc calm a false e)
  | .tup es, m, .Tuple ees _ _ => !m && chks T sc calm es ees
  | .lst es, m, .List ees _ => !m && chks T sc calm es ees
  | .idx a i, m, .Subscript ea ei _ => plainE ei && (chk T sc calm a false ea && chk T sc calm i false ei)
  | .slc a lo hi, m, .Subscript ea (.Slice elo ehi none _) _ => !m && (chk T sc calm a false ea && ((match elo with
      | none => lo.isNone
      | some e => chk T sc calm lo false e) && (match ehi with
      | none => hi.isNone
      | some e => chk T sc calm hi false e)))
  | .call j es, m, .Call (.Name x _) ees [] _ => decide (T.fns[j]? = some (x, ees.length)) && (!ees.isEmpty && (glB sc x && (seen x && (calm && chks T sc calm es ees))))
  | .bfn f es, m, .Call (.Name x _) ees [] _ => decide (x = f.nm) && (!ees.isEmpty && (glB sc x && ((match f with
      | .gcd => T.gcd
      | _ => T.free.contains x) && ((!f.calm || calm) && chks T sc calm es ees))))
  | .mth .bitlen a es, m, .Call (.Attribute eo x ap) [] [] cp => !m && (decide (x = "bit_length") && (notSuper eo && ((ap.endLine == cp.line) && (chk T sc calm a false eo && chks T sc calm es []))))
  | .isi a ts tp, m, .Call (.Name x _) [ea, et] [] _ => decide (x = "isinstance") && (T.free.contains x && (glB sc x && (plainE ea && (plainE et && (chk T sc calm a false ea && (match tp, ts, et with
      | false, [t], et => tynB T sc t et
      | true, ts, .Tuple ets _ _ => decide (ts.length ≤ 8 ∧ ts ≠ []) && tynsB T sc ts ets
      | _, _, _ => false))))))
  | .isx i ts tp, m, .Call (.Name x _) [.Name y _, et] [] _ => !calm && (decide (x = "isinstance") && (T.free.contains x && (glB sc x && (decide (T.N[i]? = some y) && (visB sc y && (seen y && (plainE et && (match tp, ts, et with
      | false, [t], et => clsB T sc t et
      | true, ts, .Tuple ets _ _ => decide (ts.length ≤ 8 ∧ ts ≠ []) && clssB T sc ts ets
      | _, _, _ => false))))))))
  | .isv i n, m, .Call (.Name x _) [.Name y _, et] [] _ => !calm && (decide (x = "isinstance") && (T.free.contains x && (glB sc x && (decide (T.N[i]? = some y) && (visB sc y && (seen y && (plainE et && tynB T sc (.ty n) et)))))))
  | .xfld i f, m, .Attribute (.Name y yp) n p => !m && (!calm && (decide (n = f) && (decide (T.N[i]? = some y) && (visB sc y && (seen y && !(y == ("super" : Str)))))))
  | .call0 j, m, e => (match call0P e with
    | some (x, _, _) => decide (T.fns[j]? = some (x, 0)) && (glB sc x && (seen x && calm))
    | none => false)
  | .fst a, m, e => (match fstP e with
    | some (ea, _, _) => !m && chk T sc calm a false ea
    | none => false)
  | .fst3 a s b, m, e => (match fst3P e with
    | some (ea, s', eb, _, _, _, _, _) => !m && (decide (s = s') && (chk T sc calm a false ea && chk T sc calm b false eb))
    | none => false)
  | .join a b, m, e => (match joinP e with
    | some (eo, ap, eb, cp) => !m && (notSuper eo && ((ap.endLine == cp.line) && (plainE eb && (chk T sc calm a false eo && chk T sc calm b false eb))))
    | none => false)
  | .lc own tg it c elt, m, .ListComp eelt [⟨etg, eit, ifs, as_⟩] scope _ => !m && (calm && (decide (as_ = 0) && (ownB T sc scope own && (tgB T scope tg etg && (tgIn own tg && (chkI T sc calm it eit && ((match ifs with
      | [] => (match c with
        | .lit (.bl true) => true
        | _ => false)
      | [ec] => chk T scope calm c true ec
      | _ => false) && chk T scope calm elt false eelt)))))))
  | _, _, _ => false
def chks (T : Tab) (sc : Scope) (calm : Bool) : Exs → List Expr → Bool
  | .nil, [] => true
  | .cons a as, e :: es => plainE e && (chk T sc calm a false e && chks T sc calm as es)
  | _, _ => false
def chkI (T : Tab) (sc : Scope) (calm : Bool) : It → Expr → Bool
  | .rng1 a, .Call (.Name x _) [ea] [] _ => decide (x = "range") && (T.free.contains x && (glB sc x && (plainE ea && chk T sc calm a false ea)))
  | .rng2 a b, .Call (.Name x _) [ea, eb] [] _ => decide (x = "range") && (T.free.contains x && (glB sc x && (plainE ea && (plainE eb && (chk T sc calm a false ea && chk T sc calm b false eb)))))
  | .seq a, e => plainE e && chk T sc calm a false e
  | _, _ => false
end
end PD

/-! PD8 -/
set_option Elab.async false
set_option linter.all false
set_option maxRecDepth 100000
set_option maxHeartbeats 4000000
/-! PD: a def's promise, the context, calls. -/
namespace PD
open PySem PySem.Spec PyProof.Rows L2

inductive ArgsR (R : RC) (F H : Hp) : List V → List Arg → List Addr → Prop
  | nil : ArgsR R F H [] [] []
  | fz {x : V} {xs : List V} {d : D} {as : List Arg} {l : List Addr} : Rep R F x d → ArgsR R F H xs as l → ArgsR R F H (x :: xs) (.fz d :: as) l
  | mu {a : Addr} {xs : List V} {c : Cont} {as : List Arg} {l : List Addr} : c.live = true → ContR R F H a c → ArgsR R F H xs as l → ArgsR R F H (.ref a :: xs) (.mu c :: as) (a :: l)
theorem ArgsR.ofL {R : RC} {F H : Hp} : ∀ {ys : List V} {ds : List D}, RepL R F ys ds → ArgsR R F H ys (ds.map .fz) []
  | _, _, .nil => .nil
  | _, _, .cons r t => .fz r (ArgsR.ofL t)
theorem ArgsR.app {R : RC} {F H : Hp} {ys : List V} {ds : List D} (k : RepL R F ys ds) : ∀ {xs : List V} {as : List Arg} {l : List Addr}, ArgsR R F H xs as l → ArgsR R F H (xs ++ ys) (as ++ ds.map .fz) l
  | _, _, _, .nil => ArgsR.ofL k
  | _, _, _, .fz r t => .fz r (ArgsR.app k t)
  | _, _, _, .mu h c t => .mu h c (ArgsR.app k t)
theorem ArgsR.length {R : RC} {F H : Hp} : ∀ {xs : List V} {as : List Arg} {l : List Addr}, ArgsR R F H xs as l → xs.length = as.length
  | _, _, _, .nil => rfl
  | _, _, _, .fz _ t => congrArg Nat.succ (ArgsR.length t)
  | _, _, _, .mu _ _ t => congrArg Nat.succ (ArgsR.length t)
inductive ContsR (R : RC) (F H : Hp) : List Addr → List Cont → Prop
  | nil : ContsR R F H [] []
  | cons {a : Addr} {l : List Addr} {c : Cont} {cs : List Cont} : c.live = true → ContR R F H a c → ContsR R F H l cs → ContsR R F H (a :: l) (c :: cs)
structure PostR (R : RC) (F H F' H' : Hp) (l : List Addr) (cs : List Cont) : Prop where
  same : Same F F'
  le : Le F' H'
  fresh : ∀ b, F' b ≠ none → F b ≠ none ∨ H b = none
  keep : ∀ b o, H b = some o → b ∉ l → H' b = some o
  conts : ContsR R F' H' l cs
/-- what a def promises: it does what f says -/
def spOf (R : RC) (n : Nat) (f : List Arg → FRes) : Sp := fun vs H Q E => ∃ (F : Hp) (args : List Arg) (l : List Addr), args.length = n ∧ Le F H ∧ ArgsR R F H vs args l ∧ l.Nodup ∧ (match f args with
  | .ok d cs => ∀ x F' H', PostR R F H F' H' l cs → Rep R F' x d → Q x H'
  | .okl ds cs => ∀ a xs F' H', PostR R F H F' H' l cs → F' a = none → H a = none → H' a = some (.lst xs) → RepL R F' xs ds → Q (.ref a) H'
  | .exc e cs => ∀ cls dd F' H', PostR R F H F' H' l cs → XR R F' e cls dd → E cls dd H'
  | .stuck => False)
def FnHas (R : RC) (X : Cx) (k : Nat) (x : Str) (n : Nat) (fi : FnI) : Prop :=
  ∃ (f : Addr) (fd : FuncData) (ps : List Str) (ds : List Value) (dvs : List V), X.mg x = some (.ref f) ∧ PySem.W.keepIn X.K (.ref f) = true ∧ Binds X.K fd ps ds ∧ Vals dvs ds ∧
    FnOk X.prog X.w X.K X.mg X.base (L2.CX X.prog X.w) k f fd ps (spOf R ps.length fi.f) ∧ n + dvs.length = ps.length ∧ ∀ F, RepL R F dvs fi.dfl

/-- a scope as the text has it, and as it is where one stands (a comprehension's free names may be cells) -/
structure ScR (sc sc' : Scope) : Prop where
  cl : ∀ x, sc.names.lookup x = some .cell → sc'.names.lookup x = some .cell
  loc : ∀ x, sc.names.lookup x = some .local → sc'.names.lookup x = some .local
  cf : ∀ x, sc.names.lookup x = some .cell ∨ sc.names.lookup x = some .free → sc'.names.lookup x = some .cell ∨ sc'.names.lookup x = some .free
  gl : ∀ x, sc.names.lookup x = some .globalImplicit → sc'.names.lookup x = some .globalImplicit
theorem ScR.refl (sc : Scope) : ScR sc sc := ⟨fun _ h => h, fun _ h => h, fun _ h => h, fun _ h => h⟩
structure Cxt (T : Tab) (sc : Scope) (calm : Bool) (G : Gam) (B : Bs) (X : Cx) (W : WX) : Prop where
  K : X.K = B.R.K
  mg : X.mg = B.R.mg
  N : X.N = T.N
  fn : ∀ x, sc.names.lookup x = some .cell → X.fn x = true
  sc : ScR sc X.env.scope
  nd : T.N.Nodup
  exI : calm = false → ∀ a cls dd, B.ex = some (a, cls, dd) → ∃ oe, Zc cls dd oe ∧ (∃ vs, oe.data = .fields vs) ∧ (a, oe) ∈ X.pn
  calm : calm = true → X.calm = true ∧ Room T.lv X.A
  units : X.A.units + 64 < cLine
  tk : Takes X W
  io : G.io = B.io.length
  con : ∀ (j : Nat) (d : D) (x : Str), G.con[j]? = some d → T.con[j]? = some x → ∃ v u, X.mg x = some u ∧ RelV v u ∧ ∀ F, Rep B.R F v d
  fns : ∀ (j : Nat) (fi : FnI) (x : Str) (n : Nat), G.fns[j]? = some fi → T.fns[j]? = some (x, n) → FnHas B.R X T.lv x n fi
  free : ∀ x ∈ T.free, X.mg x = none
  exn : ∀ x ∈ T.exn, ∃ C, X.mg x = some (.ref C)
  exm : ∀ c t b, G.exm c t = some b → ∃ D C, X.mg c = some (.ref D) ∧ X.mg t = some (.ref C) ∧ PySem.W.kitOne X.K (.ref D) (.ref C) = some b ∧ PySem.W.exmOne X.K (.ref D) (.ref C) = some b ∧ ExcC X.K D
  xf : ∀ c f, G.xfl c f = true → ∃ D, X.mg c = some (.ref D) ∧ XfC X.K D ∧ PySem.W.findIn X.K (.ref D) f = some none
  gcd : T.gcd = true → X.mg "gcd" = some (.builtin "math.gcd")
  exv : ∀ c n b, G.exv c n = some b → ∃ D, X.mg c = some (.ref D) ∧ PySem.W.kitOne X.K (.ref D) (.type n) = some b ∧ ExcC X.K D

theorem Cxt.vis {T : Tab} {sc : Scope} {calm : Bool} {G : Gam} {B : Bs} {X : Cx} {W : WX} (C : Cxt T sc calm G B X W) {x : Str} (h : visB sc x = true) : Vis X.env.scope x := by
  unfold visB at h
  split at h
  · exact .inl (C.sc.loc x (by assumption))
  · exact .inr (C.sc.cf x (.inl (by assumption)))
  · exact .inr (C.sc.cf x (.inr (by assumption)))
  · cases h
theorem Cxt.glob {T : Tab} {sc : Scope} {calm : Bool} {G : Gam} {B : Bs} {X : Cx} {W : WX} (C : Cxt T sc calm G B X W) {x : Str} (h : glB sc x = true) : Gl X x := by
  unfold glB at h
  split at h
  · exact C.sc.gl x (by assumption)
  · cases h
theorem celB_ok {sc : Scope} {x : Str} (h : celB sc x = true) : sc.names.lookup x = some .cell := by
  unfold celB at h
  split at h
  · assumption
  · cases h
theorem locB_ok {sc sc' : Scope} (r : ScR sc sc') {x : Str} (h : locB sc x = true) : sc'.names.lookup x = some .local := by
  unfold locB at h
  split at h
  · exact r.loc x (by assumption)
  · cases h
section
variable {B : Bs} {W : WX} {g : Gh} {H : Hp} {σ : L2.St} {ρ : Slots} {st : Store} {Q : VK}
theorem Res.bind_ok {α β : Type} {r : Res α} {k : α → Store → Res β} {b : β} {st' : Store} (h : r.bind k = .ok b st') : ∃ a st1, r = .ok a st1 ∧ k a st1 = .ok b st' := by
  cases r with
  | ok a st1 => exact ⟨a, st1, rfl, h⟩
  | exc x st1 => cases h
  | stuck => cases h
theorem Res.bind_exc {α β : Type} {r : Res α} {k : α → Store → Res β} {x : XD} {st' : Store} (h : r.bind k = .exc x st') : r = .exc x st' ∨ ∃ a st1, r = .ok a st1 ∧ k a st1 = .exc x st' := by
  cases r with
  | ok a st1 => exact .inr ⟨a, st1, rfl, h⟩
  | exc x st1 => cases h; exact .inl rfl
  | stuck => cases h
theorem pick_ok {α β : Type} {o : Option α} {k : α → Res β} {b : β} {st' : Store} (h : pick o k = .ok b st') : ∃ a, o = some a ∧ k a = .ok b st' := by
  cases o with
  | none => cases h
  | some a => exact ⟨a, rfl, h⟩

/-- several values are handed on -/
theorem ER.frs : ∀ {vs : List Val} {xs : List V} {g : Gh} {st : Store} {ds : List D} {st' : Store}, ER B g H σ ρ st → ValsR B.R B.ex g.F g.A xs vs → frs B.io.length vs st = .ok ds st' →
    ∃ F', ER B ⟨F', g.A⟩ H σ ρ st' ∧ Step g H ⟨F', g.A⟩ H ∧ RepL B.R F' xs ds
  | [], _, g, st, ds, st', r, .nil, e => by
    cases e
    exact ⟨g.F, r, Step.refl _ _, .nil⟩
  | v :: vs, _, g, st, ds, st', r, .cons h t, e => by
    obtain ⟨d, st1, e1, e2⟩ := Res.bind_ok (show (PD.fr B.io.length v st).bind _ = _ from e)
    obtain ⟨F1, r1, s1, h1⟩ := r.fr h e1
    obtain ⟨ds2, st2, e3, e4⟩ := Res.bind_ok e2
    have t1 : ∀ {xs : List V} {vs : List Val}, ValsR B.R B.ex g.F g.A xs vs → ValsR B.R B.ex F1 g.A xs vs := fun t => by
      induction t with
      | nil => exact .nil
      | cons a _ ih => exact .cons (a.up (g := g) (g' := ⟨F1, g.A⟩) s1.le) ih
    obtain ⟨F2, r2, s2, h2⟩ := ER.frs r1 (t1 t) e3
    cases e4
    exact ⟨F2, r2, s1.trans s2, .cons (h1.mono s2.le.F) h2⟩
theorem frs_no_exc {io : Nat} : ∀ {vs : List Val} {st st' : Store} {x : XD}, PD.frs io vs st ≠ .exc x st'
  | [], st, st', x, h => by cases h
  | v :: vs, st, st', x, h => by
    rcases Res.bind_exc (show (PD.fr io v st).bind _ = _ from h) with q | ⟨d, st1, _, q⟩
    · exact fr_no_exc q
    · rcases Res.bind_exc q with q | ⟨ds, st2, _, q⟩
      · exact frs_no_exc q
      · cases q
theorem ValsR.up {R : RC} {E : ExH} {g g' : Gh} {xs : List V} {vs : List Val} (l : g.le g') (t : ValsR R E g.F g.A xs vs) : ValsR R E g'.F g'.A xs vs := by
  induction t with
  | nil => exact .nil
  | cons a _ ih => exact .cons (a.up l) ih

/-! ### a call -/
/-- how the prepared arguments stand -/
inductive PrepR (R : RC) (g : Gh) : List V → List (Sum D Nat) → List Addr → Prop
  | nil : PrepR R g [] [] []
  | fz {x : V} {xs : List V} {d : D} {as : List (Sum D Nat)} {l : List Addr} : Rep R g.F x d → PrepR R g xs as l → PrepR R g (x :: xs) (.inl d :: as) l
  | mu {a : Addr} {n : Nat} {xs : List V} {as : List (Sum D Nat)} {l : List Addr} : g.A[n]? = some a → PrepR R g xs as l → PrepR R g (.ref a :: xs) (.inr n :: as) (a :: l)
theorem ER.frA : ∀ {vs : List Val} {ms : List Bool} {xs : List V} {g : Gh} {st : Store} {as : List (Sum D Nat)} {st' : Store}, ER B g H σ ρ st → ValsR B.R B.ex g.F g.A xs vs → frA B.io.length ms vs st = .ok as st' →
    ∃ F' l, ER B ⟨F', g.A⟩ H σ ρ st' ∧ Step g H ⟨F', g.A⟩ H ∧ PrepR B.R ⟨F', g.A⟩ xs as l
  | [], ms, _, g, st, as, st', r, .nil, e => by
    have e' : Res.ok [] st = Res.ok as st' := by
      cases ms with
      | nil => exact e
      | cons m ms => cases m <;> exact e
    cases e'
    exact ⟨g.F, [], r, Step.refl _ _, .nil⟩
  | v :: vs, ms, _, g, st, as, st', r, .cons (x := x) (xs := xs) h t, e => by
    have pure : ∀ ms', ((PD.fr B.io.length v st).bind fun d st => (PD.frA B.io.length ms' vs st).bind fun as st => .ok (.inl d :: as) st) = .ok as st' →
        ∃ F' l, ER B ⟨F', g.A⟩ H σ ρ st' ∧ Step g H ⟨F', g.A⟩ H ∧ PrepR B.R ⟨F', g.A⟩ (x :: xs) as l := fun ms' e => by
      obtain ⟨d, st1, e1, e2⟩ := Res.bind_ok e
      obtain ⟨F1, r1, s1, h1⟩ := r.fr h e1
      obtain ⟨as2, st2, e3, e4⟩ := Res.bind_ok e2
      obtain ⟨F2, l, r2, s2, h2⟩ := ER.frA r1 (t.up (g := g) (g' := ⟨F1, g.A⟩) s1.le) e3
      cases e4
      exact ⟨F2, l, r2, s1.trans s2, .fz (h1.mono s2.le.F) h2⟩
    cases ms with
    | nil => exact pure [] e
    | cons m ms =>
      cases m with
      | false => exact pure ms e
      | true =>
        cases v with
        | fz d => cases e
        | exn y => cases e
        | loc n =>
          obtain ⟨as2, st2, e3, e4⟩ := Res.bind_ok (show (PD.frA B.io.length ms vs st).bind _ = _ from e)
          obtain ⟨F2, l, r2, s2, h2⟩ := ER.frA r t e3
          cases e4
          obtain ⟨a, ha, rfl⟩ := h
          exact ⟨F2, a :: l, r2, s2, .mu ha h2⟩
theorem frA_no_exc {io : Nat} : ∀ {vs : List Val} {ms : List Bool} {st st' : Store} {x : XD}, PD.frA io ms vs st ≠ .exc x st'
  | [], ms, st, st', x, h => by
    cases ms with
    | nil => cases h
    | cons m ms => cases m <;> cases h
  | v :: vs, ms, st, st', x, h => by
    have pure : ∀ ms', ((PD.fr io v st).bind fun d st => (PD.frA io ms' vs st).bind fun as st => .ok (Sum.inl d :: as) st) ≠ .exc x st' := fun ms' h => by
      rcases Res.bind_exc h with q | ⟨d, st1, _, q⟩
      · exact fr_no_exc q
      · rcases Res.bind_exc q with q | ⟨ds, st2, _, q⟩
        · exact frA_no_exc q
        · cases q
    cases ms with
    | nil => exact pure _ h
    | cons m ms =>
      cases m with
      | false => exact pure _ h
      | true =>
        cases v with
        | fz d => cases h
        | exn y => cases h
        | loc n =>
          rcases Res.bind_exc (show (PD.frA io ms vs st).bind _ = _ from h) with q | ⟨ds, st2, _, q⟩
          · exact frA_no_exc q
          · cases q
theorem PrepR.args (r : ER B g H σ ρ st) : ∀ {xs : List V} {as : List (Sum D Nat)} {l : List Addr} {args : List Arg}, PrepR B.R g xs as l → mkA st as = some args → ArgsR B.R g.F H xs args l ∧ ∀ (n : Nat), n ∈ locsA as → ∃ c, st[n]? = some c ∧ c.live = true
  | _, _, _, args, .nil, e => by cases e; exact ⟨.nil, fun n h => by cases h⟩
  | _, _, _, args, .fz (d := d) (as := as) h t, e => by
    have e' : (match mkA st as with | some r => some (Arg.fz d :: r) | none => none) = some args := e
    cases q : mkA st as with
    | none => rw [q] at e'; cases e'
    | some r' =>
      rw [q] at e'; cases e'
      obtain ⟨h1, h2⟩ := PrepR.args r t q
      exact ⟨.fz h h1, h2⟩
  | _, _, _, args, .mu (a := a) (n := n) (as := as) h t, e => by
    obtain ⟨c, hc⟩ := r.stAt h
    have e' : (match st[n]? with | some c => if c.live then (match mkA st as with | some r => some (Arg.mu c :: r) | none => none) else none | none => none) = some args := e
    rw [hc] at e'
    cases hl : c.live with
    | false => simp only [hl] at e'; cases e'
    | true =>
      simp only [hl, if_true] at e'
      cases q : mkA st as with
      | none => rw [q] at e'; cases e'
      | some r' =>
        rw [q] at e'; cases e'
        obtain ⟨h1, h2⟩ := PrepR.args r t q
        refine ⟨.mu hl (r.conts n a c h hc) h1, fun m hm => ?_⟩
        rcases List.mem_cons.mp hm with rfl | hm
        · exact ⟨c, hc, hl⟩
        · exact h2 m hm
theorem PrepR.locs : ∀ {xs : List V} {as : List (Sum D Nat)} {l : List Addr}, PrepR B.R g xs as l → l.length = (locsA as).length ∧ ∀ (i n : Nat), (locsA as)[i]? = some n → l[i]? = g.A[n]? ∧ ∃ a, g.A[n]? = some a
  | _, _, _, .nil => ⟨rfl, fun i n h => by cases i <;> cases h⟩
  | _, _, _, .fz _ t => by
    obtain ⟨h1, h2⟩ := PrepR.locs t
    exact ⟨h1, h2⟩
  | _, _, _, .mu (a := a) (n := n) h t => by
    obtain ⟨h1, h2⟩ := PrepR.locs t
    refine ⟨congrArg Nat.succ h1, fun i m hm => ?_⟩
    cases i with
    | zero =>
      have : n = m := by simpa [locsA] using hm
      subst this
      exact ⟨by simp [h], a, h⟩
    | succ i => exact h2 i m (by simpa [locsA] using hm)
theorem noDup_ok : ∀ {l : List Nat}, noDup l = true → l.Nodup
  | [], _ => List.nodup_nil
  | n :: ns, h => by
    obtain ⟨h1, h2⟩ := Bool.and_eq_true_iff.mp (show (!ns.contains n && noDup ns) = true from h)
    refine List.nodup_cons.mpr ⟨fun hm => ?_, noDup_ok h2⟩
    have : ns.contains n = true := List.contains_iff_mem.mpr hm
    rw [this] at h1; cases h1
theorem PrepR.nodup (r : ER B g H σ ρ st) {xs : List V} {as : List (Sum D Nat)} {l : List Addr} (p : PrepR B.R g xs as l) (h : (locsA as).Nodup) : l.Nodup := by
  obtain ⟨h1, h2⟩ := p.locs
  refine List.pairwise_iff_getElem.mpr fun i j hi hj hij e => ?_
  have hi' : i < (locsA as).length := by omega
  have hj' : j < (locsA as).length := by omega
  obtain ⟨e1, a, ea⟩ := h2 i (locsA as)[i] (List.getElem?_eq_getElem hi')
  obtain ⟨e2, b, eb⟩ := h2 j (locsA as)[j] (List.getElem?_eq_getElem hj')
  rw [List.getElem?_eq_getElem hi, ea] at e1
  rw [List.getElem?_eq_getElem hj, eb] at e2
  have q0 : a = b := by
    have q1 := Option.some.inj e1
    have q2 := Option.some.inj e2
    rw [← q1, ← q2, e]
  subst q0
  exact List.pairwise_iff_getElem.mp h i j hi' hj' hij (getA r.nodup ea eb)
/-- the store behind the call -/
theorem putBack_at : ∀ {ns : List Nat} {cs : List Cont} {st st' : Store}, putBack ns cs st = some st' → ns.Nodup → st'.length = st.length ∧ ns.length = cs.length ∧ (∀ (i : Nat), i ∉ ns → st'[i]? = st[i]?) ∧
    ∀ (k n : Nat), ns[k]? = some n → n < st.length → st'[n]? = cs[k]?
  | [], [], st, st', h, _ => by cases h; exact ⟨rfl, rfl, fun _ _ => rfl, fun k n e => by cases k <;> cases e⟩
  | [], _ :: _, st, st', h, _ => by cases h
  | _ :: _, [], st, st', h, _ => by cases h
  | n :: ns, c :: cs, st, st', h, nd => by
    have h' : (if c.live then putBack ns cs (st.set n c) else none) = some st' := h
    cases hl : c.live with
    | false => simp only [hl] at h'; cases h'
    | true =>
      simp only [hl, if_true] at h'
      obtain ⟨n1, n2⟩ := List.nodup_cons.mp nd
      obtain ⟨q1, q2, q3, q4⟩ := putBack_at h' n2
      refine ⟨by rw [q1, List.length_set], congrArg Nat.succ q2, fun i hi => ?_, fun k m e hm => ?_⟩
      · rw [q3 i fun z => hi (List.mem_cons_of_mem _ z), List.getElem?_set_ne (fun z => hi (by rw [z]; exact List.mem_cons_self))]
      · cases k with
        | zero =>
          have : n = m := by simpa using e
          subst this
          rw [q3 n n1, List.getElem?_set_self (by omega)]
          rfl
        | succ k => exact q4 k m (by simpa using e) (by rw [List.length_set]; exact hm)
theorem ContsR.get {R : RC} {F' H' : Hp} : ∀ {l : List Addr} {cs : List Cont} {k : Nat} {a : Addr} {c : Cont}, ContsR R F' H' l cs → l[k]? = some a → cs[k]? = some c → c.live = true ∧ ContR R F' H' a c
  | _, _, k, _, _, .nil, e, _ => by cases k <;> cases e
  | _, _, 0, _, _, .cons h c _, e, e2 => by simp at e e2; subst e; subst e2; exact ⟨h, c⟩
  | _, _, k + 1, a, c, .cons _ _ t, e, e2 => ContsR.get (k := k) t (by simpa using e) (by simpa using e2)
theorem ER.called (r : ER B g H σ ρ st) {xs : List V} {as : List (Sum D Nat)} {l : List Addr} {cs : List Cont} {F' H' : Hp} {st' : Store} (p : PrepR B.R g xs as l) (nd : (locsA as).Nodup)
    (hlive : ∀ (n : Nat), n ∈ locsA as → ∃ c, st[n]? = some c ∧ c.live = true) (po : PostR B.R g.F H F' H' l cs) (hb : putBack (locsA as) cs st = some st') :
    ER B ⟨F', g.A⟩ H' σ ρ st' ∧ Step g H ⟨F', g.A⟩ H' := by
  obtain ⟨q1, q2, q3, q4⟩ := putBack_at hb nd
  obtain ⟨h1, h2⟩ := p.locs
  have memL : ∀ b, b ∈ l → ∃ n, n ∈ locsA as ∧ g.A[n]? = some b := fun b hb => by
    obtain ⟨i, hi⟩ := List.getElem?_of_mem hb
    have hi' : i < (locsA as).length := by rw [← h1]; exact (List.getElem?_eq_some_iff.mp hi).1
    obtain ⟨e, _⟩ := h2 i (locsA as)[i] (List.getElem?_eq_getElem hi')
    exact ⟨_, List.getElem_mem hi', by rw [← e]; exact hi⟩
  have lMem : ∀ n, n ∈ locsA as → ∃ k a, (locsA as)[k]? = some n ∧ l[k]? = some a ∧ g.A[n]? = some a := fun n hn => by
    obtain ⟨k, hk⟩ := List.getElem?_of_mem hn
    obtain ⟨e, a, ea⟩ := h2 k n hk
    exact ⟨k, a, hk, by rw [e]; exact ea, ea⟩
  refine ⟨r.next ⟨po.same, List.prefix_refl _⟩ po.le (fun b hb => ?_) (fun b o e => ?_) (by rw [q1]; exact r.len) r.nodup (fun i c hi e => ?_) (fun i a hi e => ?_) (fun i a e => ?_) fun i a c e1 e2 => ?_, ⟨⟨po.same, List.prefix_refl _⟩, fun b o e hb => ?_, fun b hb => ?_, fun b hb => .inl hb⟩⟩
  · rcases po.fresh b hb with z | z
    · exact .inl z
    · exact .inr (r.fresh0 z).2.2.1
  · by_cases hl : b ∈ l
    · obtain ⟨n, hn, hA⟩ := memL b hl
      obtain ⟨c, hc, hcl⟩ := hlive n hn
      exact .inl ⟨n, c, hA, hc, hcl⟩
    · exact .inr (po.keep b o e hl)
  · by_cases hm : i ∈ locsA as
    · obtain ⟨k, a, hk, hl, hA⟩ := lMem i hm
      have hi2 : i < st.length := by
        have := (List.getElem?_eq_some_iff.mp hA).1
        rw [r.len] at this; exact this
      rw [q4 k i hk hi2] at e
      exact (po.conts.get hl e).1
    · rw [q3 i hm] at e
      exact r.iolive i c hi e
  · have := (List.getElem?_eq_some_iff.mp e).1
    exact absurd this (by simp only; omega)
  · by_cases hm : i ∈ locsA as
    · obtain ⟨k, a', hk, hl, hA⟩ := lMem i hm
      have e' : g.A[i]? = some a := e
      rw [hA] at e'; cases e'
      have hi2 : i < st.length := by
        have := (List.getElem?_eq_some_iff.mp hA).1
        rw [r.len] at this; exact this
      obtain ⟨c, hc⟩ : ∃ c, cs[k]? = some c := by
        have : k < cs.length := by rw [← q2]; exact (List.getElem?_eq_some_iff.mp hk).1
        exact ⟨_, List.getElem?_eq_getElem this⟩
      obtain ⟨z1, z2⟩ := po.conts.get hl hc
      exact z2.there z1
    · have e' : g.A[i]? = some a := e
      cases q : H a with
      | none => exact absurd q (r.there i a e')
      | some o =>
        have hl : a ∉ l := fun hl => by
          obtain ⟨n, hn, hA⟩ := memL a hl
          exact hm (by rw [getA r.nodup e' hA]; exact hn)
        rw [po.keep a o q hl]; intro z; cases z
  · by_cases hm : i ∈ locsA as
    · obtain ⟨k, a', hk, hl, hA⟩ := lMem i hm
      have e' : g.A[i]? = some a := e1
      rw [hA] at e'; cases e'
      have hi2 : i < st.length := by
        have := (List.getElem?_eq_some_iff.mp hA).1
        rw [r.len] at this; exact this
      rw [q4 k i hk hi2] at e2
      exact (po.conts.get hl e2).2
    · rw [q3 i hm] at e2
      have e' : g.A[i]? = some a := e1
      have hl : a ∉ l := fun hl => by
        obtain ⟨n, hn, hA⟩ := memL a hl
        exact hm (by rw [getA r.nodup e' hA]; exact hn)
      refine (r.conts i a c e' e2).F po.same (fun hc => ?_) (fun _ => ?_)
      · show F' a = none
        cases z : F' a with
        | none => rfl
        | some o =>
          rcases po.fresh a (by rw [z]; intro w; cases w) with w | w
          · exact absurd ((r.conts i a c e' e2).out hc) w
          · exact absurd w (r.there i a e')
      · cases q : H a with
        | none => exact absurd q (r.there i a e')
        | some o => exact po.keep a o q hl
  · have hl : b ∉ l := fun hl => by
      obtain ⟨n, _, hA⟩ := memL b hl
      exact hb (List.mem_of_getElem? hA)
    exact po.keep b o e hl
  · rcases po.fresh b hb with z | z
    · exact .inl z
    · exact .inr (.inl z)
/-- a list that was made beside becomes the store's -/
theorem ER.adopt (r : ER B g H σ ρ st) {p : Addr} {xs : List V} {ds : List D} (h : H p = some (.lst xs)) (k : RepL B.R g.F xs ds) (hA : p ∉ g.A) (hF : g.F p = none) (h0 : B.H0 p = none) : ER B ⟨g.F, g.A ++ [p]⟩ H σ ρ (st ++ [.lst ds]) := by
  have lastA : ∀ (i : Nat) (a : Addr), (g.A ++ [p])[i]? = some a → g.A[i]? = some a ∨ (i = g.A.length ∧ a = p) := fun i a e => by
    by_cases hi : i < g.A.length
    · rw [List.getElem?_append_left hi] at e; exact .inl e
    · rw [List.getElem?_append_right (by omega)] at e
      have hi2 : i - g.A.length = 0 := by
        have := (List.getElem?_eq_some_iff.mp e).1
        simp at this; omega
      rw [hi2] at e
      simp at e
      exact .inr ⟨by omega, e.symm⟩
  refine r.next ⟨Same.refl _, List.prefix_append _ _⟩ r.le (fun b hb => .inl hb) (fun b u e => .inr e) ?_ ?_ (fun i c' hi e => ?_) (fun i a hi e => ?_) (fun i a e => ?_) fun i a c' e1 e2 => ?_
  · simp [r.len]
  · refine List.nodup_append.mpr ⟨r.nodup, by simp, fun x hx y hy => ?_⟩
    have : y = p := by simpa using hy
    subst this
    intro z; subst z; exact hA hx
  · by_cases h' : i < st.length
    · rw [List.getElem?_append_left h'] at e
      exact r.iolive i c' hi e
    · rw [List.getElem?_append_right (by omega)] at e
      have := (List.getElem?_eq_some_iff.mp e).1
      simp at this
      have hz : i - st.length = 0 := by omega
      rw [hz] at e
      simp at e
      rw [← e]; rfl
  · rcases lastA i a e with q | ⟨_, q⟩
    · have := (List.getElem?_eq_some_iff.mp q).1
      exact absurd this (by omega)
    · rw [q]; exact h0
  · rcases lastA i a e with q | ⟨_, q⟩
    · exact r.there i a q
    · rw [q, h]; intro z; cases z
  · rcases lastA i a e1 with q | ⟨qi, q⟩
    · have hi : i < st.length := by
        have := (List.getElem?_eq_some_iff.mp q).1
        rw [r.len] at this; exact this
      rw [List.getElem?_append_left hi] at e2
      exact r.conts i a c' q e2
    · have hi : i = st.length := by rw [qi, r.len]
      subst hi
      rw [List.getElem?_append_right (Nat.le_refl _)] at e2
      simp at e2
      rw [← e2, q]
      exact ⟨hF, xs, h, k⟩
/-- THE CALL: what is wanted behind it gives the promise -/
theorem call_pst (r : ER B g H σ ρ st) {fi : FnI} {xs dvs : List V} {vs : List Val} {n : Nat} (h : ValsR B.R B.ex g.F g.A xs vs) (hd : ∀ F, RepL B.R F dvs fi.dfl) (hn : xs.length + dvs.length = n)
    (p : Pst B W g H σ ρ (callS B.io.length fi vs st) (kV B Q)) : spOf B.R n fi.f (xs ++ dvs) H Q (WE W σ) := by
  have p' : Pst B W g H σ ρ ((frA B.io.length fi.muts vs st).bind fun as st => if noDup (locsA as) then
    pick (mkA st as) fun args => match fi.f (args ++ fi.dfl.map .fz) with
      | .ok d cs => pick (putBack (locsA as) cs st) fun st => .ok (.fz d) st
      | .okl ds cs => pick (putBack (locsA as) cs st) fun st => .ok (.loc st.length) (st ++ [.lst ds])
      | .exc x cs => pick (putBack (locsA as) cs st) fun st => .exc x st
      | .stuck => .stuck
    else .stuck) (kV B Q) := p
  cases e1 : PD.frA B.io.length fi.muts vs st with
  | stuck => rw [e1] at p'; exact p'.elim
  | exc x st1 => exact (frA_no_exc e1).elim
  | ok as st1 =>
    rw [e1] at p'
    obtain ⟨F1, l, r1, s1, pr⟩ := r.frA h e1
    cases e2 : noDup (locsA as) with
    | false => simp only [Res.bind, e2] at p'; exact p'.elim
    | true =>
      simp only [Res.bind, e2, if_true] at p'
      obtain ⟨args, e3, p2⟩ := Pst.pick p'
      obtain ⟨hA, hL⟩ := pr.args r1 e3
      have hnd := noDup_ok e2
      have hA2 := hA.app (hd F1)
      refine ⟨F1, args ++ fi.dfl.map .fz, l, ?_, r1.le, hA2, pr.nodup r1 hnd, ?_⟩
      · rw [← hA2.length, List.length_append]; exact hn
      · cases e4 : fi.f (args ++ fi.dfl.map .fz) with
        | stuck => simp only [e4] at p2; exact p2
        | ok d cs =>
          simp only [e4] at p2 ⊢
          intro x F' H' po rep
          obtain ⟨st2, e5, p3⟩ := Pst.pick p2
          obtain ⟨r2, s2⟩ := r1.called pr hnd hL po e5
          exact p3 _ _ r2 (s1.trans s2) x rep
        | okl ds cs =>
          simp only [e4] at p2 ⊢
          intro a ys F' H' po fa ha ha' rep
          obtain ⟨st2, e5, p3⟩ := Pst.pick p2
          obtain ⟨r2, s2⟩ := r1.called pr hnd hL po e5
          obtain ⟨f1, f2, f3, f4⟩ := r1.fresh0 ha
          refine p3 ⟨F', g.A ++ [a]⟩ H' (r2.adopt ha' rep f2 fa f3) ⟨⟨(s1.trans s2).le.F, (s1.trans s2).le.A.trans (List.prefix_append _ _)⟩, (s1.trans s2).frame, (s1.trans s2).freshF, fun b hb => ?_⟩ (.ref a) ⟨a, ?_, rfl⟩
          · rcases List.mem_append.mp hb with q | q
            · exact (s1.trans s2).freshA b q
            · have : b = a := by simpa using q
              exact .inr (by rw [this]; exact ha)
          · have h := r2.len
            rw [← h]; simp
        | exc e cs =>
          simp only [e4] at p2 ⊢
          intro cls dd F' H' po xr
          obtain ⟨st2, e5, p3⟩ := Pst.pick p2
          obtain ⟨r2, s2⟩ := r1.called pr hnd hL po e5
          exact p3 _ _ cls dd r2 (s1.trans s2) xr
end
end PD

/-! PD9 -/
set_option Elab.async false
set_option linter.all false
set_option maxRecDepth 100000
set_option maxHeartbeats 4000000
/-! PD: what the check tells of the text. -/
namespace PD
open PySem PySem.Spec PyProof.Rows L2
section
variable {T : Tab} {sc : Scope} {calm m : Bool} {e : Expr}
theorem b2 {a b : Bool} (h : (a && b) = true) : a = true ∧ b = true := Bool.and_eq_true_iff.mp h
theorem chk_var {i : Nat} (h : chk T sc calm (.var i) m e = true) : ∃ x pos, e = .Name x pos ∧ T.N[i]? = some x ∧ visB sc x = true ∧ PD.seen x = true := by
  cases e with
  | Name x pos =>
    obtain ⟨h1, h2⟩ := b2 h
    obtain ⟨h2, h3⟩ := b2 h2
    exact ⟨x, pos, rfl, of_decide_eq_true h1, h2, h3⟩
  | _ => exact Bool.noConfusion (show false = true from h)
theorem chk_lit {d : D} (h : chk T sc calm (.lit d) m e = true) : ∃ c k pos, e = .Constant c k pos ∧ litB d c = true := by
  cases e with
  | Constant c k pos => exact ⟨c, k, pos, rfl, h⟩
  | _ => exact Bool.noConfusion (show false = true from h)
theorem chk_glo {j : Nat} (h : chk T sc calm (.glo j) m e = true) : ∃ x pos, e = .Name x pos ∧ T.con[j]? = some x ∧ glB sc x = true ∧ PD.seen x = true := by
  cases e with
  | Name x pos =>
    obtain ⟨h1, h2⟩ := b2 h
    obtain ⟨h2, h3⟩ := b2 h2
    exact ⟨x, pos, rfl, of_decide_eq_true h1, h2, h3⟩
  | _ => exact Bool.noConfusion (show false = true from h)
theorem chk_bin {o : Bop} {a b : Ex} (h : chk T sc calm (.bin o a b) m e = true) : ∃ ea eb pos, e = .BinOp ea o.op eb pos ∧ chk T sc calm a false ea = true ∧ chk T sc calm b false eb = true := by
  cases e with
  | BinOp ea op eb pos =>
    obtain ⟨h1, h2⟩ := b2 h
    obtain ⟨h2, h3⟩ := b2 h2
    rw [bopB_ok h1]
    exact ⟨ea, eb, pos, rfl, h2, h3⟩
  | _ => exact Bool.noConfusion (show false = true from h)
theorem chk_cmp {o : Cop} {a b : Ex} (h : chk T sc calm (.cmp o a b) m e = true) : ∃ ea eb pos, e = .Compare ea [o.op] [eb] pos ∧ plainE eb = true ∧ chk T sc calm a false ea = true ∧ chk T sc calm b false eb = true := by
  cases e with
  | Compare ea ops es pos =>
    cases ops with
    | nil => exact Bool.noConfusion (show false = true from h)
    | cons op ops =>
      cases ops with
      | cons _ _ => exact Bool.noConfusion (show false = true from h)
      | nil =>
        cases es with
        | nil => exact Bool.noConfusion (show false = true from h)
        | cons eb es =>
          cases es with
          | cons _ _ => exact Bool.noConfusion (show false = true from h)
          | nil =>
            obtain ⟨h1, h2⟩ := b2 h
            obtain ⟨h2, h3⟩ := b2 h2
            obtain ⟨h3, h4⟩ := b2 h3
            rw [copB_ok h1]
            exact ⟨ea, eb, pos, rfl, h2, h3, h4⟩
  | _ => exact Bool.noConfusion (show false = true from h)
theorem chk_chain {o o' : Cop} {a b c : Ex} (h : chk T sc calm (.chain o o' a b c) m e = true) : ∃ ea eb ec pos, e = .Compare ea [o.op, o'.op] [eb, ec] pos ∧ plainE eb = true ∧ plainE ec = true ∧ chk T sc calm a false ea = true ∧ chk T sc calm b false eb = true ∧ chk T sc calm c false ec = true := by
  cases e with
  | Compare ea ops es pos =>
    cases ops with
    | nil => exact Bool.noConfusion (show false = true from h)
    | cons op ops =>
      cases ops with
      | nil => exact Bool.noConfusion (show false = true from h)
      | cons op' ops =>
        cases ops with
        | cons _ _ => exact Bool.noConfusion (show false = true from h)
        | nil =>
          cases es with
          | nil => exact Bool.noConfusion (show false = true from h)
          | cons eb es =>
            cases es with
            | nil => exact Bool.noConfusion (show false = true from h)
            | cons ec es =>
              cases es with
              | cons _ _ => exact Bool.noConfusion (show false = true from h)
              | nil =>
                obtain ⟨h1, h2⟩ := b2 h
                obtain ⟨h2, h3⟩ := b2 h2
                obtain ⟨h3, h4⟩ := b2 h3
                obtain ⟨h4, h5⟩ := b2 h4
                obtain ⟨h5, h6⟩ := b2 h5
                obtain ⟨h6, h7⟩ := b2 h6
                rw [copB_ok h1, copB_ok h2]
                exact ⟨ea, eb, ec, pos, rfl, h3, h4, h5, h6, h7⟩
  | _ => exact Bool.noConfusion (show false = true from h)
theorem chk_neg {a : Ex} (h : chk T sc calm (.neg a) m e = true) : ∃ ea pos, e = .UnaryOp .USub ea pos ∧ m = false ∧ chk T sc calm a false ea = true := by
  cases e with
  | UnaryOp op ea pos =>
    cases op with
    | USub =>
      obtain ⟨h1, h2⟩ := b2 h
      exact ⟨ea, pos, rfl, by simpa using h1, h2⟩
    | _ => exact Bool.noConfusion (show false = true from h)
  | _ => exact Bool.noConfusion (show false = true from h)
theorem chk_not {a : Ex} (h : chk T sc calm (.not_ a) m e = true) : ∃ ea pos, e = .UnaryOp .Not ea pos ∧ chk T sc calm a m ea = true := by
  cases e with
  | UnaryOp op ea pos =>
    cases op with
    | Not => exact ⟨ea, pos, rfl, h⟩
    | _ => exact Bool.noConfusion (show false = true from h)
  | _ => exact Bool.noConfusion (show false = true from h)
theorem chk_and {a b : Ex} (h : chk T sc calm (.and_ a b) m e = true) : ∃ ea eb rest pos, e = .BoolOp .And (ea :: eb :: rest) pos ∧ chk T sc calm a m ea = true ∧
    ((rest = [] ∧ chk T sc calm b m eb = true) ∨ (rest ≠ [] ∧ chk T sc calm b m (.BoolOp .And (eb :: rest) pos) = true)) := by
  cases e with
  | BoolOp op es pos =>
    cases op with
    | Or => cases es with
      | nil => exact Bool.noConfusion (show false = true from h)
      | cons ea es => cases es <;> exact Bool.noConfusion (show false = true from h)
    | And =>
      cases es with
      | nil => exact Bool.noConfusion (show false = true from h)
      | cons ea es =>
        cases es with
        | nil => exact Bool.noConfusion (show false = true from h)
        | cons eb rest =>
          cases rest with
          | nil =>
            obtain ⟨h1, h2⟩ := b2 (show (chk T sc calm a m ea && chk T sc calm b m eb) = true from h)
            exact ⟨ea, eb, [], pos, rfl, h1, .inl ⟨rfl, h2⟩⟩
          | cons ec rest =>
            obtain ⟨h1, h2⟩ := b2 (show (chk T sc calm a m ea && chk T sc calm b m (.BoolOp .And (eb :: ec :: rest) pos)) = true from h)
            exact ⟨ea, eb, ec :: rest, pos, rfl, h1, .inr ⟨List.cons_ne_nil _ _, h2⟩⟩
  | _ => exact Bool.noConfusion (show false = true from h)
theorem chk_or {a b : Ex} (h : chk T sc calm (.or_ a b) m e = true) : ∃ ea eb rest pos, e = .BoolOp .Or (ea :: eb :: rest) pos ∧ chk T sc calm a m ea = true ∧
    ((rest = [] ∧ chk T sc calm b m eb = true) ∨ (rest ≠ [] ∧ chk T sc calm b m (.BoolOp .Or (eb :: rest) pos) = true)) := by
  cases e with
  | BoolOp op es pos =>
    cases op with
    | And => cases es with
      | nil => exact Bool.noConfusion (show false = true from h)
      | cons ea es => cases es <;> exact Bool.noConfusion (show false = true from h)
    | Or =>
      cases es with
      | nil => exact Bool.noConfusion (show false = true from h)
      | cons ea es =>
        cases es with
        | nil => exact Bool.noConfusion (show false = true from h)
        | cons eb rest =>
          cases rest with
          | nil =>
            obtain ⟨h1, h2⟩ := b2 (show (chk T sc calm a m ea && chk T sc calm b m eb) = true from h)
            exact ⟨ea, eb, [], pos, rfl, h1, .inl ⟨rfl, h2⟩⟩
          | cons ec rest =>
            obtain ⟨h1, h2⟩ := b2 (show (chk T sc calm a m ea && chk T sc calm b m (.BoolOp .Or (eb :: ec :: rest) pos)) = true from h)
            exact ⟨ea, eb, ec :: rest, pos, rfl, h1, .inr ⟨List.cons_ne_nil _ _, h2⟩⟩
  | _ => exact Bool.noConfusion (show false = true from h)
theorem chk_ife {c a b : Ex} (h : chk T sc calm (.ife c a b) m e = true) : ∃ ec ea eb pos, e = .IfExp ec ea eb pos ∧ m = false ∧ chk T sc calm c true ec = true ∧ chk T sc calm a false ea = true ∧ chk T sc calm b false eb = true := by
  cases e with
  | IfExp ec ea eb pos =>
    obtain ⟨h1, h2⟩ := b2 h
    obtain ⟨h2, h3⟩ := b2 h2
    obtain ⟨h3, h4⟩ := b2 h3
    exact ⟨ec, ea, eb, pos, rfl, by simpa using h1, h2, h3, h4⟩
  | _ => exact Bool.noConfusion (show false = true from h)
theorem chk_tru {a : Ex} (h : chk T sc calm (.tru a) m e = true) : m = true ∧ plainT e = true ∧ chk T sc calm a false e = true := by
  have h' : (m && (plainT e && chk T sc calm a false e)) = true := by cases e <;> exact h
  obtain ⟨h1, h2⟩ := b2 h'
  obtain ⟨h2, h3⟩ := b2 h2
  exact ⟨h1, h2, h3⟩
theorem chk_tup {es : Exs} (h : chk T sc calm (.tup es) m e = true) : ∃ ees k pos, e = .Tuple ees k pos ∧ m = false ∧ chks T sc calm es ees = true := by
  cases e with
  | Tuple ees k pos =>
    obtain ⟨h1, h2⟩ := b2 h
    exact ⟨ees, k, pos, rfl, by simpa using h1, h2⟩
  | _ => exact Bool.noConfusion (show false = true from h)
theorem chk_lst {es : Exs} (h : chk T sc calm (.lst es) m e = true) : ∃ ees pos, e = .List ees pos ∧ m = false ∧ chks T sc calm es ees = true := by
  cases e with
  | List ees pos =>
    obtain ⟨h1, h2⟩ := b2 h
    exact ⟨ees, pos, rfl, by simpa using h1, h2⟩
  | _ => exact Bool.noConfusion (show false = true from h)
theorem chk_idx {a i : Ex} (h : chk T sc calm (.idx a i) m e = true) : ∃ ea ei pos, e = .Subscript ea ei pos ∧ plainE ei = true ∧ chk T sc calm a false ea = true ∧ chk T sc calm i false ei = true := by
  cases e with
  | Subscript ea ei pos =>
    obtain ⟨h1, h2⟩ := b2 h
    obtain ⟨h2, h3⟩ := b2 h2
    exact ⟨ea, ei, pos, rfl, h1, h2, h3⟩
  | _ => exact Bool.noConfusion (show false = true from h)
theorem chk_slc {a lo hi : Ex} (h : chk T sc calm (.slc a lo hi) m e = true) : ∃ ea elo ehi p pos, e = .Subscript ea (.Slice elo ehi none p) pos ∧ m = false ∧ chk T sc calm a false ea = true ∧
    ((elo = none ∧ lo = .none_) ∨ ∃ x, elo = some x ∧ chk T sc calm lo false x = true) ∧ ((ehi = none ∧ hi = .none_) ∨ ∃ x, ehi = some x ∧ chk T sc calm hi false x = true) := by
  cases e with
  | Subscript ea ei pos =>
    cases ei with
    | Slice elo ehi st p =>
      cases st with
      | some _ => exact Bool.noConfusion (show false = true from h)
      | none =>
        obtain ⟨h1, h2⟩ := b2 h
        obtain ⟨h2, h3⟩ := b2 h2
        obtain ⟨h3, h4⟩ := b2 h3
        have non : ∀ {x : Ex}, x.isNone = true → x = .none_ := fun {x} q => by cases x <;> first | rfl | exact Bool.noConfusion (show false = true from q)
        refine ⟨ea, elo, ehi, p, pos, rfl, by simpa using h1, h2, ?_, ?_⟩
        · cases elo with
          | none => exact .inl ⟨rfl, non h3⟩
          | some x => exact .inr ⟨x, rfl, h3⟩
        · cases ehi with
          | none => exact .inl ⟨rfl, non h4⟩
          | some x => exact .inr ⟨x, rfl, h4⟩
    | _ => exact Bool.noConfusion (show false = true from h)
  | _ => exact Bool.noConfusion (show false = true from h)
theorem chk_call {j : Nat} {es : Exs} (h : chk T sc calm (.call j es) m e = true) : ∃ x p ea ees pos, e = .Call (.Name x p) (ea :: ees) [] pos ∧ T.fns[j]? = some (x, ees.length + 1) ∧ glB sc x = true ∧ PD.seen x = true ∧ calm = true ∧ chks T sc calm es (ea :: ees) = true := by
  cases e with
  | Call f ees kws pos =>
    cases f with
    | Name x p =>
      cases kws with
      | cons _ _ => exact Bool.noConfusion (show false = true from h)
      | nil =>
        cases ees with
        | nil => exact Bool.noConfusion (show false = true from (b2 (b2 h).2).1)
        | cons ea ees =>
          obtain ⟨k1, q1⟩ := b2 h
          obtain ⟨k2, q2⟩ := b2 q1
          obtain ⟨k3, q3⟩ := b2 q2
          obtain ⟨k4, q4⟩ := b2 q3
          obtain ⟨k5, k6⟩ := b2 q4
          exact ⟨x, p, ea, ees, pos, rfl, of_decide_eq_true k1, k3, k4, k5, k6⟩
    | _ => exact Bool.noConfusion (show false = true from h)
  | _ => exact Bool.noConfusion (show false = true from h)
def Bfn.has (T : Tab) : Bfn → Bool
  | .gcd => T.gcd
  | f => T.free.contains f.nm
theorem chk_bfn {f : Bfn} {es : Exs} (h : chk T sc calm (.bfn f es) m e = true) : ∃ p ea ees pos, e = .Call (.Name f.nm p) (ea :: ees) [] pos ∧ glB sc f.nm = true ∧ f.has T = true ∧ (f.calm = true → calm = true) ∧ chks T sc calm es (ea :: ees) = true := by
  cases e with
  | Call g ees kws pos =>
    cases g with
    | Name x p =>
      cases kws with
      | cons _ _ => exact Bool.noConfusion (show false = true from h)
      | nil =>
        cases ees with
        | nil => exact Bool.noConfusion (show false = true from (b2 (b2 h).2).1)
        | cons ea ees =>
          obtain ⟨k1, q1⟩ := b2 h
          obtain ⟨k2, q2⟩ := b2 q1
          obtain ⟨k3, q3⟩ := b2 q2
          obtain ⟨k4, q4⟩ := b2 q3
          obtain ⟨k5, k6⟩ := b2 q4
          have hx : x = f.nm := of_decide_eq_true k1
          subst hx
          refine ⟨p, ea, ees, pos, rfl, k3, ?_, fun z => ?_, k6⟩
          · cases f <;> exact k4
          · rw [z] at k5
            simpa using k5
    | _ => exact Bool.noConfusion (show false = true from h)
  | _ => exact Bool.noConfusion (show false = true from h)
theorem chk_mth {a : Ex} {es : Exs} (h : chk T sc calm (.mth .bitlen a es) m e = true) : ∃ eo ap cp, e = .Call (.Attribute eo "bit_length" ap) [] [] cp ∧ m = false ∧ notSuper eo = true ∧ (ap.endLine == cp.line) = true ∧ chk T sc calm a false eo = true ∧ es = .nil := by
  cases e with
  | Call g ees kws cp =>
    cases g with
    | Attribute eo x ap =>
      cases ees with
      | cons _ _ => exact Bool.noConfusion (show false = true from h)
      | nil =>
        cases kws with
        | cons _ _ => exact Bool.noConfusion (show false = true from h)
        | nil =>
          obtain ⟨h1, h2⟩ := b2 h
          obtain ⟨h2, h3⟩ := b2 h2
          obtain ⟨h3, h4⟩ := b2 h3
          obtain ⟨h4, h5⟩ := b2 h4
          obtain ⟨h5, h6⟩ := b2 h5
          have hx : x = "bit_length" := of_decide_eq_true h2
          subst hx
          refine ⟨eo, ap, cp, rfl, by simpa using h1, h3, h4, h5, ?_⟩
          cases es with
          | nil => rfl
          | cons _ _ => exact Bool.noConfusion (show false = true from h6)
    | _ => cases ees <;> cases kws <;> exact Bool.noConfusion (show false = true from h)
  | _ => exact Bool.noConfusion (show false = true from h)
theorem chk_isi {a : Ex} {ts : List TyN} {tp : Bool} (h : chk T sc calm (.isi a ts tp) m e = true) : ∃ p ea et pos, e = .Call (.Name "isinstance" p) [ea, et] [] pos ∧ T.free.contains "isinstance" = true ∧ glB sc "isinstance" = true ∧ plainE ea = true ∧ plainE et = true ∧ chk T sc calm a false ea = true ∧
    ((∃ t, ts = [t] ∧ tynB T sc t et = true) ∨ ∃ ets k p2, et = .Tuple ets k p2 ∧ ts.length ≤ 8 ∧ ts ≠ [] ∧ tynsB T sc ts ets = true) := by
  cases e with
  | Call g ees kws pos =>
    cases g with
    | Name x p =>
      cases ees with
      | nil => exact Bool.noConfusion (show false = true from h)
      | cons ea ees =>
        cases ees with
        | nil => exact Bool.noConfusion (show false = true from h)
        | cons et ees =>
          cases ees with
          | cons _ _ => exact Bool.noConfusion (show false = true from h)
          | nil =>
            cases kws with
            | cons _ _ => exact Bool.noConfusion (show false = true from h)
            | nil =>
              obtain ⟨h1, h2⟩ := b2 h
              obtain ⟨h2, h3⟩ := b2 h2
              obtain ⟨h3, h4⟩ := b2 h3
              obtain ⟨h4, h5⟩ := b2 h4
              obtain ⟨h5, h6⟩ := b2 h5
              obtain ⟨h6, h7⟩ := b2 h6
              have hx : x = "isinstance" := of_decide_eq_true h1
              subst hx
              refine ⟨p, ea, et, pos, rfl, h2, h3, h4, h5, h6, ?_⟩
              cases tp with
              | false =>
                cases ts with
                | nil => exact Bool.noConfusion (show false = true from h7)
                | cons t ts =>
                  cases ts with
                  | cons _ _ => exact Bool.noConfusion (show false = true from h7)
                  | nil => exact .inl ⟨t, rfl, h7⟩
              | true =>
                cases et with
                | Tuple ets k p2 => exact .inr ⟨ets, k, p2, rfl, (of_decide_eq_true (b2 h7).1).1, (of_decide_eq_true (b2 h7).1).2, (b2 h7).2⟩
                | _ => exact Bool.noConfusion (show false = true from h7)
    | _ => exact Bool.noConfusion (show false = true from h)
  | _ => exact Bool.noConfusion (show false = true from h)
theorem chk_isv {i : Nat} {n : String} (h : chk T sc calm (.isv i n) m e = true) : ∃ p y py et pos, e = .Call (.Name "isinstance" p) [.Name y py, et] [] pos ∧ calm = false ∧ T.free.contains "isinstance" = true ∧ glB sc "isinstance" = true ∧ T.N[i]? = some y ∧ visB sc y = true ∧ PD.seen y = true ∧ plainE et = true ∧ tynB T sc (.ty n) et = true := by
  cases e with
  | Call g ees kws pos =>
    cases g with
    | Name x p =>
      cases ees with
      | nil => exact Bool.noConfusion (show false = true from h)
      | cons ea ees =>
        cases ea with
        | Name y py =>
          cases ees with
          | nil => exact Bool.noConfusion (show false = true from h)
          | cons et ees =>
            cases ees with
            | cons _ _ => exact Bool.noConfusion (show false = true from h)
            | nil =>
              cases kws with
              | cons _ _ => exact Bool.noConfusion (show false = true from h)
              | nil =>
                obtain ⟨h0, h⟩ := b2 h
                obtain ⟨h1, h2⟩ := b2 h
                obtain ⟨h2, h3⟩ := b2 h2
                obtain ⟨h3, h4⟩ := b2 h3
                obtain ⟨h4, h5⟩ := b2 h4
                obtain ⟨h5, h6⟩ := b2 h5
                obtain ⟨h6, h7⟩ := b2 h6
                obtain ⟨h7, h8⟩ := b2 h7
                have hx : x = "isinstance" := of_decide_eq_true h1
                subst hx
                exact ⟨p, y, py, et, pos, rfl, by simpa using h0, h2, h3, of_decide_eq_true h4, h5, h6, h7, h8⟩
        | _ => exact Bool.noConfusion (show false = true from h)
    | _ => exact Bool.noConfusion (show false = true from h)
  | _ => exact Bool.noConfusion (show false = true from h)
theorem chk_isx {i : Nat} {ts : List Str} {tp : Bool} (h : chk T sc calm (.isx i ts tp) m e = true) : ∃ p y py et pos, e = .Call (.Name "isinstance" p) [.Name y py, et] [] pos ∧ calm = false ∧ T.free.contains "isinstance" = true ∧ glB sc "isinstance" = true ∧ T.N[i]? = some y ∧ visB sc y = true ∧ PD.seen y = true ∧ plainE et = true ∧
    ((∃ t, ts = [t] ∧ clsB T sc t et = true) ∨ ∃ ets k p2, et = .Tuple ets k p2 ∧ ts.length ≤ 8 ∧ ts ≠ [] ∧ clssB T sc ts ets = true) := by
  cases e with
  | Call g ees kws pos =>
    cases g with
    | Name x p =>
      cases ees with
      | nil => exact Bool.noConfusion (show false = true from h)
      | cons ea ees =>
        cases ea with
        | Name y py =>
          cases ees with
          | nil => exact Bool.noConfusion (show false = true from h)
          | cons et ees =>
            cases ees with
            | cons _ _ => exact Bool.noConfusion (show false = true from h)
            | nil =>
              cases kws with
              | cons _ _ => exact Bool.noConfusion (show false = true from h)
              | nil =>
                obtain ⟨h0, h⟩ := b2 h
                obtain ⟨h1, h2⟩ := b2 h
                obtain ⟨h2, h3⟩ := b2 h2
                obtain ⟨h3, h4⟩ := b2 h3
                obtain ⟨h4, h5⟩ := b2 h4
                obtain ⟨h5, h6⟩ := b2 h5
                obtain ⟨h6, h7⟩ := b2 h6
                obtain ⟨h7, h8⟩ := b2 h7
                have hx : x = "isinstance" := of_decide_eq_true h1
                subst hx
                refine ⟨p, y, py, et, pos, rfl, by simpa using h0, h2, h3, of_decide_eq_true h4, h5, h6, h7, ?_⟩
                cases tp with
                | false =>
                  cases ts with
                  | nil => exact Bool.noConfusion (show false = true from h8)
                  | cons t ts =>
                    cases ts with
                    | cons _ _ => exact Bool.noConfusion (show false = true from h8)
                    | nil => exact .inl ⟨t, rfl, h8⟩
                | true =>
                  cases et with
                  | Tuple ets k p2 => exact .inr ⟨ets, k, p2, rfl, (of_decide_eq_true (b2 h8).1).1, (of_decide_eq_true (b2 h8).1).2, (b2 h8).2⟩
                  | _ => exact Bool.noConfusion (show false = true from h8)
        | _ =>
          first
            | exact Bool.noConfusion (show false = true from h)
            | (cases ees with
              | nil => exact Bool.noConfusion (show false = true from h)
              | cons _ ees => cases ees <;> cases kws <;> exact Bool.noConfusion (show false = true from h))
    | _ => exact Bool.noConfusion (show false = true from h)
  | _ => exact Bool.noConfusion (show false = true from h)
theorem chk_xfld {i : Nat} {f : Str} (h : chk T sc calm (.xfld i f) m e = true) : ∃ y yp p, e = .Attribute (.Name y yp) f p ∧ m = false ∧ calm = false ∧ T.N[i]? = some y ∧ visB sc y = true ∧ PD.seen y = true ∧ (y == ("super" : Str)) = false := by
  cases e with
  | Attribute o n p =>
    cases o with
    | Name y yp =>
      obtain ⟨h1, q2⟩ := b2 h
      obtain ⟨h2, q3⟩ := b2 q2
      obtain ⟨h3, q4⟩ := b2 q3
      obtain ⟨h4, q5⟩ := b2 q4
      obtain ⟨h5, q6⟩ := b2 q5
      obtain ⟨h6, h7⟩ := b2 q6
      clear q2 q3 q4 q5 q6 h
      have hn : n = f := of_decide_eq_true h3
      subst hn
      exact ⟨y, yp, p, rfl, by simpa using h1, by simpa using h2, of_decide_eq_true h4, h5, h6, by simpa using h7⟩
    | _ => exact Bool.noConfusion (show false = true from h)
  | _ => exact Bool.noConfusion (show false = true from h)
theorem lit_true {c : Ex} (h : (match c with | .lit (.bl true) => true | _ => false) = true) : c = .lit (.bl true) := by
  split at h
  · rfl
  · cases h
theorem chk_lc {own : List Nat} {tg : Tg} {it : It} {c elt : Ex} (h : chk T sc calm (.lc own tg it c elt) m e = true) : ∃ eelt etg eit ifs scope pos, e = .ListComp eelt [⟨etg, eit, ifs, 0⟩] scope pos ∧ m = false ∧ calm = true ∧ ownB T sc scope own = true ∧ tgB T scope tg etg = true ∧ tgIn own tg = true ∧
    chkI T sc calm it eit = true ∧ ((ifs = [] ∧ c = .lit (.bl true)) ∨ ∃ ec, ifs = [ec] ∧ chk T scope calm c true ec = true) ∧ chk T scope calm elt false eelt = true := by
  cases e with
  | ListComp eelt gens scope pos =>
    cases gens with
    | nil => exact Bool.noConfusion (show false = true from h)
    | cons g gens =>
      obtain ⟨etg, eit, ifs, as_⟩ := g
      cases gens with
      | cons _ _ => exact Bool.noConfusion (show false = true from h)
      | nil =>
        obtain ⟨k1, q1⟩ := b2 h
        obtain ⟨k2, q2⟩ := b2 q1
        obtain ⟨k3, q3⟩ := b2 q2
        obtain ⟨k4, q4⟩ := b2 q3
        obtain ⟨k5, q5⟩ := b2 q4
        obtain ⟨k6, q6⟩ := b2 q5
        obtain ⟨k7, q7⟩ := b2 q6
        obtain ⟨k8, k9⟩ := b2 q7
        have ha : as_ = 0 := of_decide_eq_true k3
        have fin : (ifs = [] ∧ c = .lit (.bl true)) ∨ ∃ ec, ifs = [ec] ∧ chk T scope calm c true ec = true := by
          clear h q1 q2 q3 q4 q5 q6 q7
          cases ifs with
          | nil => exact .inl ⟨rfl, lit_true k8⟩
          | cons ec r =>
            cases r with
            | cons _ _ => exact Bool.noConfusion (show false = true from k8)
            | nil => exact .inr ⟨ec, rfl, k8⟩
        clear q1 q2 q3 q4 q5 q6 q7 h
        subst ha
        exact ⟨eelt, etg, eit, ifs, scope, pos, rfl, by simpa using k1, k2, k4, k5, k6, k7, fin, k9⟩
  | _ => exact Bool.noConfusion (show false = true from h)
theorem chk_false {c : Ex} (hc : match c with | .none_ => True | .pop _ => True | _ => False) : chk T sc calm c m e ≠ true := by
  intro h
  cases c <;> first
    | exact hc
    | (cases e <;> exact Bool.noConfusion (show false = true from h))
theorem chks_cons {es : Exs} {ee : Expr} {ees : List Expr} (h : chks T sc calm es (ee :: ees) = true) : ∃ a as, es = .cons a as ∧ plainE ee = true ∧ chk T sc calm a false ee = true ∧ chks T sc calm as ees = true := by
  cases es with
  | nil => exact Bool.noConfusion (show false = true from h)
  | cons a as =>
    obtain ⟨h1, h2⟩ := b2 h
    obtain ⟨h2, h3⟩ := b2 h2
    exact ⟨a, as, rfl, h1, h2, h3⟩
theorem chks_nil {es : Exs} (h : chks T sc calm es [] = true) : es = .nil := by
  cases es with
  | nil => rfl
  | cons a as => exact Bool.noConfusion (show false = true from h)
end

/-! ### side conditions of the model's rules -/
theorem star_ok {ee : Expr} {ees : List Expr} {env : Env} (h : plainE ee = true) : starEach (ee :: ees) env = (false, eval ee env) :: starEach ees env := by
  cases ee <;> first
    | rfl
    | exact Bool.noConfusion (show false = true from h)
theorem stars_ok {T : Tab} {sc : Scope} {calm : Bool} {env : Env} {pos : Pos} : ∀ {ees : List Expr} {es : Exs}, chks T sc calm es ees = true → (backTo pos (starEach ees env)).any (·.1) = false
  | [], es, _ => rfl
  | ee :: ees, es, h => by
    obtain ⟨a, as, rfl, h1, h2, h3⟩ := chks_cons h
    rw [star_ok h1]
    show (false || (backTo pos (starEach ees env)).any (·.1)) = false
    rw [stars_ok h3]
    rfl
theorem plainIx_ok {b : Expr} (h : plainE b = true) : PlainIx b := by
  cases b <;> first
    | exact fun _ _ => rfl
    | exact Bool.noConfusion (show false = true from h)
theorem marks_ok {op : CmpOp} {b : Expr} (h : plainE b = true) : behindInMarks op b = false := by
  cases b <;> first
    | rfl
    | exact Bool.noConfusion (show false = true from h)
theorem plainT_ok {e : Expr} (env : Env) (h : plainT e = true) : ∀ whole, isTrue e env whole = (do let v ← whole; standAt e.pos; holding [v] (truthy v)) := by
  intro whole
  cases e <;> first
    | rfl
    | exact Bool.noConfusion (show false = true from h)
theorem base_ok {eo : Expr} {f : Str} {env : Env} (h : notSuper eo = true) : attributeBase eo f env (eval eo env) = eval eo env := by
  cases eo with
  | Call g args kws pos =>
    cases g with
    | Name x p =>
      have h' : (x == ("super" : Str)) = false := by simpa [notSuper] using h
      cases args with
      | cons _ _ => rfl
      | nil =>
        cases kws with
        | cons _ _ => rfl
        | nil =>
          unfold attributeBase
          simp [bne, h']
    | _ => rfl
  | _ => rfl
theorem seen_ok {x : Str} (h : PD.seen x = true) : (x == ("__debug__" : Str)) = false ∧ (x == ("__classdict__" : Str)) = false ∧ (x == ("__name__" : Str)) = false ∧ (x == ("super" : Str)) = false := by
  obtain ⟨h1, h2⟩ := b2 h
  obtain ⟨h2, h3⟩ := b2 h2
  obtain ⟨h3, h4⟩ := b2 h3
  exact ⟨by simpa using h1, by simpa using h2, by simpa using h3, by simpa using h4⟩
theorem visB_ok {sc : Scope} {x : Str} (h : visB sc x = true) : Vis sc x := by
  unfold visB at h
  split at h
  · exact .inl (by assumption)
  · exact .inr (.inl (by assumption))
  · exact .inr (.inr (by assumption))
  · cases h
theorem glB_ok {X : Cx} {x : Str} (h : glB X.env.scope x = true) : Gl X x := by
  unfold glB at h
  split at h
  · assumption
  · cases h
end PD

/-! PD10 -/
set_option Elab.async false
set_option linter.all false
set_option maxRecDepth 100000
set_option maxHeartbeats 4000000
/-! PD: each expression's reading. -/
namespace PD
open PySem PySem.Spec PyProof.Rows L2

section
variable {X : Cx}
theorem pe_of {e : Expr} {t t' : TE} (h : PE X e t) (i : ∀ σ H Q, t' σ H Q → t σ H Q) : PE X e t' := ⟨fun pins s σ H Q I q => h.run pins s σ H Q I (i σ H Q q)⟩
theorem pt_of {e : Expr} {t t' : TT} (h : PT X e t) (i : ∀ σ H Q, t' σ H Q → t σ H Q) : PT X e t' := ⟨fun pins s σ H Q I q => h.run pins s σ H Q I (i σ H Q q)⟩
theorem pw_of {e : Expr} {t t' : TT} (h : PW X e t) (i : ∀ σ H Q, t' σ H Q → t σ H Q) : PW X e t' := ⟨fun wh pins s σ H Q I q => h.run wh pins s σ H Q I (i σ H Q q)⟩
theorem pa_of {es : List Expr} {t t' : TA} (h : PA X es t) (i : ∀ σ H Q, t' σ H Q → t σ H Q) : PA X es t' := ⟨fun pos pins s σ H Q I q => h.run pos pins s σ H Q I (i σ H Q q)⟩
theorem pi_of {tg e : Expr} {t t' : TI} (h : PI X tg e t) (i : ∀ σ H R, t' σ H R → t σ H R) : PI X tg e t' := ⟨fun pins s σ H R I q => h.run pins s σ H R I (i σ H R q)⟩
end

section
variable {B : Bs} {W : WX} {σ : L2.St} {H : Hp} {Q : VK}
theorem tE_two {ca cb : Slots → Store → Res Val} {k : Val → Val → Store → Res Val} {r : R2}
    (hr : ∀ g H ρ st x y v w, ER B g H σ ρ st → ValR B.R B.ex g.F g.A x v → ValR B.R B.ex g.F g.A y w → Pst B W g H σ ρ (k v w st) (kV B Q) → r x y H Q)
    (h : tE B W (fun ρ st => (ca ρ st).bind fun x st => (cb ρ st).bind fun y st => k x y st) σ H Q) : tOp r (tE B W ca) (tE B W cb) σ H Q := by
  obtain ⟨g, ρ, st, e, p⟩ := h
  refine ⟨g, ρ, st, e, p.bind.imp fun v st1 g1 H1 e1 s1 p1 x rx => ?_⟩
  exact ⟨g1, ρ, st1, e1, p1.bind.imp fun w st2 g2 H2 e2 s2 p2 y ry => hr g2 H2 ρ st2 x y v w e2 (rx.up s2.le) ry p2⟩
theorem tE_one {ca : Slots → Store → Res Val} {k : Val → Store → Res Val} {r : V → Hp → Prop}
    (hr : ∀ g H ρ st x v, ER B g H σ ρ st → ValR B.R B.ex g.F g.A x v → Pst B W g H σ ρ (k v st) (kV B Q) → r x H)
    (h : tE B W (fun ρ st => (ca ρ st).bind fun x st => k x st) σ H Q) : tE B W ca σ H r := by
  obtain ⟨g, ρ, st, e, p⟩ := h
  exact ⟨g, ρ, st, e, p.bind.imp fun v st1 g1 H1 e1 s1 p1 x rx => hr g1 H1 ρ st1 x v e1 rx p1⟩
theorem tA_one {ca : Slots → Store → Res (List Val)} {k : List Val → Store → Res Val} {r : List V → Hp → Prop}
    (hr : ∀ g H ρ st xs vs, ER B g H σ ρ st → ValsR B.R B.ex g.F g.A xs vs → Pst B W g H σ ρ (k vs st) (kV B Q) → r xs H)
    (h : tE B W (fun ρ st => (ca ρ st).bind fun x st => k x st) σ H Q) : tA' B W ca σ H r := by
  obtain ⟨g, ρ, st, e, p⟩ := h
  exact ⟨g, ρ, st, e, p.bind.imp fun v st1 g1 H1 e1 s1 p1 x rx => hr g1 H1 ρ st1 x v e1 rx p1⟩
theorem ValR.bl {R : RC} {E : ExH} {F : Hp} {A : List Addr} {x : V} {b : Bool} (h : ValR R E F A x (.fz (.bl b))) : x = .bl b := by
  cases (show Rep R F x (.bl b) from h); rfl
/-- a value that is a bool, as a test -/
theorem tT_tB {c : Slots → Store → Res Val} {Q : Bool → Hp → Prop} (h : tT B W c σ H Q) : tB (tE B W c) σ H Q := by
  obtain ⟨g, ρ, st, e, p⟩ := h
  exact ⟨g, ρ, st, e, p.imp fun v st1 g1 H1 e1 s1 ⟨b, hb, q⟩ x rx => by subst hb; exact ⟨b, rx.bl, q⟩⟩
theorem tT_two {ca cb : Slots → Store → Res Val} {k : Val → Val → Store → Res Val} {r : R2} {Q : Bool → Hp → Prop}
    (hr : ∀ g H ρ st x y v w, ER B g H σ ρ st → ValR B.R B.ex g.F g.A x v → ValR B.R B.ex g.F g.A y w → Pst B W g H σ ρ (k v w st) (fun v _ _ H' => ∃ b, v = .fz (.bl b) ∧ Q b H') → r x y H (fun x H1 => ∃ c, x = .bl c ∧ Q c H1))
    (h : tT B W (fun ρ st => (ca ρ st).bind fun x st => (cb ρ st).bind fun y st => k x y st) σ H Q) : tB (tOp r (tE B W ca) (tE B W cb)) σ H Q := by
  obtain ⟨g, ρ, st, e, p⟩ := h
  refine ⟨g, ρ, st, e, p.bind.imp fun v st1 g1 H1 e1 s1 p1 x rx => ?_⟩
  exact ⟨g1, ρ, st1, e1, p1.bind.imp fun w st2 g2 H2 e2 s2 p2 y ry => hr g2 H2 ρ st2 x y v w e2 (rx.up s2.le) ry p2⟩
end

def isBool : Expr → Bool
  | .BoolOp _ _ _ => true
  | _ => false
def OK (T : Tab) (G : Gam) (c : Ex) : Prop := ∀ {sc : Scope} {calm : Bool} {B : Bs} {X : Cx} {W : WX}, Cxt T sc calm G B X W → ∀ e : Expr,
  (chk T sc calm c false e = true → PE X e (tE B W (ev G c))) ∧ (chk T sc calm c true e = true → PT X e (tT B W (ev G c)) ∧ (isBool e = true → PW X e (tT B W (ev G c))))
def OKs (T : Tab) (G : Gam) (c : Exs) : Prop := ∀ {sc : Scope} {calm : Bool} {B : Bs} {X : Cx} {W : WX}, Cxt T sc calm G B X W → ∀ es : List Expr, chks T sc calm c es = true → PA X es (tA' B W (evs G c))

section
variable {T : Tab} {G : Gam}
/-- one that is read alike as a value and as a test -/
theorem ok_gen {c : Ex} (hv : ∀ {sc : Scope} {calm : Bool} {B : Bs} {X : Cx} {W : WX}, Cxt T sc calm G B X W → ∀ (m : Bool) (e : Expr), chk T sc calm c m e = true → PE X e (tE B W (ev G c)) ∧ (m = true → plainT e = true)) : OK T G c := by
  intro sc calm B X W C e
  refine ⟨fun h => (hv C false e h).1, fun h => ?_⟩
  obtain ⟨h1, h2⟩ := hv C true e h
  have h3 := h2 rfl
  refine ⟨pt_of (pt_val h1 (plainT_ok _ h3)) fun σ H Q q => tT_tB q, fun z => ?_⟩
  cases e <;> first
    | exact Bool.noConfusion (show false = true from z)
    | exact Bool.noConfusion (show false = true from h3)
/-- one that is never a test -/
theorem ok_val {c : Ex} (hv : ∀ {sc : Scope} {calm : Bool} {B : Bs} {X : Cx} {W : WX}, Cxt T sc calm G B X W → ∀ (m : Bool) (e : Expr), chk T sc calm c m e = true → m = false ∧ PE X e (tE B W (ev G c))) : OK T G c := by
  intro sc calm B X W C e
  exact ⟨fun h => (hv C false e h).2, fun h => Bool.noConfusion (hv C true e h).1⟩

theorem ok_var (i : Nat) : OK T G (.var i) := ok_gen fun {sc calm B X W} C m e h => by
  obtain ⟨x, pos, rfl, h1, h2, h3⟩ := chk_var h
  obtain ⟨n1, n2, _, _⟩ := seen_ok h3
  refine ⟨pe_of (pe_var (i := i) (by rw [C.N]; exact h1) (C.vis h2) n1 n2) fun σ H Q q => ?_, fun _ => rfl⟩
  obtain ⟨g, ρ, st, er, p⟩ := q
  have p' : Pst B W g H σ ρ (match ρ[i]? with | some (some v) => Res.ok v st | _ => .stuck) (kV B Q) := p
  cases q : ρ[i]? with
  | none => rw [q] at p'; exact p'.elim
  | some o =>
    cases o with
    | none => rw [q] at p'; exact p'.elim
    | some v =>
      rw [q] at p'
      have hi : i < σ.length := by
        rw [er.slen]; exact (List.getElem?_eq_some_iff.mp q).1
      obtain ⟨x, e1, r⟩ := er.slots i _ _ (List.getElem?_eq_getElem hi) q
      exact ⟨x, by rw [List.getElem?_eq_getElem hi, e1], p'.ok er x r⟩
theorem ok_lit (d : D) : OK T G (.lit d) := ok_gen fun {sc calm B X W} C m e h => by
  obtain ⟨c, k, pos, rfl, h1⟩ := chk_lit h
  refine ⟨?_, fun _ => rfl⟩
  have fin : ∀ {x : V}, (∀ F, Rep B.R F x d) → ∀ σ H Q, tE B W (ev G (.lit d)) σ H Q → tC x σ H Q := fun {x} hx σ H Q ⟨g, ρ, st, er, p⟩ => Pst.ok (show Pst B W g H σ ρ (.ok (.fz d) st) (kV B Q) from p) er x (hx _)
  cases d <;> cases c <;> first
    | exact Bool.noConfusion (show false = true from h1)
    | skip
  · exact pe_of pe_non (fin fun _ => .non)
  · have : _ = _ := eq_of_beq (show (_ == _) = true from h1)
    subst this
    exact pe_of pe_bl (fin fun _ => .bl _)
  · have : _ = _ := of_decide_eq_true (show decide _ = true from h1)
    subst this
    exact pe_of pe_int (fin fun _ => .int _)
  · have : _ = _ := of_decide_eq_true (show decide _ = true from h1)
    subst this
    exact pe_of pe_str (fin fun _ => .str _)
theorem ok_glo (j : Nat) : OK T G (.glo j) := ok_gen fun {sc calm B X W} C m e h => by
  obtain ⟨x, pos, rfl, h1, h2, h3⟩ := chk_glo h
  obtain ⟨n1, _, _, _⟩ := seen_ok h3
  refine ⟨?_, fun _ => rfl⟩
  cases q : G.con[j]? with
  | none => exact ⟨fun pins s σ H Q I ⟨g, ρ, st, er, p⟩ => by
      have p' : Pst B W g H σ ρ (pick G.con[j]? fun d => Res.ok (.fz d) st) (kV B Q) := p
      rw [q] at p'; exact p'.elim⟩
  | some d =>
    obtain ⟨v, u, hm, ru, rep⟩ := C.con j d x q h1
    refine pe_of (pe_glob (C.glob h2) hm ru n1) fun σ H Q ⟨g, ρ, st, er, p⟩ => ?_
    have p' : Pst B W g H σ ρ (pick G.con[j]? fun d => Res.ok (.fz d) st) (kV B Q) := p
    rw [q] at p'
    exact Pst.ok (show Pst B W g H σ ρ (.ok (.fz d) st) (kV B Q) from p') er v (rep _)
theorem ok_bin (o : Bop) {a b : Ex} (ha : OK T G a) (hb : OK T G b) : OK T G (.bin o a b) := ok_gen fun {sc calm B X W} C m e h => by
  obtain ⟨ea, eb, pos, rfl, h1, h2⟩ := chk_bin h
  refine ⟨pe_of (pe_op (bop_ok o) ((ha C ea).1 h1) ((hb C eb).1 h2)) fun σ H Q q => ?_, fun _ => rfl⟩
  refine tE_two (k := fun x y st => pick (dr st x) fun dx => pick (dr st y) fun dy => opRes (bopS o dx dy) st) (fun g H ρ st x y v w er rx ry p => ?_) q
  obtain ⟨dx, e1, p⟩ := p.pick
  obtain ⟨dy, e2, p⟩ := p.pick
  rw [C.K]
  exact bop_pst er o (er.rd rx e1) (er.rd ry e2) p
theorem ok_cmp (o : Cop) {a b : Ex} (ha : OK T G a) (hb : OK T G b) : OK T G (.cmp o a b) := by
  intro sc calm B X W C e
  refine ⟨fun h => ?_, fun h => ?_⟩
  · obtain ⟨ea, eb, pos, rfl, h0, h1, h2⟩ := chk_cmp h
    refine pe_of (pe_cmpR (cop_ok C.units o) ((ha C ea).1 h1) ((hb C eb).1 h2) (marks_ok h0)) fun σ H Q q => ?_
    refine tE_two (k := fun x y st => pick (dr st x) fun dx => pick (dr st y) fun dy => pick (cmpS o dx dy) fun r => .ok (.fz (.bl r)) st) (fun g H ρ st x y v w er rx ry p => ?_) q
    obtain ⟨dx, e1, p⟩ := p.pick
    obtain ⟨dy, e2, p⟩ := p.pick
    obtain ⟨r, e3, p⟩ := p.pick
    rw [C.K]
    exact cop_pst er o (er.rd rx e1) (er.rd ry e2) e3 (p.same er (.bl r))
  · obtain ⟨ea, eb, pos, rfl, h0, h1, h2⟩ := chk_cmp h
    refine ⟨pt_of (pt_cmpR (cop_ok C.units o) ((ha C ea).1 h1) ((hb C eb).1 h2) (marks_ok h0)) fun σ H Q q => ?_, fun z => Bool.noConfusion (show false = true from z)⟩
    refine tT_two (k := fun x y st => pick (dr st x) fun dx => pick (dr st y) fun dy => pick (cmpS o dx dy) fun r => .ok (.fz (.bl r)) st) (fun g H ρ st x y v w er rx ry p => ?_) q
    obtain ⟨dx, e1, p⟩ := p.pick
    obtain ⟨dy, e2, p⟩ := p.pick
    obtain ⟨r, e3, p⟩ := p.pick
    rw [C.K]
    refine cop_pst er o (er.rd rx e1) (er.rd ry e2) e3 ⟨r, rfl, ?_⟩
    obtain ⟨b, hb, q⟩ := p.ok er
    cases hb
    exact q
theorem ok_chain (o o' : Cop) {a b c : Ex} (ha : OK T G a) (hb : OK T G b) (hc : OK T G c) : OK T G (.chain o o' a b c) := by
  have key : ∀ {B : Bs} {W : WX} {σ : L2.St} {H : Hp} {k : Val → Store → Gh → Hp → Prop} {Q : VK} (_ : ∀ g H ρ st r, ER B g H σ ρ st → k (Val.fz (D.bl r)) st g H → Q (.bl r) H),
      (∃ g ρ st, ER B g H σ ρ st ∧ Pst B W g H σ ρ (ev G (.chain o o' a b c) ρ st) k) → tChain (copR B.R.K o) (copR B.R.K o') (tE B W (ev G a)) (tE B W (ev G b)) (tE B W (ev G c)) σ H Q := by
    intro B W σ H k Q hk ⟨g, ρ, st, er, p⟩
    have p' : Pst B W g H σ ρ ((ev G a ρ st).bind fun x st => (ev G b ρ st).bind fun y st => pick (dr st x) fun dx => pick (dr st y) fun dy => pick (cmpS o dx dy) fun r =>
      if r then (ev G c ρ st).bind fun z st => pick (dr st y) fun dy => pick (dr st z) fun dz => pick (cmpS o' dy dz) fun r => Res.ok (Val.fz (D.bl r)) st else Res.ok (Val.fz (D.bl false)) st) k := p
    refine ⟨g, ρ, st, er, p'.bind.imp fun v st1 g1 H1 e1 s1 p1 x rx => ?_⟩
    refine ⟨g1, ρ, st1, e1, p1.bind.imp fun w st2 g2 H2 e2 s2 p2 y ry => ?_⟩
    obtain ⟨dx, q1, p2⟩ := p2.pick
    obtain ⟨dy, q2, p2⟩ := p2.pick
    obtain ⟨r, q3, p2⟩ := p2.pick
    refine cop_pst e2 o (e2.rd (rx.up s2.le) q1) (e2.rd ry q2) q3 ⟨r, rfl, ?_⟩
    cases r with
    | false => exact hk g2 H2 ρ st2 false e2 (p2.ok e2)
    | true =>
      have p2' : Pst B W g2 H2 σ ρ ((ev G c ρ st2).bind fun z st => pick (dr st w) fun dy => pick (dr st z) fun dz => pick (cmpS o' dy dz) fun r => Res.ok (Val.fz (D.bl r)) st) k := p2
      refine ⟨g2, ρ, st2, e2, p2'.bind.imp fun z st3 g3 H3 e3 s3 p3 zz rz => ?_⟩
      obtain ⟨dy', q4, p3⟩ := p3.pick
      obtain ⟨dz, q5, p3⟩ := p3.pick
      obtain ⟨r', q6, p3⟩ := p3.pick
      exact cop_pst e3 o' (e3.rd (ry.up s3.le) q4) (e3.rd rz q5) q6 (hk g3 H3 ρ st3 r' e3 (p3.ok e3))
  intro sc calm B X W C e
  refine ⟨fun h => ?_, fun h => ?_⟩
  · obtain ⟨ea, eb, ec, pos, rfl, h0, h0', h1, h2, h3⟩ := chk_chain h
    have ho := cop_ok C.units o
    have ho' := cop_ok C.units o'
    rw [C.K] at ho ho'
    refine pe_of (pe_chain ho ho' ((ha C ea).1 h1) ((hb C eb).1 h2) ((hc C ec).1 h3) (marks_ok h0')) fun σ H Q q => key (k := kV B Q) (fun g H ρ st r er q => ?_) q
    exact q _ (show Rep B.R g.F _ (.bl r) from .bl r)
  · obtain ⟨ea, eb, ec, pos, rfl, h0, h0', h1, h2, h3⟩ := chk_chain h
    have ho := cop_ok C.units o
    have ho' := cop_ok C.units o'
    rw [C.K] at ho ho'
    refine ⟨pt_of (pt_chain ho ho' ((ha C ea).1 h1) ((hb C eb).1 h2) ((hc C ec).1 h3) (marks_ok h0')) fun σ H Q q => key (fun g H ρ st r er q => ?_) q, fun z => Bool.noConfusion (show false = true from z)⟩
    obtain ⟨b, hb, q⟩ := q
    cases hb
    exact ⟨_, rfl, q⟩
end
end PD

/-! PD11 -/
set_option Elab.async false
set_option linter.all false
set_option maxRecDepth 100000
set_option maxHeartbeats 4000000
/-! PD: each expression's reading, further. -/
namespace PD
open PySem PySem.Spec PyProof.Rows L2
section
variable {T : Tab} {G : Gam}
theorem ok_neg {a : Ex} (ha : OK T G a) : OK T G (.neg a) := ok_val fun {sc calm B X W} C m e h => by
  obtain ⟨ea, pos, rfl, hm, h1⟩ := chk_neg h
  refine ⟨hm, pe_of (pe_un un_neg ((ha C ea).1 h1)) fun σ H Q q => ?_⟩
  refine tE_one (k := fun x st => match x with | .fz (.int i) => .ok (.fz (.int (-i))) st | _ => .stuck) (fun g H ρ st x v er rx p => ?_) q
  split at p
  · cases (show Rep B.R g.F x (.int _) from rx)
    exact ⟨_, rfl, Pst.same p er (.int _)⟩
  · exact p.elim
/-- a bool's two ways -/
theorem pst_bool {B : Bs} {W : WX} {g : Gh} {H : Hp} {σ : L2.St} {ρ : Slots} {β : Type} {x : Val} {kt kf : Res β} {k : β → Store → Gh → Hp → Prop}
    (p : Pst B W g H σ ρ (match x with | .fz (.bl true) => kt | .fz (.bl false) => kf | _ => .stuck) k) : (x = .fz (.bl true) ∧ Pst B W g H σ ρ kt k) ∨ (x = .fz (.bl false) ∧ Pst B W g H σ ρ kf k) := by
  split at p
  · exact .inl ⟨rfl, p⟩
  · exact .inr ⟨rfl, p⟩
  · exact p.elim
theorem ok_not {a : Ex} (ha : OK T G a) : OK T G (.not_ a) := by
  intro sc calm B X W C e
  refine ⟨fun h => ?_, fun h => ?_⟩
  · obtain ⟨ea, pos, rfl, h1⟩ := chk_not h
    refine pe_of (pe_not ((ha C ea).1 h1)) fun σ H Q q => ?_
    refine tE_one (k := fun x st => match x with | .fz (.bl b) => .ok (.fz (.bl (!b))) st | _ => .stuck) (fun g H ρ st x v er rx p => ?_) q
    split at p
    · obtain rfl := rx.bl
      exact ⟨_, rfl, Pst.same p er (.bl _)⟩
    · exact p.elim
  · obtain ⟨ea, pos, rfl, h1⟩ := chk_not h
    refine ⟨pt_of (pt_not ((ha C ea).2 h1).1) fun σ H Q q => ?_, fun z => Bool.noConfusion (show false = true from z)⟩
    obtain ⟨g, ρ, st, er, p⟩ := q
    have p' : Pst B W g H σ ρ ((ev G a ρ st).bind fun x st => match x with | .fz (.bl b) => Res.ok (Val.fz (D.bl (!b))) st | _ => .stuck) (fun v _ _ H' => ∃ b, v = .fz (.bl b) ∧ Q b H') := p
    refine ⟨g, ρ, st, er, p'.bind.imp fun v st1 g1 H1 e1 s1 p1 => ?_⟩
    split at p1
    · rename_i b
      obtain ⟨b', hb, q⟩ := p1.ok e1
      cases hb
      exact ⟨b, rfl, q⟩
    · exact p1.elim
theorem ok_and {a b : Ex} (ha : OK T G a) (hb : OK T G b) : OK T G (.and_ a b) := by
  intro sc calm B X W C e
  refine ⟨fun h => ?_, fun h => ?_⟩
  · obtain ⟨ea, eb, rest, pos, rfl, h1, h2⟩ := chk_and h
    have hB : PE X (.BoolOp .And (eb :: rest) pos) (tE B W (ev G b)) := by
      rcases h2 with ⟨rfl, h2⟩ | ⟨_, h2⟩
      · exact pe_one ((hb C eb).1 h2)
      · exact (hb C _).1 h2
    refine pe_of (pe_and ((ha C ea).1 h1) hB) fun σ H Q q => ?_
    obtain ⟨g, ρ, st, er, p⟩ := q
    have p' : Pst B W g H σ ρ ((ev G a ρ st).bind fun x st => match x with | .fz (.bl true) => ev G b ρ st | .fz (.bl false) => Res.ok (Val.fz (D.bl false)) st | _ => .stuck) (kV B Q) := p
    refine ⟨g, ρ, st, er, p'.bind.imp fun v st1 g1 H1 e1 s1 p1 x rx => ?_⟩
    rcases pst_bool p1 with ⟨rfl, p2⟩ | ⟨rfl, p2⟩
    · exact ⟨true, rx.bl, ⟨g1, ρ, st1, e1, p2⟩⟩
    · exact ⟨false, rx.bl, p2.same e1 (.bl _)⟩
  · obtain ⟨ea, eb, rest, pos, rfl, h1, h2⟩ := chk_and h
    have hB : PW X (.BoolOp .And (eb :: rest) pos) (tT B W (ev G b)) := by
      rcases h2 with ⟨rfl, h2⟩ | ⟨_, h2⟩
      · exact pw_and1 ((hb C eb).2 h2).1
      · exact ((hb C _).2 h2).2 rfl
    have hw : PW X (.BoolOp .And (ea :: eb :: rest) pos) (tT B W (ev G (.and_ a b))) := pw_of (pw_and ((ha C ea).2 h1).1 hB) fun σ H Q q => by
      obtain ⟨g, ρ, st, er, p⟩ := q
      have p' : Pst B W g H σ ρ ((ev G a ρ st).bind fun x st => match x with | .fz (.bl true) => ev G b ρ st | .fz (.bl false) => Res.ok (Val.fz (D.bl false)) st | _ => .stuck) (fun v _ _ H' => ∃ b, v = .fz (.bl b) ∧ Q b H') := p
      refine ⟨g, ρ, st, er, p'.bind.imp fun v st1 g1 H1 e1 s1 p1 => ?_⟩
      rcases pst_bool p1 with ⟨rfl, p2⟩ | ⟨rfl, p2⟩
      · exact ⟨true, rfl, ⟨g1, ρ, st1, e1, p2⟩⟩
      · obtain ⟨b', hb', q⟩ := p2.ok e1
        cases hb'
        exact ⟨false, rfl, q⟩
    exact ⟨hw.pt, fun _ => hw⟩
theorem ok_or {a b : Ex} (ha : OK T G a) (hb : OK T G b) : OK T G (.or_ a b) := by
  intro sc calm B X W C e
  refine ⟨fun h => ?_, fun h => ?_⟩
  · obtain ⟨ea, eb, rest, pos, rfl, h1, h2⟩ := chk_or h
    have hB : PE X (.BoolOp .Or (eb :: rest) pos) (tE B W (ev G b)) := by
      rcases h2 with ⟨rfl, h2⟩ | ⟨_, h2⟩
      · exact pe_one ((hb C eb).1 h2)
      · exact (hb C _).1 h2
    refine pe_of (pe_or ((ha C ea).1 h1) hB) fun σ H Q q => ?_
    obtain ⟨g, ρ, st, er, p⟩ := q
    have p' : Pst B W g H σ ρ ((ev G a ρ st).bind fun x st => match x with | .fz (.bl true) => Res.ok (Val.fz (D.bl true)) st | .fz (.bl false) => ev G b ρ st | _ => .stuck) (kV B Q) := p
    refine ⟨g, ρ, st, er, p'.bind.imp fun v st1 g1 H1 e1 s1 p1 x rx => ?_⟩
    rcases pst_bool p1 with ⟨rfl, p2⟩ | ⟨rfl, p2⟩
    · exact ⟨true, rx.bl, p2.same e1 (.bl _)⟩
    · exact ⟨false, rx.bl, ⟨g1, ρ, st1, e1, p2⟩⟩
  · obtain ⟨ea, eb, rest, pos, rfl, h1, h2⟩ := chk_or h
    have hB : PW X (.BoolOp .Or (eb :: rest) pos) (tT B W (ev G b)) := by
      rcases h2 with ⟨rfl, h2⟩ | ⟨_, h2⟩
      · exact pw_or1 ((hb C eb).2 h2).1
      · exact ((hb C _).2 h2).2 rfl
    have hw : PW X (.BoolOp .Or (ea :: eb :: rest) pos) (tT B W (ev G (.or_ a b))) := pw_of (pw_or ((ha C ea).2 h1).1 hB) fun σ H Q q => by
      obtain ⟨g, ρ, st, er, p⟩ := q
      have p' : Pst B W g H σ ρ ((ev G a ρ st).bind fun x st => match x with | .fz (.bl true) => Res.ok (Val.fz (D.bl true)) st | .fz (.bl false) => ev G b ρ st | _ => .stuck) (fun v _ _ H' => ∃ b, v = .fz (.bl b) ∧ Q b H') := p
      refine ⟨g, ρ, st, er, p'.bind.imp fun v st1 g1 H1 e1 s1 p1 => ?_⟩
      rcases pst_bool p1 with ⟨rfl, p2⟩ | ⟨rfl, p2⟩
      · obtain ⟨b', hb', q⟩ := p2.ok e1
        cases hb'
        exact ⟨true, rfl, q⟩
      · exact ⟨false, rfl, ⟨g1, ρ, st1, e1, p2⟩⟩
    exact ⟨hw.pt, fun _ => hw⟩
theorem ok_ife {c a b : Ex} (hc : OK T G c) (ha : OK T G a) (hb : OK T G b) : OK T G (.ife c a b) := ok_val fun {sc calm B X W} C m e h => by
  obtain ⟨ec, ea, eb, pos, rfl, hm, h1, h2, h3⟩ := chk_ife h
  refine ⟨hm, pe_of (pe_ifExp ((hc C ec).2 h1).1 ((ha C ea).1 h2) ((hb C eb).1 h3)) fun σ H Q q => ?_⟩
  obtain ⟨g, ρ, st, er, p⟩ := q
  have p' : Pst B W g H σ ρ ((ev G c ρ st).bind fun x st => match x with | .fz (.bl true) => ev G a ρ st | .fz (.bl false) => ev G b ρ st | _ => .stuck) (kV B Q) := p
  refine ⟨g, ρ, st, er, p'.bind.imp fun v st1 g1 H1 e1 s1 p1 => ?_⟩
  rcases pst_bool p1 with ⟨rfl, p2⟩ | ⟨rfl, p2⟩
  · exact ⟨true, rfl, iteT ⟨g1, ρ, st1, e1, p2⟩⟩
  · exact ⟨false, rfl, iteF ⟨g1, ρ, st1, e1, p2⟩⟩
theorem ok_tru {a : Ex} (ha : OK T G a) : OK T G (.tru a) := by
  intro sc calm B X W C e
  refine ⟨fun h => Bool.noConfusion (chk_tru h).1, fun h => ?_⟩
  obtain ⟨_, h1, h2⟩ := chk_tru h
  refine ⟨pt_of (pt_truth ((ha C e).1 h2) (plainT_ok _ h1)) fun σ H Q q => ?_, fun z => ?_⟩
  · obtain ⟨g, ρ, st, er, p⟩ := q
    have p' : Pst B W g H σ ρ ((ev G a ρ st).bind fun x st => pick (dr st x) fun d => pick (truS d) fun r => Res.ok (Val.fz (D.bl r)) st) (fun v _ _ H' => ∃ b, v = .fz (.bl b) ∧ Q b H') := p
    refine ⟨g, ρ, st, er, p'.bind.imp fun v st1 g1 H1 e1 s1 p1 x rx => ?_⟩
    obtain ⟨d, q1, p1⟩ := p1.pick
    obtain ⟨r, q2, p1⟩ := p1.pick
    obtain ⟨b', hb', q⟩ := p1.ok e1
    cases hb'
    rw [C.K]
    exact ⟨r, tru_pst e1.le (e1.rd rx q1) q2, q⟩
  · cases e <;> first
      | exact Bool.noConfusion (show false = true from z)
      | exact Bool.noConfusion (show false = true from h1)
theorem ok_nil : OKs T G .nil := by
  intro sc calm B X W C es h
  cases es with
  | cons _ _ => exact Bool.noConfusion (show false = true from h)
  | nil => exact pa_of pa_nil fun σ H Q ⟨g, ρ, st, er, p⟩ => (Pst.ok (show Pst B W g H σ ρ (.ok [] st) _ from p) er) [] .nil
theorem ok_cons {a : Ex} {as : Exs} (ha : OK T G a) (hs : OKs T G as) : OKs T G (.cons a as) := by
  intro sc calm B X W C es h
  cases es with
  | nil => exact Bool.noConfusion (show false = true from h)
  | cons ee ees =>
    obtain ⟨a', as', e1, h1, h2, h3⟩ := chks_cons h
    cases e1
    refine pa_of (pa_cons ((ha C ee).1 h2) (hs C ees h3) (star_ok h1)) fun σ H Q ⟨g, ρ, st, er, p⟩ => ?_
    have p' : Pst B W g H σ ρ ((ev G a ρ st).bind fun v st => (evs G as ρ st).bind fun vs st => Res.ok (v :: vs) st) (fun vs _ g' H' => ∀ xs, ValsR B.R B.ex g'.F g'.A xs vs → Q xs H') := p
    refine ⟨g, ρ, st, er, p'.bind.imp fun v st1 g1 H1 e1 s1 p1 x rx => ?_⟩
    exact ⟨g1, ρ, st1, e1, p1.bind.imp fun vs st2 g2 H2 e2 s2 p2 xs rxs => p2.ok e2 (x :: xs) (.cons (rx.up s2.le) rxs)⟩
theorem pst_if {B : Bs} {W : WX} {g : Gh} {H : Hp} {σ : L2.St} {ρ : Slots} {β : Type} {c : Prop} [Decidable c] {r : Res β} {k : β → Store → Gh → Hp → Prop} (p : Pst B W g H σ ρ (if c then r else .stuck) k) : c ∧ Pst B W g H σ ρ r k := by
  by_cases h : c
  · rw [if_pos h] at p; exact ⟨h, p⟩
  · rw [if_neg h] at p; exact p.elim
/-- what is handed on, then -/
theorem pst_frs {B : Bs} {W : WX} {g : Gh} {H : Hp} {σ : L2.St} {ρ : Slots} {st : Store} {β : Type} {vs : List Val} {xs : List V} {f : List D → Store → Res β} {k : β → Store → Gh → Hp → Prop} (e : ER B g H σ ρ st) (r : ValsR B.R B.ex g.F g.A xs vs)
    (p : Pst B W g H σ ρ ((frs B.io.length vs st).bind f) k) : ∃ ds st' F', ER B ⟨F', g.A⟩ H σ ρ st' ∧ Step g H ⟨F', g.A⟩ H ∧ RepL B.R F' xs ds ∧ Pst B W ⟨F', g.A⟩ H σ ρ (f ds st') k := by
  cases q : frs B.io.length vs st with
  | stuck => rw [q] at p; exact p.elim
  | exc x st1 => exact (frs_no_exc q).elim
  | ok ds st' =>
    obtain ⟨F', e', s', r'⟩ := e.frs r q
    have p2 := p.bind
    rw [q] at p2
    exact ⟨ds, st', F', e', s', r', p2 _ _ e' s'⟩
theorem pst_fr {B : Bs} {W : WX} {g : Gh} {H : Hp} {σ : L2.St} {ρ : Slots} {st : Store} {β : Type} {v : Val} {x : V} {f : D → Store → Res β} {k : β → Store → Gh → Hp → Prop} (e : ER B g H σ ρ st) (r : ValR B.R B.ex g.F g.A x v)
    (p : Pst B W g H σ ρ ((fr B.io.length v st).bind f) k) : ∃ d st' F', ER B ⟨F', g.A⟩ H σ ρ st' ∧ Step g H ⟨F', g.A⟩ H ∧ Rep B.R F' x d ∧ Pst B W ⟨F', g.A⟩ H σ ρ (f d st') k := by
  cases q : fr B.io.length v st with
  | stuck => rw [q] at p; exact p.elim
  | exc x st1 => exact (fr_no_exc q).elim
  | ok ds st' =>
    obtain ⟨F', e', s', r'⟩ := e.fr r q
    have p2 := p.bind
    rw [q] at p2
    exact ⟨ds, st', F', e', s', r', p2 _ _ e' s'⟩
theorem ok_tup {es : Exs} (hs : OKs T G es) : OK T G (.tup es) := ok_val fun {sc calm B X W} C m e h => by
  obtain ⟨ees, k, pos, rfl, hm, h1⟩ := chk_tup h
  refine ⟨hm, pe_of (pe_tup (hs C ees h1)) fun σ H Q q => ?_⟩
  refine tA_one (k := fun vs st => (frs G.io vs st).bind fun ds st => if ds.length ≤ LIM then .ok (.fz (.tup ds)) st else .stuck) (fun g H ρ st xs vs er rx p => ?_) q
  rw [C.io] at p
  obtain ⟨ds, st', F', e', s', r', p'⟩ := pst_frs er rx p
  obtain ⟨hz, p'⟩ := pst_if p'
  refine ⟨?_, fun a ha => p'.newt e' r' ha⟩
  rw [r'.length, ← lim_eq]; exact hz
theorem ok_lst {es : Exs} (hs : OKs T G es) : OK T G (.lst es) := ok_val fun {sc calm B X W} C m e h => by
  obtain ⟨ees, pos, rfl, hm, h1⟩ := chk_lst h
  refine ⟨hm, pe_of (pe_lst (hs C ees h1)) fun σ H Q q => ?_⟩
  refine tA_one (k := fun vs st => (frs G.io vs st).bind fun ds st => if ds.length ≤ LIM then Res.ok (Val.loc (List.length (α := Cont) st)) (st ++ [Cont.lst ds]) else .stuck) (fun g H ρ st xs vs er rx p => ?_) q
  rw [C.io] at p
  obtain ⟨ds, st', F', e', s', r', p'⟩ := pst_frs er rx p
  obtain ⟨hz, p'⟩ := pst_if p'
  refine ⟨?_, fun a ha => p'.newl e' r' ha⟩
  rw [r'.length, ← lim_eq]; exact hz
theorem ok_idx {a i : Ex} (ha : OK T G a) (hi : OK T G i) : OK T G (.idx a i) := ok_gen fun {sc calm B X W} C m e h => by
  obtain ⟨ea, ei, pos, rfl, h0, h1, h2⟩ := chk_idx h
  refine ⟨pe_of (pe_ix ix_seq ((ha C ea).1 h1) ((hi C ei).1 h2) (plainIx_ok h0)) fun σ H Q q => ?_, fun _ => rfl⟩
  refine tE_two (k := fun x y st => pick (dr st x) fun dx => pick (dr st y) fun dy => pick (idxS dx dy) fun d => .ok (.fz d) st) (fun g H ρ st x y v w er rx ry p => ?_) q
  obtain ⟨dx, e1, p⟩ := p.pick
  obtain ⟨dy, e2, p⟩ := p.pick
  obtain ⟨d, e3, p⟩ := p.pick
  rw [C.K]
  exact idx_pst er (er.rd rx e1) (er.rd ry e2) e3 fun z rz => p.same er rz
/-- a slice's part -/
def tO (B : Bs) (W : WX) (G : Gam) (lo : Ex) : TO := fun σ H R => ∃ g ρ st, ER B g H σ ρ st ∧ Pst B W g H σ ρ ((ev G lo ρ st).bind fun l st => pick (bndV lo.isNone l) fun b => .ok b st) fun b _ _ H' => R b H'
theorem po_of {X : Cx} {e : Option Expr} {t t' : TO} (h : PO X e t) (i : ∀ σ H Q, t' σ H Q → t σ H Q) : PO X e t' := ⟨fun pins s σ H Q I q => h.run pins s σ H Q I (i σ H Q q)⟩
theorem po_ok {lo : Ex} (hl : OK T G lo) {sc : Scope} {calm : Bool} {B : Bs} {X : Cx} {W : WX} (C : Cxt T sc calm G B X W) {elo : Option Expr} (h : (elo = none ∧ lo = .none_) ∨ ∃ x, elo = some x ∧ chk T sc calm lo false x = true) : PO X elo (tO B W G lo) := by
  rcases h with ⟨rfl, rfl⟩ | ⟨x, rfl, h⟩
  · exact po_of po_none fun σ H Q ⟨g, ρ, st, er, p⟩ => Pst.ok (show Pst B W g H σ ρ (.ok none st) (fun b _ _ H' => Q b H') from p) er
  · refine po_of (po_some ((hl C x).1 h)) fun σ H Q ⟨g, ρ, st, er, p⟩ => ⟨g, ρ, st, er, p.bind.imp fun v st1 g1 H1 e1 s1 p1 y ry => ?_⟩
    obtain ⟨b, q, p1⟩ := p1.pick
    have hn : lo.isNone = false := by
      cases lo <;> first
        | rfl
        | exact absurd h (chk_false True.intro)
    rw [hn] at q
    cases v with
    | loc n => cases q
    | exn z => cases q
    | fz d =>
      cases d with
      | int i =>
        cases q
        cases (show Rep B.R g1.F y (.int i) from ry)
        exact ⟨i, rfl, p1.ok e1⟩
      | _ => cases q
theorem ok_slc {a lo hi : Ex} (ha : OK T G a) (hl : OK T G lo) (hh : OK T G hi) : OK T G (.slc a lo hi) := ok_val fun {sc calm B X W} C m e h => by
  obtain ⟨ea, elo, ehi, p0, pos, rfl, hm, h1, h2, h3⟩ := chk_slc h
  have sl : L2.SlR X (rSlc B.R.K) := by rw [← C.K]; exact sl_any
  refine ⟨hm, pe_of (pe_slice sl ((ha C ea).1 h1) (po_ok hl C h2) (po_ok hh C h3)) fun σ H Q ⟨g, ρ, st, er, p⟩ => ?_⟩
  have p' : Pst B W g H σ ρ ((ev G a ρ st).bind fun x st => ((ev G lo ρ st).bind fun l st => pick (bndV lo.isNone l) fun b => .ok b st).bind fun bl st =>
      ((ev G hi ρ st).bind fun h st => pick (bndV hi.isNone h) fun b => .ok b st).bind fun bh st => pick (dr st x) fun dx => opRes (slcS dx bl bh) st) (kV B Q) := p
  refine ⟨g, ρ, st, er, p'.bind.imp fun v st1 g1 H1 e1 s1 p1 x rx => ?_⟩
  refine ⟨g1, ρ, st1, e1, p1.bind.imp fun bl st2 g2 H2 e2 s2 p2 => ?_⟩
  refine ⟨g2, ρ, st2, e2, p2.bind.imp fun bh st3 g3 H3 e3 s3 p3 => ?_⟩
  obtain ⟨dx, q, p3⟩ := p3.pick
  exact slc_pst e3 (e3.rd (rx.up (s2.le.trans s3.le)) q) p3
theorem evs_length : ∀ {es : Exs} {ρ : Slots} {st st' : Store} {vs : List Val}, evs G es ρ st = .ok vs st' → vs.length = es.len
  | .nil, ρ, st, st', vs, h => by cases h; rfl
  | .cons a as, ρ, st, st', vs, h => by
    obtain ⟨v, st1, e1, h⟩ := Res.bind_ok (show ((ev G a ρ st).bind fun v st => (evs G as ρ st).bind fun vs st => Res.ok (v :: vs) st) = .ok vs st' from h)
    obtain ⟨vs2, st2, e2, h⟩ := Res.bind_ok h
    cases h
    exact congrArg Nat.succ (evs_length e2)
theorem chks_length {sc : Scope} {calm : Bool} : ∀ {es : Exs} {ees : List Expr}, chks T sc calm es ees = true → ees.length = es.len
  | .nil, [], _ => rfl
  | .nil, _ :: _, h => Bool.noConfusion (show false = true from h)
  | .cons _ _, [], h => Bool.noConfusion (show false = true from h)
  | .cons a as, e :: es, h => congrArg Nat.succ (chks_length (b2 (b2 h).2).2)
theorem ValsR.length {R : RC} {E : ExH} {F : Hp} {A : List Addr} : ∀ {xs : List V} {vs : List Val}, ValsR R E F A xs vs → xs.length = vs.length
  | _, _, .nil => rfl
  | _, _, .cons _ t => congrArg Nat.succ (ValsR.length t)
theorem ok_call (j : Nat) {es : Exs} (hs : OKs T G es) : OK T G (.call j es) := ok_gen fun {sc calm B X W} C m e h => by
  obtain ⟨x, p0, ea, ees, pos, rfl, h1, h2, h3, h4, h5⟩ := chk_call h
  refine ⟨?_, fun _ => rfl⟩
  obtain ⟨n1, _, _, _⟩ := seen_ok h3
  obtain ⟨c1, c2⟩ := C.calm h4
  cases q : G.fns[j]? with
  | none => exact ⟨fun pins s σ H Q I ⟨g, ρ, st, er, p⟩ => by
      have p' : Pst B W g H σ ρ (pick G.fns[j]? fun fi => (evs G es ρ st).bind fun vs st => callS G.io fi vs st) (kV B Q) := p
      rw [q] at p'; exact p'.elim⟩
  | some fi =>
    obtain ⟨f, fd, ps, ds, dvs, hm, hk, hb, hv, F, hn, hd⟩ := C.fns j fi x _ q h1
    have hE := chks_cons h5
    obtain ⟨a, as, _, pl, _, h6⟩ := hE
    have PAs := hs C (ea :: ees) h5
    refine pe_of (pe_callSD F c2 (C.glob h2) hm hk hb hv (fun σ => passAt C.tk σ) PAs n1 (star_ok pl) (stars_ok h6)) fun σ H Q ⟨g, ρ, st, er, p⟩ => ?_
    have p' : Pst B W g H σ ρ (pick G.fns[j]? fun fi => (evs G es ρ st).bind fun vs st => callS G.io fi vs st) (kV B Q) := p
    rw [q] at p'
    have p2 : Pst B W g H σ ρ ((evs G es ρ st).bind fun vs st => callS G.io fi vs st) (kV B Q) := p'
    refine ⟨g, ρ, st, er, p2.bindE.imp fun vs st1 g1 H1 e1 s1 ⟨ee, p3⟩ xs rx => ?_⟩
    rw [C.io] at p3
    refine call_pst e1 rx hd ?_ p3
    rw [rx.length, evs_length ee, ← chks_length h5]
    exact hn
theorem ok_bfn (f : Bfn) {es : Exs} (hs : OKs T G es) : OK T G (.bfn f es) := ok_gen fun {sc calm B X W} C m e h => by
  obtain ⟨p0, ea, ees, pos, rfl, h1, h2, h3, h4⟩ := chk_bfn h
  refine ⟨?_, fun _ => rfl⟩
  obtain ⟨a, as, _, pl, _, h6⟩ := chks_cons h4
  have PAs := hs C (ea :: ees) h4
  have gl : Gl X f.nm := C.glob h1
  have cr := bfn_ok (X := X) f (fun z => (C.calm (h3 z)).1)
  have fin : ∀ σ H Q, tE B W (ev G (.bfn f es)) σ H Q → tCB (bfnR X.K f) (tA' B W (evs G es)) σ H Q := fun σ H Q ⟨g, ρ, st, er, p⟩ => by
    have p2 : Pst B W g H σ ρ ((evs G es ρ st).bind fun vs st => pick (vs.mapM (dr st)) fun ds => opRes (bfnS f ds) st) (kV B Q) := p
    refine ⟨g, ρ, st, er, p2.bind.imp fun vs st1 g1 H1 e1 s1 p3 xs rx => ?_⟩
    obtain ⟨ds, q, p3⟩ := p3.pick
    rw [C.K]
    exact bfn_pst e1 f (e1.rds rx q) p3
  have free : ∀ {x : Str}, T.free.contains x = true → X.mg x = none := fun {x} z => C.free x (List.contains_iff_mem.mp z)
  cases f with
  | gcd => exact pe_of (pe_callBfun cr gl (C.gcd h2) PAs (by decide) (star_ok pl) (stars_ok h6)) fin
  | len => exact pe_of (pe_callB cr gl (free h2) (by decide +kernel) PAs (by decide) (by decide) (star_ok pl) (stars_ok h6)) fin
  | abs => exact pe_of (pe_callB cr gl (free h2) (by decide +kernel) PAs (by decide) (by decide) (star_ok pl) (stars_ok h6)) fin
  | min2 => exact pe_of (pe_callB cr gl (free h2) (by decide +kernel) PAs (by decide) (by decide) (star_ok pl) (stars_ok h6)) fin
  | max2 => exact pe_of (pe_callB cr gl (free h2) (by decide +kernel) PAs (by decide) (by decide) (star_ok pl) (stars_ok h6)) fin
  | str => exact pe_of (pe_callTy cr gl (free h2) (by decide +kernel) PAs (by decide) (by decide) (star_ok pl) (stars_ok h6)) fin
  | int => exact pe_of (pe_callTy cr gl (free h2) (by decide +kernel) PAs (by decide) (by decide) (star_ok pl) (stars_ok h6)) fin
  | tuple => exact pe_of (pe_callTy cr gl (free h2) (by decide +kernel) PAs (by decide) (by decide) (star_ok pl) (stars_ok h6)) fin
  | list => exact pe_of (pe_callTy cr gl (free h2) (by decide +kernel) PAs (by decide) (by decide) (star_ok pl) (stars_ok h6)) fin
theorem ok_bitlen {a : Ex} {es : Exs} (ha : OK T G a) : OK T G (.mth .bitlen a es) := ok_val fun {sc calm B X W} C m e h => by
  obtain ⟨eo, ap, cp, rfl, hm, h1, h2, h3, rfl⟩ := chk_mth h
  refine ⟨hm, pe_of (pe_bits ((ha C eo).1 h3) (base_ok h1) h2) fun σ H Q ⟨g, ρ, st, er, p⟩ => ?_⟩
  have p2 : Pst B W g H σ ρ ((ev G a ρ st).bind fun x st => (evs G .nil ρ st).bind fun vs st => pick (dr st x) fun d => pick (vs.mapM (dr st)) fun ds => opRes (mthS .bitlen d ds) st) (kV B Q) := p
  refine ⟨g, ρ, st, er, p2.bind.imp fun v st1 g1 H1 e1 s1 p3 x rx => ?_⟩
  have p4 : Pst B W g1 H1 σ ρ (pick (dr st1 v) fun d => opRes (mthS .bitlen d []) st1) (kV B Q) := p3
  obtain ⟨d, q, p4⟩ := p4.pick
  have r := e1.rd rx q
  cases d <;> first
    | exact p4.elim
    | skip
  obtain rfl := r.int
  exact ⟨_, rfl, Pst.same p4 e1 (.int _)⟩

/-! ### calls with nothing -/
theorem pe_callSD0 {X : Cx} {CX : CXT} {k : Nat} {f : Addr} {fd : FuncData} {ps : List Str} {sp : Sp} {x : Str} {p pos : Pos} {ds : List Value} {dvs : List V} {E : L2.St → XK} (F : FnOk X.prog X.w X.K X.mg X.base CX k f fd ps sp) (hr : Room k X.A) (hg : Gl X x) (hm : X.mg x = some (.ref f)) (hk : PySem.W.keepIn X.K (.ref f) = true) (hb : Binds X.K fd ps ds) (hd : Vals dvs ds) (hx : ∀ σ, PassesAt CX X σ (E σ))
    (hdb : (x == ("__debug__" : Str)) = false) : PE X (.Call (.Name x p) [] [] pos) (tCallSD sp dvs E tNil) := by
  refine ⟨fun pins s σ H Q I h => ?_⟩
  refine wpAny_Call_Name_kw (ld_glob I hg hm ?_ hdb)
  exact PySem.W.callWith_K0 I.kIn hk (run_fnSD (us := []) (vs := []) F hr hb hd (hx σ) I .nil h)
theorem ok_call0 (j : Nat) : OK T G (.call0 j) := ok_gen fun {sc calm B X W} C m e h => by
  have h0 : (match call0P e with
    | some (x, _, _) => decide (T.fns[j]? = some (x, 0)) && (glB sc x && (seen x && calm))
    | none => false) = true := h
  cases q : call0P e with
  | none => rw [q] at h0; cases h0
  | some z =>
    obtain ⟨x, p, q2⟩ := z
    rw [q] at h0
    obtain ⟨h1, h0⟩ := b2 h0
    obtain ⟨h2, h0⟩ := b2 h0
    obtain ⟨h3, h4⟩ := b2 h0
    have he := call0P_ok q
    subst he
    refine ⟨?_, fun _ => rfl⟩
    obtain ⟨n1, _, _, _⟩ := seen_ok h3
    obtain ⟨c1, c2⟩ := C.calm h4
    cases qf : G.fns[j]? with
    | none => exact ⟨fun pins s σ H Q I ⟨g, ρ, st, er, p⟩ => by
        have p' : Pst B W g H σ ρ (pick G.fns[j]? fun fi => callS G.io fi [] st) (kV B Q) := p
        rw [qf] at p'; exact p'.elim⟩
    | some fi =>
      obtain ⟨f, fd, ps, ds, dvs, hm, hk, hb, hv, F, hn, hd⟩ := C.fns j fi x _ qf (of_decide_eq_true h1)
      refine pe_of (pe_callSD0 F c2 (C.glob h2) hm hk hb hv (fun σ => passAt C.tk σ) n1) fun σ H Q ⟨g, ρ, st, er, p⟩ => ?_
      have p' : Pst B W g H σ ρ (pick G.fns[j]? fun fi => callS G.io fi [] st) (kV B Q) := p
      rw [qf] at p'
      have p2 : Pst B W g H σ ρ (callS G.io fi [] st) (kV B Q) := p'
      rw [C.io] at p2
      exact call_pst (xs := []) er .nil hd hn p2
/-! ### texts -/
theorem fmt_of {B : Bs} {g : Gh} {H : Hp} {σ : L2.St} {ρ : Slots} {st : Store} (e : ER B g H σ ρ st) {x : V} {d : D} {s : Str} (r : RdV B.R g.F H x d) (h : fmtS d = some s) : (∃ y : Str, x = .str y ∧ y.length ≤ sizeLine ∧ y = s) ∨ ∃ i : Int, x = .int i ∧ i.natAbs.log2 < 1920 ∧ Str.ofString (toString i) = s := by
  cases d <;> first
    | cases h
    | skip
  · obtain rfl := r.int
    rename_i i
    have h' : (if i.natAbs.log2 < 1920 then some (Str.ofString (toString i)) else none) = some s := h
    by_cases hz : i.natAbs.log2 < 1920
    · rw [if_pos hz] at h'
      exact .inr ⟨i, rfl, hz, Option.some.inj h'⟩
    · rw [if_neg hz] at h'; cases h'
  · obtain rfl := r.str
    rename_i y
    have h' : (if y.length ≤ LIM then some y else none) = some s := h
    by_cases hz : y.length ≤ LIM
    · rw [if_pos hz] at h'
      exact .inl ⟨y, rfl, by rw [← lim_eq]; exact hz, Option.some.inj h'⟩
    · rw [if_neg hz] at h'; cases h'
theorem ok_fst {a : Ex} (ha : OK T G a) : OK T G (.fst a) := ok_val fun {sc calm B X W} C m e h => by
  have h0 : (match fstP e with
    | some (ea, _, _) => !m && chk T sc calm a false ea
    | none => false) = true := h
  cases q : fstP e with
  | none => rw [q] at h0; cases h0
  | some z =>
    obtain ⟨ea, p, q2⟩ := z
    rw [q] at h0
    obtain ⟨h1, h2⟩ := b2 h0
    have hm : m = false := by simpa using h1
    have he := fstP_ok q
    subst he
    refine ⟨hm, pe_of (pe_joined1 (pe_fmt ((ha C ea).1 h2))) fun σ H Q ⟨g, ρ, st, er, p⟩ => ?_⟩
    have p2 : Pst B W g H σ ρ ((ev G a ρ st).bind fun x st => pick (dr st x) fun d => pick (fmtS d) fun s => .ok (.fz (.str s)) st) (kV B Q) := p
    refine ⟨g, ρ, st, er, p2.bind.imp fun v st1 g1 H1 e1 s1 p3 x rx => ?_⟩
    obtain ⟨d, q1, p3⟩ := p3.pick
    obtain ⟨s, q2, p3⟩ := p3.pick
    rcases fmt_of e1 (e1.rd rx q1) q2 with ⟨y, rfl, hz, rfl⟩ | ⟨i, rfl, hz, rfl⟩
    · exact .inl ⟨_, rfl, hz, p3.same e1 (.str _)⟩
    · exact .inr ⟨_, rfl, hz, p3.same e1 (.str _)⟩
theorem ok_fst3 {a b : Ex} (s : Str) (ha : OK T G a) (hb : OK T G b) : OK T G (.fst3 a s b) := ok_val fun {sc calm B X W} C m e h => by
  have h0 : (match fst3P e with
    | some (ea, s', eb, _, _, _, _, _) => !m && (decide (s = s') && (chk T sc calm a false ea && chk T sc calm b false eb))
    | none => false) = true := h
  cases q : fst3P e with
  | none => rw [q] at h0; cases h0
  | some z =>
    obtain ⟨ea, s', eb, p, j, p2, p3, q2⟩ := z
    rw [q] at h0
    obtain ⟨h1, h2⟩ := b2 h0
    obtain ⟨h2, h3⟩ := b2 h2
    obtain ⟨h3, h4⟩ := b2 h3
    have hm : m = false := by simpa using h1
    have hs : s = s' := of_decide_eq_true h2
    subst hs
    have he := fst3P_ok q
    subst he
    refine ⟨hm, pe_of (pe_joined (.cons (pe_fmt ((ha C ea).1 h3)) (.cons pe_str (.cons (pe_fmt ((hb C eb).1 h4)) .nil)))) fun σ H Q ⟨g, ρ, st, er, p⟩ => ?_⟩
    have p2 : Pst B W g H σ ρ ((ev G a ρ st).bind fun x st => pick (dr st x) fun dx => pick (fmtS dx) fun sx => pick (cat2S sx s) fun u => (ev G b ρ st).bind fun y st => pick (dr st y) fun dy => pick (fmtS dy) fun sy => pick (catS u sy) fun z => .ok (.fz (.str z)) st) (kV B Q) := p
    refine ⟨g, ρ, st, er, p2.bind.imp fun v st1 g1 H1 e1 s1 p3 x rx => ?_⟩
    obtain ⟨dx, q1, p3⟩ := p3.pick
    obtain ⟨sx, q2, p3⟩ := p3.pick
    obtain ⟨u, q3, p3⟩ := p3.pick
    have q3' : (if (Str.empty ++ sx).length ≤ LIM ∧ (Str.empty ++ sx ++ s).length ≤ LIM then some (Str.empty ++ sx ++ s) else none) = some u := q3
    by_cases hz : (Str.empty ++ sx).length ≤ LIM ∧ (Str.empty ++ sx ++ s).length ≤ LIM
    · rw [if_pos hz] at q3'
      obtain rfl := Option.some.inj q3'
      have rest : (Str.empty ++ sx).length ≤ sizeLine ∧ tJs [tC (.str s), tFmt (tE B W (ev G b))] (Str.empty ++ sx) σ H1 fun out H1 => Q (.str out) H1 := by
        refine ⟨by rw [← lim_eq]; exact hz.1, s, rfl, by rw [← lim_eq]; exact hz.2, ?_⟩
        refine ⟨g1, ρ, st1, e1, p3.bind.imp fun v2 st2 g2 H2 e2 s2 p4 x2 rx2 => ?_⟩
        obtain ⟨dy, q4, p4⟩ := p4.pick
        obtain ⟨sy, q5, p4⟩ := p4.pick
        obtain ⟨z, q6, p4⟩ := p4.pick
        have q6' : (if (Str.empty ++ sx ++ s ++ sy).length ≤ LIM then some (Str.empty ++ sx ++ s ++ sy) else none) = some z := q6
        by_cases hz2 : (Str.empty ++ sx ++ s ++ sy).length ≤ LIM
        · rw [if_pos hz2] at q6'
          obtain rfl := Option.some.inj q6'
          have fin : ∃ y : Str, V.str sy = .str y ∧ (Str.empty ++ sx ++ s ++ y).length ≤ sizeLine ∧ Q (.str (Str.empty ++ sx ++ s ++ y)) H2 := ⟨sy, rfl, by rw [← lim_eq]; exact hz2, p4.same e2 (.str _)⟩
          rcases fmt_of e2 (e2.rd rx2 q4) q5 with ⟨y, rfl, hz3, rfl⟩ | ⟨i, rfl, hz3, rfl⟩
          · exact .inl ⟨_, rfl, hz3, fin⟩
          · exact .inr ⟨_, rfl, hz3, fin⟩
        · rw [if_neg hz2] at q6'; cases q6'
      rcases fmt_of e1 (e1.rd rx q1) q2 with ⟨y, rfl, hz2, rfl⟩ | ⟨i, rfl, hz2, rfl⟩
      · exact .inl ⟨_, rfl, hz2, _, rfl, rest⟩
      · exact .inr ⟨_, rfl, hz2, _, rfl, rest⟩
    · rw [if_neg hz] at q3'; cases q3'
theorem RepL.strs {R : RC} {F : Hp} : ∀ {ds : List D} {xs : List V} {ys : List Str}, RepL R F xs ds → strs? ds = some ys → xs = ys.map V.str
  | [], _, ys, .nil, h => by cases h; rfl
  | d :: ds, _, ys, .cons r k, h => by
    cases d <;> first
      | cases h
      | skip
    rename_i s
    have h' : (match strs? ds with
      | some r => some (s :: r)
      | none => none) = some ys := h
    cases q : strs? ds with
    | none => rw [q] at h'; cases h'
    | some l =>
      rw [q] at h'
      cases h'
      cases r
      rw [RepL.strs k q]
      rfl
theorem ok_join {a b : Ex} (ha : OK T G a) (hb : OK T G b) : OK T G (.join a b) := ok_val fun {sc calm B X W} C m e h => by
  have h0 : (match joinP e with
    | some (eo, ap, eb, cp) => !m && (notSuper eo && ((ap.endLine == cp.line) && (plainE eb && (chk T sc calm a false eo && chk T sc calm b false eb))))
    | none => false) = true := h
  cases q : joinP e with
  | none => rw [q] at h0; cases h0
  | some z =>
    obtain ⟨eo, ap, eb, cp⟩ := z
    rw [q] at h0
    obtain ⟨h1, h2⟩ := b2 h0
    obtain ⟨h2, h3⟩ := b2 h2
    obtain ⟨h3, h4⟩ := b2 h3
    obtain ⟨h4, h5⟩ := b2 h4
    obtain ⟨h5, h6⟩ := b2 h5
    have hm : m = false := by simpa using h1
    have he := joinP_ok q
    subst he
    refine ⟨hm, pe_of (pe_join ((ha C eo).1 h5) ((hb C eb).1 h6) (star_ok h4) (base_ok h2) h3) fun σ H Q ⟨g, ρ, st, er, p⟩ => ?_⟩
    have p2 : Pst B W g H σ ρ ((ev G a ρ st).bind fun x st => pick (dr st x) fun dx => pick (txt? dx) fun a => (ev G b ρ st).bind fun y st => pick (dr st y) fun dy => opRes (joinD a dy) st) (kV B Q) := p
    refine ⟨g, ρ, st, er, p2.bind.imp fun v st1 g1 H1 e1 s1 p3 x rx => ?_⟩
    obtain ⟨dx, q1, p3⟩ := p3.pick
    obtain ⟨z, q2, p3⟩ := p3.pick
    have r1 := e1.rd rx q1
    cases dx <;> first
      | cases q2
      | skip
    obtain rfl := r1.str
    refine ⟨⟨_, rfl⟩, g1, ρ, st1, e1, p3.bind.imp fun v2 st2 g2 H2 e2 s2 p4 x2 rx2 => ?_⟩
    obtain ⟨dy, q4, p4⟩ := p4.pick
    have r2 := e2.rd rx2 q4
    have key : ∀ {ds : List D} {p0 : Addr} {xs : List V} {F : Hp}, RepL B.R F xs ds → (SqL X.K H2 p0 xs ∨ SqT X.K H2 p0 xs) → Pst B W g2 H2 σ ρ (opRes (joinS z ds) st2) (kV B Q) → ∃ a p, ∃ ys : List Str, V.str z = .str a ∧ [V.ref p0] = [.ref p] ∧ (SqL X.K H2 p (ys.map V.str) ∨ SqT X.K H2 p (ys.map V.str)) ∧
      (ys.map (·.length)).sum + ys.length * a.length ≤ 16777216 ∧ Q (.str (Txt.join a ys)) H2 := by
      intro ds p0 xs F k hq p5
      have p6 : Pst B W g2 H2 σ ρ (opRes (match strs? ds with
        | some ys => if (ys.map (·.length)).sum + ys.length * z.length ≤ LIM then .d (.str (Txt.join z ys)) else .no
        | none => .no) st2) (kV B Q) := p5
      cases q5 : strs? ds with
      | none => rw [q5] at p6; exact p6.elim
      | some ys =>
        rw [q5] at p6
        have p7 : Pst B W g2 H2 σ ρ (opRes (if (ys.map (·.length)).sum + ys.length * z.length ≤ LIM then .d (.str (Txt.join z ys)) else .no) st2) (kV B Q) := p6
        by_cases hz : (ys.map (·.length)).sum + ys.length * z.length ≤ LIM
        · rw [if_pos hz] at p7
          have ex := k.strs q5
          subst ex
          exact ⟨z, p0, ys, rfl, rfl, hq, hz, p7.same e2 (.str _)⟩
        · rw [if_neg hz] at p7; exact p7.elim
    cases dy <;> first
      | exact p4.elim
      | skip
    · cases r2.tupRep with
      | tup s k => exact key k (.inr (by rw [C.K]; exact e2.le.sqT s)) p4
    · obtain ⟨a0, xs, rfl, s, k⟩ := r2.asL e2.le
      exact key k (.inl (by rw [C.K]; exact s)) p4

/-! ### kinds -/
theorem tyn_boot {x : Str} {n : String} (h : (x, n) ∈ tyNames) : bootBuiltins x = some (.type n) ∧ x ≠ "__name__" ∧ (x == ("__debug__" : Str)) = false := by
  have hh : ∀ p ∈ tyNames, bootBuiltins p.1 = some (.type p.2) ∧ p.1 ≠ "__name__" ∧ (p.1 == ("__debug__" : Str)) = false := by decide +kernel
  exact hh (x, n) h
theorem tyn_ok {sc : Scope} {calm : Bool} {B : Bs} {X : Cx} {W : WX} (C : Cxt T sc calm G B X W) {t : TyN} {et : Expr} (h : tynB T sc t et = true) : ∃ n, t = .ty n ∧ PE X et (tC (.ty n)) := by
  cases t with
  | own c => cases et <;> exact Bool.noConfusion (show false = true from h)
  | ty n =>
    cases et <;> first
      | exact Bool.noConfusion (show false = true from h)
      | skip
    rename_i x p
    obtain ⟨h1, h2⟩ := b2 h
    obtain ⟨h2, h3⟩ := b2 h2
    obtain ⟨b1, b2', b3⟩ := tyn_boot (of_decide_eq_true h1)
    exact ⟨n, rfl, pe_bltn (C.glob h3) (C.free _ (List.contains_iff_mem.mp h2)) b1 rfl b2' b3⟩
theorem isi_kit {R : RC} {d : D} {u : String} {exm : Str → Str → Option Bool} (hu : tyS d = some u) : ∀ {ts : List TyN} {b : Bool}, isiS exm d ts = some b → (∀ t ∈ ts, ∃ n, t = TyN.ty n) → PySem.W.kitAny R.K (.type u) (ts.map fun t => match t with | .ty n => Value.type n | .own _ => .none) = some b
  | [], b, h, _ => h
  | t :: ts, b, h, hn => by
    obtain ⟨n, rfl⟩ := hn t List.mem_cons_self
    have h' : (match (match tyS d with | some u => kitB u n | none => none) with | some true => some true | some false => isiS exm d ts | none => none) = some b := h
    rw [hu] at h'
    show (match PySem.W.kitOne R.K (.type u) (.type n) with | some true => some true | some false => PySem.W.kitAny R.K (.type u) (ts.map _) | none => none) = some b
    have e : PySem.W.kitOne R.K (.type u) (.type n) = kitB u n := rfl
    rw [e]
    cases q : kitB u n with
    | none => simp only [q] at h'; cases h'
    | some c =>
      simp only [q] at h' ⊢
      cases c with
      | true => exact h'
      | false => exact isi_kit hu h' fun t ht => hn t (List.mem_cons_of_mem _ ht)
theorem isi_some {exm : Str → Str → Option Bool} {d : D} {n : String} {ts : List TyN} {b : Bool} (h : isiS exm d (.ty n :: ts) = some b) : ∃ u, tyS d = some u := by
  cases q : tyS d with
  | some u => exact ⟨u, rfl⟩
  | none =>
    have h' : (match (match tyS d with | some u => kitB u n | none => none) with | some true => some true | some false => isiS exm d ts | none => none) = some b := h
    rw [q] at h'
    cases h'
def tynV : TyN → V
  | .ty n => .ty n
  | .own _ => .non
theorem tyns_ok {sc : Scope} {calm : Bool} {B : Bs} {X : Cx} {W : WX} (C : Cxt T sc calm G B X W) : ∀ {ts : List TyN} {ets : List Expr}, tynsB T sc ts ets = true → (∀ t ∈ ts, ∃ n, t = TyN.ty n) ∧ PA X ets (fun _ H Q => Q (ts.map tynV) H)
  | [], [], _ => ⟨fun t ht => (by cases ht), pa_of pa_nil fun σ H Q q => q⟩
  | [], _ :: _, h => Bool.noConfusion (show false = true from h)
  | _ :: _, [], h => Bool.noConfusion (show false = true from h)
  | t :: ts, e :: es, h => by
    obtain ⟨h1, h2⟩ := b2 h
    obtain ⟨h2, h3⟩ := b2 h2
    obtain ⟨n, rfl, p⟩ := tyn_ok C h1
    obtain ⟨a1, a2⟩ := tyns_ok C h3
    refine ⟨fun t ht => ?_, pa_of (pa_cons p a2 (star_ok h2)) fun σ H Q q => q⟩
    rcases List.mem_cons.mp ht with rfl | ht
    · exact ⟨n, rfl⟩
    · exact a1 t ht
theorem ok_isi {a : Ex} (ha : OK T G a) (ts : List TyN) (tp : Bool) : OK T G (.isi a ts tp) := ok_gen fun {sc calm B X W} C m e h => by
  obtain ⟨p0, ea, et, pos, rfl, h1, h2, h3, h4, h5, h6⟩ := chk_isi h
  refine ⟨?_, fun _ => rfl⟩
  have gl : Gl X "isinstance" := C.glob h2
  have fr := C.free _ (List.contains_iff_mem.mp h1)
  have hpl : ∀ {env : Env}, (backTo pos (starEach [et] env)).any (·.1) = false := fun {env} => by rw [star_ok h4] <;> rfl
  have start : ∀ {σ : L2.St} {H : Hp} {Q : VK} {t : V → Hp → Prop}, tE B W (ev G (.isi a ts tp)) σ H Q →
      (∀ g H ρ st x d b, ER B g H σ ρ st → RdV B.R g.F H x d → isiS G.exm d ts = some b → Pst B W g H σ ρ (.ok (.fz (.bl b)) st) (kV B Q) → t x H) → tE B W (ev G a) σ H t := fun {σ H Q t} ⟨g, ρ, st, er, p⟩ hk => by
    have p' : Pst B W g H σ ρ ((ev G a ρ st).bind fun x st => pick (dr st x) fun d => pick (isiS G.exm d ts) fun r => Res.ok (Val.fz (D.bl r)) st) (kV B Q) := p
    refine ⟨g, ρ, st, er, p'.bind.imp fun v st1 g1 H1 e1 s1 p1 x rx => ?_⟩
    obtain ⟨d, q1, p1⟩ := p1.pick
    obtain ⟨b, q2, p1⟩ := p1.pick
    exact hk g1 H1 ρ st1 x d b e1 (e1.rd rx q1) q2 p1
  rcases h6 with ⟨t, rfl, h6⟩ | ⟨ets, k, p2, rfl, h8, h9, h6⟩
  · obtain ⟨n, rfl, pt⟩ := tyn_ok C h6
    refine pe_of (pe_callB call_isi gl fr (by decide +kernel) (pa_cons ((ha C ea).1 h5) (pa_cons pt pa_nil (star_ok h4)) (star_ok h3)) (by decide) (by decide) (star_ok h3) hpl) fun σ H Q q => start q fun g H ρ st x d b er r e q => ?_
    obtain ⟨u, hu⟩ := isi_some e
    have kk := isi_kit (R := B.R) hu e (fun t ht => ⟨n, by simpa using ht⟩)
    refine ⟨x, .ty n, .type u, .type n, b, rfl, .ty n, by rw [C.K]; exact r.ty er.le hu, ?_, q.same er (.bl b)⟩
    have kk' : (match PySem.W.kitOne B.R.K (.type u) (.type n) with | some true => some true | some false => some false | none => none) = some b := kk
    rw [C.K]
    cases z : PySem.W.kitOne B.R.K (.type u) (.type n) with
    | none => rw [z] at kk'; cases kk'
    | some c => rw [z] at kk'; cases c <;> exact kk'
  · obtain ⟨a1, a2⟩ := tyns_ok C h6
    refine pe_of (pe_callB call_isiT gl fr (by decide +kernel) (pa_cons ((ha C ea).1 h5) (pa_cons (pe_tup a2) pa_nil (star_ok h4)) (star_ok h3)) (by decide) (by decide) (star_ok h3) hpl) fun σ H Q q => start q fun g H ρ st x d b er r e pq => ?_
    refine ⟨?_, fun p hp => ?_⟩
    · rw [List.length_map, ← lim_eq]
      exact Nat.le_trans h8 (by decide)
    · obtain ⟨er2, s2⟩ := er.lay (o := .tup (ts.map tynV)) hp
      cases ts with
      | nil => exact absurd rfl h9
      | cons t ts =>
        obtain ⟨n, rfl⟩ := a1 t List.mem_cons_self
        obtain ⟨u, hu⟩ := isi_some e
        have kk := isi_kit (R := B.R) hu e a1
        have r2 : RdV B.R (upd g.F p (.tup ((TyN.ty n :: ts).map tynV))) (upd H p (.tup ((TyN.ty n :: ts).map tynV))) x d := by
          have hx : ∀ a, H a ≠ none → upd H p (.tup ((TyN.ty n :: ts).map tynV)) a = H a := fun a ha => upd_ne fun z => ha (by rw [z]; exact hp)
          have fx : ∀ a, H a ≠ none → g.F a = none → upd g.F p (.tup ((TyN.ty n :: ts).map tynV)) a = none := fun a ha hf => by
            rw [upd_ne fun z => ha (by rw [z]; exact hp)]; exact hf
          cases r with
          | rep r => exact .rep (r.mono s2.le.F)
          | lst f h k => exact .lst (fx _ (by rw [h]; intro z; cases z) f) (by rw [hx _ (by rw [h]; intro z; cases z)]; exact h) (k.mono s2.le.F)
          | dct f h k l => exact .dct (fx _ (by rw [h]; intro z; cases z) f) (by rw [hx _ (by rw [h]; intro z; cases z)]; exact h) k (l.mono s2.le.F)
        refine ⟨x, p, _, .type u, (TyN.ty n :: ts).map (fun t => match t with | .ty n => Value.type n | .own _ => .none), b, rfl, upd_same, ?_, by rw [C.K]; exact r2.ty er2.le hu, by rw [C.K]; exact kk, pq.here er2 s2 (.bl b) (Rep.bl b)⟩
        have : ∀ {l : List TyN}, (∀ t ∈ l, ∃ n, t = TyN.ty n) → Paired ClsV (l.map tynV) (l.map (fun t => match t with | .ty n => Value.type n | .own _ => .none)) := fun {l} hl => by
          induction l with
          | nil => exact .nil
          | cons t l ih =>
            obtain ⟨n, rfl⟩ := hl t List.mem_cons_self
            exact .cons (.ty n) (ih fun t ht => hl t (List.mem_cons_of_mem _ ht))
        exact this a1

/-! ### the exception that a suite holds -/
theorem pe_never {X : Cx} {e : Expr} {t : TE} (h : ∀ σ H Q, ¬ t σ H Q) : PE X e t := ⟨fun pins s σ H Q I z => (h σ H Q z).elim⟩
def rIsX (K : PySem.W.Frag) (a : Addr) (cls : Value) (dd : Option Addr) : List V → Hp → VK → Prop := fun xs H Q => ∃ (D : Addr) (c : V) (cv : Value) (b : Bool), cls = .ref D ∧ ExcC K D ∧ (dd = none ∨ ∃ dx fs, dd = some dx ∧ H dx = some (.xd fs)) ∧ xs = [.ref a, c] ∧ ClsV c cv ∧ PySem.W.kitOne K (.ref D) cv = some b ∧ Q (.bl b) H
def rIsXT (K : PySem.W.Frag) (a : Addr) (cls : Value) (dd : Option Addr) : List V → Hp → VK → Prop := fun xs H Q => ∃ (D tp : Addr) (cs : List V) (us : List Value) (b : Bool), cls = .ref D ∧ ExcC K D ∧ (dd = none ∨ ∃ dx fs, dd = some dx ∧ H dx = some (.xd fs)) ∧ xs = [.ref a, .ref tp] ∧ H tp = some (.tup cs) ∧ Paired ClsV cs us ∧ PySem.W.kitAny K (.ref D) us = some b ∧ Q (.bl b) H
theorem inst_x {X : Cx} {a D : Addr} {dd : Option Addr} {oe : Obj} {pins : List (Addr × Obj)} {σ : L2.St} {H : Hp} {s : Shared} (hz : Zc (.ref D) dd oe) (hf : ∃ vs, oe.data = .fields vs) (hp : (a, oe) ∈ X.pn) (I : L2.Inv X pins σ H s) (hd : dd = none ∨ ∃ dx fs, dd = some dx ∧ H dx = some (.xd fs)) : ∃ od, PySem.W.InstAt s.heap a oe D od := by
  obtain ⟨hget, _⟩ := I.pin (a, oe) (List.mem_append.mpr (.inl hp))
  obtain ⟨vs, hv⟩ := hf
  rcases hd with rfl | ⟨dx, fs, rfl, hx⟩
  · refine ⟨none, hget, hz.1, by unfold PySem.W.notCls; rw [hv] <;> rfl, ?_⟩
    rw [hz.2]
    trivial
  · have hx : ObjOk X.prog X.w H s.heap dx (.xd fs) := I.hok dx _ hx
    obtain ⟨mA, hns, hr⟩ := hx
    obtain ⟨od, ho, hl⟩ := lookIn_ns hns
    exact ⟨some od, hget, hz.1, by unfold PySem.W.notCls; rw [hv] <;> rfl, by rw [hz.2]; exact ho⟩
theorem kit_x {K : PySem.W.Frag} {D a : Addr} {oe : Obj} {od : Option Obj} (E : ExcC K D) : PySem.W.KitX K (.ref a) (.ref D) (fun h => PySem.W.InstAt h a oe D od) := by
  obtain ⟨cd, hc, _⟩ := PySem.W.any_some E.hd
  exact PySem.W.kitx_exc (by rw [hc]; rfl) E.hg E.hk E.hs E.ha E.hn E.ht E.hm
theorem call_isX {X : Cx} {a : Addr} {cls : Value} {dd : Option Addr} {oe : Obj} (hz : Zc cls dd oe) (hf : ∃ vs, oe.data = .fields vs) (hp : (a, oe) ∈ X.pn) : CallR X (.builtin "isinstance") (rIsX X.K a cls dd) := by
  intro pins s σ H xs us Q I r h
  obtain ⟨D, c, cv, b, rfl, E, hd, rfl, k, e, q⟩ := h
  obtain ⟨u1, u2, rfl, r1, r2⟩ := vals2 r
  have e2 := k.eq r2
  subst e2
  cases (show u1 = Value.ref a from r1)
  obtain ⟨od, J⟩ := inst_x hz hf hp I hd
  exact PySem.W.kia_one (kit_x E) I.kIn J e (fun z => nomatch z) fun tk => ⟨.bl b, H, I.tok tk, rfl, q⟩
theorem call_isXT {X : Cx} {a : Addr} {cls : Value} {dd : Option Addr} {oe : Obj} (hz : Zc cls dd oe) (hf : ∃ vs, oe.data = .fields vs) (hp : (a, oe) ∈ X.pn) : CallR X (.builtin "isinstance") (rIsXT X.K a cls dd) := by
  intro pins s σ H xs us Q I r h
  obtain ⟨D, tp, cs, ws, b, rfl, E, hd, rfl, hT, k, e, q⟩ := h
  obtain ⟨u1, u2, rfl, r1, r2⟩ := vals2 r
  cases (show u1 = Value.ref a from r1)
  cases (show u2 = Value.ref tp from r2)
  obtain ⟨od, J⟩ := inst_x hz hf hp I hd
  obtain ⟨_, its, rv, o, h1, h2, n, h3⟩ := (show ObjOk X.prog X.w H s.heap tp (.tup cs) from I.hok tp _ hT)
  have e3 := ClsV.all k rv
  subst e3
  obtain ⟨oc, od', dt, sl⟩ := o
  simp only at h2 h3
  subst h2 h3
  exact PySem.W.kia_tup (kit_x E) I.kIn J h1 e (fun z => nomatch z) fun tk => ⟨.bl b, H, I.tok tk, rfl, q⟩
theorem cls_ok {sc : Scope} {calm : Bool} {B : Bs} {X : Cx} {W : WX} (C : Cxt T sc calm G B X W) {c : Str} {e : Expr} (h : clsB T sc c e = true) : ∃ A, X.mg c = some (.ref A) ∧ PE X e (tC (.ref A)) ∧ plainE e = true := by
  cases e <;> first
    | exact Bool.noConfusion (show false = true from h)
    | skip
  rename_i x p
  obtain ⟨h1, h2⟩ := b2 h
  obtain ⟨h2, h3⟩ := b2 h2
  obtain ⟨h3, h4⟩ := b2 h3
  have hx : c = x := of_decide_eq_true h1
  subst hx
  obtain ⟨A, hA⟩ := C.exn c (List.contains_iff_mem.mp h2)
  obtain ⟨n1, _, _, _⟩ := seen_ok h4
  exact ⟨A, hA, pe_glob (v := .ref A) (C.glob h3) hA rfl n1, rfl⟩
theorem clss_ok {sc : Scope} {calm : Bool} {B : Bs} {X : Cx} {W : WX} (C : Cxt T sc calm G B X W) : ∀ {cs : List Str} {es : List Expr}, clssB T sc cs es = true → ∃ As : List Addr, Paired (fun c A => X.mg c = some (.ref A)) cs As ∧ PA X es (fun _ H Q => Q (As.map V.ref) H)
  | [], [], _ => ⟨[], .nil, pa_of pa_nil fun σ H Q q => q⟩
  | [], _ :: _, h => Bool.noConfusion (show false = true from h)
  | _ :: _, [], h => Bool.noConfusion (show false = true from h)
  | c :: cs, e :: es, h => by
    obtain ⟨h1, h2⟩ := b2 h
    obtain ⟨A, hA, p, pl⟩ := cls_ok C h1
    obtain ⟨As, hAs, ps⟩ := clss_ok C h2
    exact ⟨A :: As, .cons hA hAs, pa_of (pa_cons p ps (star_ok pl)) fun σ H Q q => q⟩
theorem isx_any {sc : Scope} {calm : Bool} {B : Bs} {X : Cx} {W : WX} (C : Cxt T sc calm G B X W) {c : Str} {D : Addr} (hD : X.mg c = some (.ref D)) : ∀ {ts : List Str} {As : List Addr} {b : Bool}, Paired (fun c A => X.mg c = some (.ref A)) ts As → isxS G.exm c ts = some b → PySem.W.kitAny X.K (.ref D) (As.map Value.ref) = some b
  | [], _, b, .nil, h => h
  | t :: ts, _, b, .cons (b := A) hA r, h => by
    have h' : (match G.exm c t with | some true => some true | some false => isxS G.exm c ts | none => none) = some b := h
    cases q : G.exm c t with
    | none => rw [q] at h'; cases h'
    | some v =>
      obtain ⟨D', A', e1, e2, e3, _⟩ := C.exm c t v q
      rw [hD] at e1; cases e1
      rw [hA] at e2; cases e2
      rw [q] at h'
      show (match PySem.W.kitOne X.K (.ref D) (.ref A) with | some true => some true | some false => PySem.W.kitAny X.K (.ref D) _ | none => none) = some b
      rw [e3]
      cases v with
      | true => exact h'
      | false => exact isx_any C hD r h'
theorem isx_E {sc : Scope} {calm : Bool} {B : Bs} {X : Cx} {W : WX} (C : Cxt T sc calm G B X W) {c : Str} {D : Addr} (hD : X.mg c = some (.ref D)) {t : Str} {ts : List Str} {b : Bool} (h : isxS G.exm c (t :: ts) = some b) : ExcC X.K D := by
  have h' : (match G.exm c t with | some true => some true | some false => isxS G.exm c ts | none => none) = some b := h
  cases q : G.exm c t with
  | none => rw [q] at h'; cases h'
  | some v =>
    obtain ⟨D', A', e1, e2, e3, _, E⟩ := C.exm c t v q
    rw [hD] at e1; cases e1
    exact E
theorem exn_slot {B : Bs} {g : Gh} {H : Hp} {σ : L2.St} {ρ : Slots} {st : Store} (er : ER B g H σ ρ st) {i : Nat} {x : XD} (q : ρ[i]? = some (some (.exn x))) : ∃ a cls dd, B.ex = some (a, cls, dd) ∧ σ[i]? = some (some (.ref a)) ∧ XR B.R g.F x cls dd := by
  have hi : i < σ.length := by
    rw [er.slen]; exact (List.getElem?_eq_some_iff.mp q).1
  obtain ⟨y, e1, a, cls, dd, e2, e3, r⟩ := er.slots i _ _ (List.getElem?_eq_getElem hi) q
  exact ⟨a, cls, dd, e2, by rw [List.getElem?_eq_getElem hi, e1, e3], r⟩
theorem xd_H {R : RC} {F H : Hp} (l : Le F H) {x : XD} {cls : Value} {dd : Option Addr} (r : XR R F x cls dd) : dd = none ∨ ∃ dx fs, dd = some dx ∧ H dx = some (.xd fs) := by
  obtain ⟨_, ⟨_, h⟩ | ⟨d, fvs, h, e, _⟩⟩ := r
  · exact .inl h
  · rcases l d _ e with q | ⟨z, _⟩
    · exact .inr ⟨d, fvs, h, q⟩
    · cases z
theorem ok_isx (i : Nat) (ts : List Str) (tp : Bool) : OK T G (.isx i ts tp) := ok_gen fun {sc calm B X W} C m e h => by
  obtain ⟨p0, y, py, et, pos, rfl, hc, h1, h2, h3, h4, h5, h6, h7⟩ := chk_isx h
  refine ⟨?_, fun _ => rfl⟩
  have gl : Gl X "isinstance" := C.glob h2
  have fr := C.free _ (List.contains_iff_mem.mp h1)
  obtain ⟨n1, n2, _, _⟩ := seen_ok h5
  have read : ∀ {σ : L2.St} {H : Hp} {Q : VK}, tE B W (ev G (.isx i ts tp)) σ H Q → ∃ g ρ st x b a cls dd, ER B g H σ ρ st ∧ isxS G.exm x.cls ts = some b ∧ Pst B W g H σ ρ (.ok (.fz (.bl b)) st) (kV B Q) ∧ B.ex = some (a, cls, dd) ∧ σ[i]? = some (some (.ref a)) ∧ XR B.R g.F x cls dd := fun {σ H Q} ⟨g, ρ, st, er, p⟩ => by
    have p' : Pst B W g H σ ρ (match ρ[i]? with
      | some (some (.exn x)) => pick (isxS G.exm x.cls ts) fun r => Res.ok (Val.fz (D.bl r)) st
      | _ => .stuck) (kV B Q) := p
    cases q : ρ[i]? with
    | none => simp only [q] at p'; exact p'.elim
    | some o =>
      cases o with
      | none => simp only [q] at p'; exact p'.elim
      | some v =>
        cases v with
        | fz _ => simp only [q] at p'; exact p'.elim
        | loc _ => simp only [q] at p'; exact p'.elim
        | exn x =>
          simp only [q] at p'
          obtain ⟨b, q1, p1⟩ := p'.pick
          obtain ⟨a, cls, dd, e1, e2, e3⟩ := exn_slot er q
          exact ⟨g, ρ, st, x, b, a, cls, dd, er, q1, p1, e1, e2, e3⟩
  cases hex : B.ex with
  | none =>
      refine pe_never fun σ H Q q => ?_
      obtain ⟨g, ρ, st, x, b, a, cls, dd, er, q1, p1, e1, _⟩ := read q
      rw [hex] at e1; cases e1
  | some z =>
    obtain ⟨a, cls, dd⟩ := z
    obtain ⟨oe, hz, hf, hp⟩ := C.exI hc a cls dd hex
    have pv : PE X (.Name y py) (tVar i) := pe_var (i := i) (by rw [C.N]; exact h3) (C.vis h4) n1 n2
    rcases h7 with ⟨t, rfl, h7⟩ | ⟨ets, k, p2, rfl, h8, h9, h7⟩
    · obtain ⟨A, hA, pt, pl⟩ := cls_ok C h7
      refine pe_of (pe_callB (call_isX hz hf hp) gl fr (by decide +kernel) (pa_cons pv (pa_cons pt pa_nil (star_ok h6)) rfl) (by decide) (by decide) rfl (by rw [star_ok h6] <;> rfl)) fun σ H Q q => ?_
      obtain ⟨g, ρ, st, x, b, a', cls', dd', er, q1, p1, e1, e2, xr⟩ := read q
      rw [hex] at e1; cases e1
      obtain ⟨D, hD, rfl⟩ := xr.1
      have hD' : X.mg x.cls = some (.ref D) := by rw [C.mg]; exact hD
      have kk := isx_any C hD' (ts := [t]) (As := [A]) (.cons hA .nil) q1
      refine ⟨.ref a, e2, D, .ref A, .ref A, b, rfl, isx_E C hD' q1, xd_H er.le xr, rfl, .own A, ?_, p1.same er (.bl b)⟩
      have kk' : (match PySem.W.kitOne X.K (.ref D) (.ref A) with | some true => some true | some false => some false | none => none) = some b := kk
      cases z : PySem.W.kitOne X.K (.ref D) (.ref A) with
      | none => rw [z] at kk'; cases kk'
      | some c => rw [z] at kk'; cases c <;> exact kk'
    · obtain ⟨As, hAs, pt⟩ := clss_ok C h7
      have lAs : ∀ {ts : List Str} {As : List Addr}, Paired (fun c A => X.mg c = some (.ref A)) ts As → ts.length = As.length := fun {ts As} p => by
        induction p with
        | nil => rfl
        | cons _ _ ih => exact congrArg Nat.succ ih
      refine pe_of (pe_callB (call_isXT hz hf hp) gl fr (by decide +kernel) (pa_cons pv (pa_cons (pe_tup pt) pa_nil (star_ok h6)) rfl) (by decide) (by decide) rfl (by rw [star_ok h6] <;> rfl)) fun σ H Q q => ?_
      obtain ⟨g, ρ, st, x, b, a', cls', dd', er, q1, p1, e1, e2, xr⟩ := read q
      rw [hex] at e1; cases e1
      refine ⟨.ref a, e2, ?_, fun p hp' => ?_⟩
      · rw [List.length_map, ← lAs hAs, ← lim_eq]
        exact Nat.le_trans h8 (by decide)
      · obtain ⟨er2, s2⟩ := er.lay (o := .tup (As.map V.ref)) hp'
        obtain ⟨D, hD, rfl⟩ := xr.1
        have hD' : X.mg x.cls = some (.ref D) := by rw [C.mg]; exact hD
        have hE : ExcC X.K D := by
          cases ts with
          | nil => exact absurd rfl h9
          | cons t ts => exact isx_E C hD' q1
        have pr : ∀ As : List Addr, Paired ClsV (As.map V.ref) (As.map Value.ref) := fun As => by
          induction As with
          | nil => exact .nil
          | cons A As ih => exact .cons (.own A) ih
        exact ⟨D, p, _, _, b, rfl, hE, xd_H er2.le (xr.mono s2.le.F), rfl, upd_same, pr As, isx_any C hD' hAs q1, p1.here er2 s2 (.bl b) (Rep.bl b)⟩
theorem ok_isv (i : Nat) (n : String) : OK T G (.isv i n) := ok_gen fun {sc calm B X W} C m e h => by
  obtain ⟨p0, y, py, et, pos, rfl, hc, h1, h2, h3, h4, h5, h6, h7⟩ := chk_isv h
  refine ⟨?_, fun _ => rfl⟩
  have gl : Gl X "isinstance" := C.glob h2
  have fr := C.free _ (List.contains_iff_mem.mp h1)
  obtain ⟨n1, n2, _, _⟩ := seen_ok h5
  have read : ∀ {σ : L2.St} {H : Hp} {Q : VK}, tE B W (ev G (.isv i n)) σ H Q → ∃ g ρ st x b a cls dd, ER B g H σ ρ st ∧ G.exv x.cls n = some b ∧ Pst B W g H σ ρ (.ok (.fz (.bl b)) st) (kV B Q) ∧ B.ex = some (a, cls, dd) ∧ σ[i]? = some (some (.ref a)) ∧ XR B.R g.F x cls dd := fun {σ H Q} ⟨g, ρ, st, er, p⟩ => by
    have p' : Pst B W g H σ ρ (match ρ[i]? with
      | some (some (.exn x)) => pick (G.exv x.cls n) fun r => Res.ok (Val.fz (D.bl r)) st
      | _ => .stuck) (kV B Q) := p
    cases q : ρ[i]? with
    | none => simp only [q] at p'; exact p'.elim
    | some o =>
      cases o with
      | none => simp only [q] at p'; exact p'.elim
      | some v =>
        cases v with
        | fz _ => simp only [q] at p'; exact p'.elim
        | loc _ => simp only [q] at p'; exact p'.elim
        | exn x =>
          simp only [q] at p'
          obtain ⟨b, q1, p1⟩ := p'.pick
          obtain ⟨a, cls, dd, e1, e2, e3⟩ := exn_slot er q
          exact ⟨g, ρ, st, x, b, a, cls, dd, er, q1, p1, e1, e2, e3⟩
  cases hex : B.ex with
  | none =>
      refine pe_never fun σ H Q q => ?_
      obtain ⟨g, ρ, st, x, b, a, cls, dd, er, q1, p1, e1, _⟩ := read q
      rw [hex] at e1; cases e1
  | some z =>
    obtain ⟨a, cls, dd⟩ := z
    obtain ⟨oe, hz, hf, hp⟩ := C.exI hc a cls dd hex
    have pv : PE X (.Name y py) (tVar i) := pe_var (i := i) (by rw [C.N]; exact h3) (C.vis h4) n1 n2
    obtain ⟨n', hn', pt⟩ := tyn_ok C h7
    cases hn'
    refine pe_of (pe_callB (call_isX hz hf hp) gl fr (by decide +kernel) (pa_cons pv (pa_cons pt pa_nil (star_ok h6)) rfl) (by decide) (by decide) rfl (by rw [star_ok h6] <;> rfl)) fun σ H Q q => ?_
    obtain ⟨g, ρ, st, x, b, a', cls', dd', er, q1, p1, e1, e2, xr⟩ := read q
    rw [hex] at e1; cases e1
    obtain ⟨D, hD, rfl⟩ := xr.1
    obtain ⟨D', k1, k2, k3⟩ := C.exv _ _ _ q1
    rw [C.mg, hD] at k1
    cases k1
    exact ⟨.ref a, e2, D, .ty n, .type n, b, rfl, k3, xd_H er.le xr, rfl, .ty n, k2, p1.same er (.bl b)⟩
def tXfd (a : Addr) (cls : Value) (d : Option Addr) (K : PySem.W.Frag) (f : Str) (te : TE) : TE := fun σ H Q => te σ H fun x H1 => ∃ C, XfC K C ∧ PySem.W.findIn K (.ref C) f = some none ∧ x = .ref a ∧ cls = .ref C ∧ ∃ (dd : Addr) (fs : List (Str × V)) (v : V), d = some dd ∧ H1 dd = some (.xd fs) ∧ fs.lookup f = some v ∧ Q v H1
theorem pe_xfd {X : Cx} {a : Addr} {oe : Obj} {cls : Value} {d : Option Addr} {e : Expr} {te : TE} {pos : Pos} {n : Str}
    (hz : Zc cls d oe) (hf : ∃ vs, oe.data = .fields vs) (hp : (a, oe) ∈ X.pn) (he : PE X e te) (hb : attributeBase e n X.env (eval e X.env) = eval e X.env) :
    PE X (.Attribute e n pos) (tXfd a cls d X.K n te) := by
  refine ⟨fun pins s σ H Q I h => ?_⟩
  refine attr_of hb (thn (he.run pins s σ H _ I h) fun u s1 hh => ?_)
  obtain ⟨x, H1, I1, rx, C, T, hno, ex, ec, dd, fs, v, ed, ea, l, q⟩ := hh
  subst ex
  obtain rfl : u = Value.ref a := rx
  subst ec
  subst ed
  obtain ⟨ha, _⟩ := I1.pin (a, oe) (List.mem_append_left _ hp)
  obtain ⟨vs, hd⟩ := hf
  have hx : ObjOk X.prog X.w H1 s1.heap dd (.xd fs) := I1.hok dd _ ea
  obtain ⟨mA, hns, hr⟩ := hx
  obtain ⟨od, ho, hl⟩ := lookIn_ns hns
  obtain ⟨u, hu, ru⟩ := RelO.some_of (v := v) (o := mA n) (by rw [← l]; exact hr n)
  have J : PySem.W.InstAt s1.heap a oe C (some od) := ⟨ha, hz.1, by unfold PySem.W.notCls; rw [hd] <;> rfl, by rw [hz.2]; exact ho⟩
  exact HandSPX.exc_get I1.kIn J T.ga T.gg T.exC (PySem.W.findObj_own T.hdC hno rfl (by rw [hl, hu])) (handed_of ru) ⟨v, H1, I1.tok _, ru, q⟩
theorem lookup_zip {F : Hp} {R : RC} {f : Str} : ∀ {fvs : List (Str × V)} {fs : List (Str × D)} {d : D}, fvs.map (·.1) = fs.map (·.1) → RepL R F (fvs.map (·.2)) (fs.map (·.2)) → fs.lookup f = some d → ∃ v, fvs.lookup f = some v ∧ Rep R F v d
  | [], [], _, _, _, h => by cases h
  | [], _ :: _, _, e, _, _ => by cases e
  | _ :: _, [], _, e, _, _ => by cases e
  | (n, v) :: fvs, (n', d') :: fs, d, e, .cons r l, h => by
    obtain ⟨e1, e2⟩ := List.cons.inj e
    have e1' : n = n' := e1
    subst e1'
    by_cases hf : (f == n) = true
    · have : f = n := eq_of_beq hf
      subst this
      simp [List.lookup] at h ⊢
      subst h
      exact r
    · have hf' : (f == n) = false := by simpa using hf
      simp only [List.lookup, hf'] at h ⊢
      exact lookup_zip e2 l h
theorem ok_xfld (i : Nat) (f : Str) : OK T G (.xfld i f) := ok_gen fun {sc calm B X W} C m e h => by
  obtain ⟨y, py, p, rfl, hm, hc, h3, h4, h5, h6⟩ := chk_xfld h
  subst hm
  refine ⟨?_, fun z => by cases z⟩
  obtain ⟨n1, n2, _, _⟩ := seen_ok h5
  have read : ∀ {σ : L2.St} {H : Hp} {Q : VK}, tE B W (ev G (.xfld i f)) σ H Q → ∃ g ρ st x d a cls dd, ER B g H σ ρ st ∧ G.xfl x.cls f = true ∧ x.fs.lookup f = some d ∧ Pst B W g H σ ρ (.ok (.fz d) st) (kV B Q) ∧ B.ex = some (a, cls, dd) ∧ σ[i]? = some (some (.ref a)) ∧ XR B.R g.F x cls dd := fun {σ H Q} ⟨g, ρ, st, er, p⟩ => by
    have p' : Pst B W g H σ ρ (match ρ[i]? with
      | some (some (.exn x)) => if G.xfl x.cls f = true then pick (x.fs.lookup f) fun d => Res.ok (Val.fz d) st else .stuck
      | _ => .stuck) (kV B Q) := p
    cases q : ρ[i]? with
    | none => simp only [q] at p'; exact p'.elim
    | some o =>
      cases o with
      | none => simp only [q] at p'; exact p'.elim
      | some v =>
        cases v with
        | fz _ => simp only [q] at p'; exact p'.elim
        | loc _ => simp only [q] at p'; exact p'.elim
        | exn x =>
          simp only [q] at p'
          obtain ⟨hx, p1⟩ := pst_if p'
          obtain ⟨b, q1, p1⟩ := p1.pick
          obtain ⟨a, cls, dd, e1, e2, e3⟩ := exn_slot er q
          exact ⟨g, ρ, st, x, b, a, cls, dd, er, hx, q1, p1, e1, e2, e3⟩
  cases hex : B.ex with
  | none =>
      refine pe_never fun σ H Q q => ?_
      obtain ⟨g, ρ, st, x, b, a, cls, dd, er, q0, q1, p1, e1, _⟩ := read q
      rw [hex] at e1; cases e1
  | some z =>
    obtain ⟨a, cls, dd⟩ := z
    obtain ⟨oe, hz, hf, hp⟩ := C.exI hc a cls dd hex
    have pv : PE X (.Name y py) (tVar i) := pe_var (i := i) (by rw [C.N]; exact h3) (C.vis h4) n1 n2
    refine pe_of (pe_xfd hz hf hp pv rfl) fun σ H Q q => ?_
    obtain ⟨g, ρ, st, x, d, a', cls', dd', er, q0, q1, p1, e1, e2, xr⟩ := read q
    rw [hex] at e1; cases e1
    obtain ⟨D, hD, rfl⟩ := xr.1
    obtain ⟨D', hD', T, hno⟩ := C.xf _ _ q0
    rw [C.mg, hD] at hD'
    cases hD'
    refine ⟨.ref a, e2, D, T, hno, rfl, rfl, ?_⟩
    rcases xr.2 with ⟨z, _⟩ | ⟨dx, fvs, rfl, hF, k, l⟩
    · rw [z] at q1; cases q1
    · obtain ⟨v, hv, rv⟩ := lookup_zip k l q1
      rcases er.le dx _ hF with hH | ⟨z, _⟩
      · exact ⟨dx, fvs, v, rfl, hH, hv, p1.same er rv⟩
      · cases z
end
end PD

/-! PD12 -/
set_option Elab.async false
set_option linter.all false
set_option maxRecDepth 100000
set_option maxHeartbeats 4000000
/-! PD: what is walked; targets; list comprehensions. -/
namespace PD
open PySem PySem.Spec PyProof.Rows L2

/-- the model's iterator of ours -/
inductive ItOk (R : RC) (E : ExH) (g : Gh) : Iter → L2.It → Prop
  | rng (lo : Int) (n : Nat) : ItOk R E g (.rng lo n) (Itr lo n)
  | lst {a : Addr} {v : Val} : ValR R E g.F g.A (.ref a) v → ItOk R E g (.lst v) (Itl R.K a)
  | tup {a : Addr} {ds : List D} : Rep R g.F (.ref a) (.tup ds) → ItOk R E g (.tup ds) (Itt R.K a)
  | str (s : Str) : ItOk R E g (.str s) (Its s)
end PD
namespace PD
open PySem PySem.Spec PyProof.Rows L2
theorem ItOk.up {R : RC} {E : ExH} {g g' : Gh} {I : Iter} {J : L2.It} (l : g.le g') (h : ItOk R E g I J) : ItOk R E g' I J := by
  cases h with
  | rng lo n => exact .rng lo n
  | lst h => exact .lst (h.up l)
  | tup h => exact .tup (h.mono l.F)
  | str s => exact .str s
def tI (B : Bs) (W : WX) (c : Slots → Store → Res Iter) : TI := fun σ H Rr => ∃ g ρ st, ER B g H σ ρ st ∧ Pst B W g H σ ρ (c ρ st) fun I _ g' H' => ∀ J, ItOk B.R B.ex g' I J → Rr J H'

section
variable {B : Bs} {W : WX} {g : Gh} {H : Hp} {σ : L2.St} {ρ : Slots} {st : Store}
theorem it_go (e : ER B g H σ ρ st) {I : Iter} {J : L2.It} {i n : Nat} {d : D} (h : ItOk B.R B.ex g I J) (hn : I.size st = some n) (hi : i < n) (hd : I.at st i = some d) :
    J.go i H ∧ ∀ x H', J.yld i H x H' → H' = H ∧ Rep B.R g.F x d := by
  have le := e.le
  cases h with
  | rng lo m =>
    cases hn
    cases hd
    refine ⟨hi, fun x H' y => ⟨y.1, ?_⟩⟩
    rw [y.2]; exact .int _
  | @lst a v hv =>
    cases q : dr st v with
    | none => simp only [Iter.size, q] at hn; cases hn
    | some dv =>
      have r := e.rd hv q
      cases dv with
      | lst ds =>
        simp only [Iter.size, q] at hn
        simp only [Iter.at, q] at hd
        obtain ⟨a', xs, e1, s, k⟩ := r.asL le
        cases e1
        obtain ⟨v', hv', rv⟩ := k.get hd
        exact ⟨⟨xs, v', s, hv'⟩, fun x H' y => ⟨y.1, by
          have := y.2 xs s
          rw [hv'] at this; cases this
          exact rv⟩⟩
      | _ => simp only [Iter.size, q] at hn; cases hn
  | @tup a ds hv =>
    cases hn
    cases hv with
    | tup s k =>
      obtain ⟨v', hv', rv⟩ := k.get (show ds[i]? = some d from hd)
      exact ⟨⟨_, v', le.sqT s, hv'⟩, fun x H' y => ⟨y.1, by
        have := y.2 _ (le.sqT s)
        rw [hv'] at this; cases this
        exact rv⟩⟩
  | str s =>
    cases hn
    have hd' : (s.cps[i]?).map (fun c => D.str (sgn c)) = some d := hd
    refine ⟨hi, fun x H' y => ⟨y.1, ?_⟩⟩
    obtain ⟨c, hc, hx⟩ := y.2
    rw [hc] at hd'
    cases hd'
    rw [hx]; exact .str _
theorem it_stop (e : ER B g H σ ρ st) {I : Iter} {J : L2.It} {n : Nat} (h : ItOk B.R B.ex g I J) (hn : I.size st = some n) : J.stop n H := by
  have le := e.le
  cases h with
  | rng lo m => cases hn; exact Nat.le_refl _
  | @lst a v hv =>
    cases q : dr st v with
    | none => simp only [Iter.size, q] at hn; cases hn
    | some dv =>
      have r := e.rd hv q
      cases dv with
      | lst ds =>
        simp only [Iter.size, q] at hn
        obtain ⟨a', xs, e1, s, k⟩ := r.asL le
        cases e1
        cases hn
        exact ⟨xs, s, by rw [k.length]; exact Nat.le_refl _⟩
      | _ => simp only [Iter.size, q] at hn; cases hn
  | @tup a ds hv =>
    cases hn
    cases hv with
    | tup s k => exact ⟨_, le.sqT s, by rw [k.length]; exact Nat.le_refl _⟩
  | str s => cases hn; exact Nat.le_refl _
end

/-! ### a list, a tuple, a text, walked -/
def iSeq (K : PySem.W.Frag) (te : TE) : TI := fun σ H Rr => te σ H fun x H1 => (∃ a, x = .ref a ∧ (∃ xs, SqL K H1 a xs) ∧ Rr (Itl K a) H1) ∨ (∃ a, x = .ref a ∧ (∃ xs, SqT K H1 a xs) ∧ Rr (Itt K a) H1) ∨ (∃ s, x = .str s ∧ Rr (Its s) H1)
theorem pi_seq {X : Cx} {tg l : Expr} {tl : TE} (hl : PE X l tl) : PI X tg l (iSeq X.K tl) := by
  refine ⟨fun pins s σ H R I h => ?_⟩
  refine thn (hl.run pins s σ H _ I h) fun v s1 ⟨x, H1, I1, r1, q1⟩ => ?_
  have new : ∀ {b : Addr} {fp : List Addr}, b ∈ [s1.heap.objs.size] → FpOk X pins H1 b := fun {b _} hb => by
    have e : b = s1.heap.objs.size := by simpa using hb
    subst e
    exact I1.fpOk (Nat.le_refl _) (I1.hok.fresh (Nat.le_refl _))
  rcases q1 with ⟨a, e, ⟨xs, hq⟩, q⟩ | ⟨a, e, ⟨xs, hq⟩, q⟩ | ⟨y, e, q⟩
  · subst e
    cases r1
    obtain ⟨its, rv, p, hz⟩ := I1.list hq
    refine wpAny_pyIter_list p.isList ?_
    exact ⟨s1.heap.objs.size, [s1.heap.objs.size], _, _, H1, rfl, I1.kept (t' := s1.toks) fun b o e => Heap.get?_push_of_some _ e, turn_list a _, ⟨_, Heap.get?_push_size _ rfl, rfl, rfl⟩, fun b hb => new (fp := []) hb, q⟩
  · subst e
    cases r1
    obtain ⟨its, rv, p, hz⟩ := I1.tuple hq
    refine wpAny_pyIter_tuple (show s1.heap.IsTuple a its.toArray from p) ?_
    exact ⟨s1.heap.objs.size, [s1.heap.objs.size], _, _, H1, rfl, I1.kept (t' := s1.toks) fun b o e => Heap.get?_push_of_some _ e, turn_tuple a _, ⟨_, Heap.get?_push_size _ rfl, rfl, rfl⟩, fun b hb => new (fp := []) hb, q⟩
  · subst e
    obtain ⟨t, rfl⟩ := r1
    cases ha : y.cps.all (· < 128)
    · exact wpAny_pyIter_wide ha (pi_one (tk := s1.toks) I1 _ (turn_str _ y t "str_iterator" (.inr rfl)) ⟨_, Heap.get?_push_size _ rfl, rfl, rfl⟩ q)
    · exact wpAny_pyIter_ascii ha (pi_one (tk := s1.toks) I1 _ (turn_str _ y t "str_ascii_iterator" (.inl rfl)) ⟨_, Heap.get?_push_size _ rfl, rfl, rfl⟩ q)

def OKi (T : Tab) (G : Gam) (c : It) : Prop := ∀ {sc : Scope} {calm : Bool} {B : Bs} {X : Cx} {W : WX}, Cxt T sc calm G B X W → ∀ (tg e : Expr), chkI T sc calm c e = true → PI X tg e (tI B W (evI G c)) ∧ plainE e = true
section
variable {T : Tab} {G : Gam}
theorem chkI_rng1 {sc : Scope} {calm : Bool} {a : Ex} {e : Expr} (h : chkI T sc calm (.rng1 a) e = true) : ∃ p ea pos, e = .Call (.Name "range" p) [ea] [] pos ∧ T.free.contains "range" = true ∧ glB sc "range" = true ∧ plainE ea = true ∧ chk T sc calm a false ea = true := by
  cases e with
  | Call g ees kws pos =>
    cases g with
    | Name x p =>
      cases ees with
      | nil => exact Bool.noConfusion (show false = true from h)
      | cons ea ees =>
        cases ees with
        | cons _ _ => exact Bool.noConfusion (show false = true from h)
        | nil =>
          cases kws with
          | cons _ _ => exact Bool.noConfusion (show false = true from h)
          | nil =>
            obtain ⟨k1, q1⟩ := b2 h
            obtain ⟨k2, q2⟩ := b2 q1
            obtain ⟨k3, q3⟩ := b2 q2
            obtain ⟨k4, k5⟩ := b2 q3
            have hx : x = "range" := of_decide_eq_true k1
            subst hx
            exact ⟨p, ea, pos, rfl, k2, k3, k4, k5⟩
    | _ => exact Bool.noConfusion (show false = true from h)
  | _ => exact Bool.noConfusion (show false = true from h)
theorem chkI_rng2 {sc : Scope} {calm : Bool} {a b : Ex} {e : Expr} (h : chkI T sc calm (.rng2 a b) e = true) : ∃ p ea eb pos, e = .Call (.Name "range" p) [ea, eb] [] pos ∧ T.free.contains "range" = true ∧ glB sc "range" = true ∧ plainE ea = true ∧ plainE eb = true ∧ chk T sc calm a false ea = true ∧ chk T sc calm b false eb = true := by
  cases e with
  | Call g ees kws pos =>
    cases g with
    | Name x p =>
      cases ees with
      | nil => exact Bool.noConfusion (show false = true from h)
      | cons ea ees =>
        cases ees with
        | nil => exact Bool.noConfusion (show false = true from h)
        | cons eb ees =>
          cases ees with
          | cons _ _ => exact Bool.noConfusion (show false = true from h)
          | nil =>
            cases kws with
            | cons _ _ => exact Bool.noConfusion (show false = true from h)
            | nil =>
              obtain ⟨k1, q1⟩ := b2 h
              obtain ⟨k2, q2⟩ := b2 q1
              obtain ⟨k3, q3⟩ := b2 q2
              obtain ⟨k4, q4⟩ := b2 q3
              obtain ⟨k5, q5⟩ := b2 q4
              obtain ⟨k6, k7⟩ := b2 q5
              have hx : x = "range" := of_decide_eq_true k1
              subst hx
              exact ⟨p, ea, eb, pos, rfl, k2, k3, k4, k5, k6, k7⟩
    | _ => exact Bool.noConfusion (show false = true from h)
  | _ => exact Bool.noConfusion (show false = true from h)
theorem rng_of {a b : D} {I : Iter} (h : rngS a b = some I) : ∃ i j, a = .int i ∧ b = .int j ∧ (-(2 ^ 62) ≤ i ∧ i < 2 ^ 62 ∧ -(2 ^ 62) ≤ j ∧ j < 2 ^ 62) ∧ I = .rng i (j - i).toNat := by
  cases a <;> cases b <;> first
    | cases h
    | skip
  rename_i i j
  have h' : (if rngOk i && rngOk j then some (Iter.rng i (j - i).toNat) else none) = some I := h
  cases q : rngOk i && rngOk j with
  | false => rw [q] at h'; cases h'
  | true =>
    rw [q] at h'
    cases h'
    obtain ⟨q1, q2⟩ := b2 q
    obtain ⟨q3, q4⟩ := b2 q1
    obtain ⟨q5, q6⟩ := b2 q2
    exact ⟨i, j, rfl, rfl, ⟨of_decide_eq_true q3, of_decide_eq_true q4, of_decide_eq_true q5, of_decide_eq_true q6⟩, rfl⟩
theorem ok_rng1 {a : Ex} (ha : OK T G a) : OKi T G (.rng1 a) := by
  intro sc calm B X W C tg e h
  obtain ⟨p0, ea, pos, rfl, h1, h2, h3, h4⟩ := chkI_rng1 h
  refine ⟨pi_of (pi_range1 (C.glob h2) (C.free _ (List.contains_iff_mem.mp h1)) (pa_cons ((ha C ea).1 h4) pa_nil (star_ok h3)) (star_ok h3)) fun σ H R ⟨g, ρ, st, er, p⟩ => ?_, rfl⟩
  have p' : Pst B W g H σ ρ ((ev G a ρ st).bind fun x st => pick (dr st x) fun d => pick (rngS (.int 0) d) fun I => Res.ok I st) (fun I _ g' H' => ∀ J, ItOk B.R B.ex g' I J → R J H') := p
  refine ⟨g, ρ, st, er, p'.bind.imp fun v st1 g1 H1 e1 s1 p1 x rx => ?_⟩
  obtain ⟨d, q1, p1⟩ := p1.pick
  obtain ⟨I, q2, pp⟩ := p1.pick
  clear p1
  obtain ⟨i, j, e2, e3, ⟨_, _, z1, z2⟩, rfl⟩ := rng_of q2
  cases e2
  subst e3
  obtain rfl := (e1.rd rx q1).int
  refine ⟨j, rfl, z1, z2, ?_⟩
  have := pp.ok e1 _ (.rng 0 (j - 0).toNat)
  simpa using this
theorem ok_rng2 {a b : Ex} (ha : OK T G a) (hb : OK T G b) : OKi T G (.rng2 a b) := by
  intro sc calm B X W C tg e h
  obtain ⟨p0, ea, eb, pos, rfl, h1, h2, h3, h4, h5, h6⟩ := chkI_rng2 h
  have st1 : starEach [ea, eb] X.env = [(false, eval ea X.env), (false, eval eb X.env)] := by rw [star_ok h3, star_ok h4] <;> rfl
  refine ⟨pi_of (pi_range2 (C.glob h2) (C.free _ (List.contains_iff_mem.mp h1)) (pa_cons ((ha C ea).1 h5) (pa_cons ((hb C eb).1 h6) pa_nil (star_ok h4)) (star_ok h3)) st1 (star_ok h4)) fun σ H R ⟨g, ρ, st, er, p⟩ => ?_, rfl⟩
  have p' : Pst B W g H σ ρ ((ev G a ρ st).bind fun x st => (ev G b ρ st).bind fun y st => pick (dr st x) fun d => pick (dr st y) fun e => pick (rngS d e) fun I => Res.ok I st) (fun I _ g' H' => ∀ J, ItOk B.R B.ex g' I J → R J H') := p
  refine ⟨g, ρ, st, er, p'.bind.imp fun v st1 g1 H1 e1 s1 p1 x rx => ?_⟩
  refine ⟨g1, ρ, st1, e1, p1.bind.imp fun w st2 g2 H2 e2 s2 p2 y ry => ?_⟩
  obtain ⟨d, q1, p2⟩ := p2.pick
  obtain ⟨d', q2, p2⟩ := p2.pick
  obtain ⟨I, q3, pp⟩ := p2.pick
  clear p2
  obtain ⟨i, j, e3, e4, z, rfl⟩ := rng_of q3
  subst e3 e4
  obtain rfl := (e2.rd (rx.up s2.le) q1).int
  obtain rfl := (e2.rd ry q2).int
  exact ⟨i, j, rfl, z, pp.ok e2 _ (.rng i (j - i).toNat)⟩
theorem ok_seq {a : Ex} (ha : OK T G a) : OKi T G (.seq a) := by
  intro sc calm B X W C tg e h
  obtain ⟨h0, h1⟩ := b2 h
  refine ⟨pi_of (pi_seq ((ha C e).1 h1)) fun σ H R ⟨g, ρ, st, er, p⟩ => ?_, h0⟩
  have p' : Pst B W g H σ ρ ((ev G a ρ st).bind fun x st => pick (dr st x) fun d => pick (seqI x d) fun I => Res.ok I st) (fun I _ g' H' => ∀ J, ItOk B.R B.ex g' I J → R J H') := p
  refine ⟨g, ρ, st, er, p'.bind.imp fun v st1 g1 H1 e1 s1 p1 x rx => ?_⟩
  obtain ⟨d, q1, p1⟩ := p1.pick
  obtain ⟨I, q2, p1⟩ := p1.pick
  have r := e1.rd rx q1
  rw [C.K]
  cases d <;> first
    | cases q2
    | skip
  · obtain rfl := r.str
    exact .inr (.inr ⟨_, rfl, p1.ok e1 _ (.str _)⟩)
  · cases r.tupRep with
    | tup s k => exact .inr (.inl ⟨_, rfl, ⟨_, e1.le.sqT s⟩, p1.ok e1 _ (.tup (.tup s k))⟩)
  · obtain ⟨a, xs, rfl, s, k⟩ := r.asL e1.le
    exact .inl ⟨a, rfl, ⟨_, s⟩, p1.ok e1 _ (.lst rx)⟩
end

/-! ### targets -/
def tgG (K : PySem.W.Frag) : Tg → TG
  | .nm i => gName i
  | .tp is => gTup K is.length (is.foldr (fun i t => gCons (gName i) t) gNil)
theorem SlotR.putV {R : RC} {E : ExH} {g : Gh} {σ : L2.St} {ρ : Slots} {x : V} {v : Val} (hs : ∀ (i : Nat) (o : Option V) (w : Option Val), σ[i]? = some o → ρ[i]? = some w → SlotR R E g o w) (r : ValR R E g.F g.A x v) (j : Nat) :
    ∀ (i : Nat) (o : Option V) (w : Option Val), (σ.set j (some x))[i]? = some o → (ρ.set j (some v))[i]? = some w → SlotR R E g o w := by
  intro i o w e1 e2
  rcases setAt e1 with ⟨n1, q1⟩ | ⟨n1, q1⟩
  · rcases setAt e2 with ⟨_, q2⟩ | ⟨n2, _⟩
    · exact hs i o w q1 q2
    · exact absurd n2 n1
  · rcases setAt e2 with ⟨n2, _⟩ | ⟨_, q2⟩
    · exact absurd n1 n2
    · rw [← q1, ← q2]; exact ⟨x, rfl, r⟩
theorem ER.slot {B : Bs} {g : Gh} {H : Hp} {σ : L2.St} {ρ : Slots} {st : Store} (e : ER B g H σ ρ st) {σ' : L2.St} {ρ' : Slots} (hl : σ'.length = ρ'.length) (hs : ∀ (i : Nat) (o : Option V) (w : Option Val), σ'[i]? = some o → ρ'[i]? = some w → SlotR B.R B.ex g o w) : ER B g H σ' ρ' st :=
  ⟨e.same0, e.le, e.fresh, e.keep, e.lkd, e.len, e.nodup, e.io, e.iolive, e.own, e.there, e.conts, hl, hs⟩
theorem ER.setV {B : Bs} {g : Gh} {H : Hp} {σ : L2.St} {ρ : Slots} {st : Store} (e : ER B g H σ ρ st) {x : V} {v : Val} (r : ValR B.R B.ex g.F g.A x v) (j : Nat) : ER B g H (σ.set j (some x)) (ρ.set j (some v)) st :=
  e.slot (by rw [List.length_set, List.length_set]; exact e.slen) (SlotR.putV e.slots r j)
theorem wipe_set {σ : L2.St} {i : Nat} {o : Option V} : ∀ {vs : List Nat}, i ∈ vs → wipe (σ.set i o) vs = wipe σ vs
  | v :: vs, h => by
    show (wipe (σ.set i o) vs).set v none = (wipe σ vs).set v none
    by_cases hm : i ∈ vs
    · rw [wipe_set hm]
    · rcases List.mem_cons.mp h with e | h
      · subst e
        have key : ∀ {vs : List Nat}, i ∉ vs → wipe (σ.set i o) vs = (wipe σ vs).set i o := fun {vs} => by
          induction vs with
          | nil => intro _; rfl
          | cons v vs ih =>
            intro h
            have h1 : i ≠ v := fun z => h (by rw [z]; exact List.mem_cons_self)
            show (wipe (σ.set i o) vs).set v none = ((wipe σ vs).set v none).set i o
            rw [ih fun z => h (List.mem_cons_of_mem _ z), List.set_comm _ _ h1]
        rw [key hm, List.set_set]
      · exact absurd h hm
theorem tg_all {B : Bs} {g : Gh} {H : Hp} {st : Store} {Q : L2.St → Hp → Prop} : ∀ {is : List Nat} {ds : List D} {xs : List V} {σ : L2.St} {ρ ρ' : Slots}, ER B g H σ ρ st → RepL B.R g.F xs ds → setAll is ds ρ = some ρ' →
    (∀ σ', ER B g H σ' ρ' st → (∀ vs : List Nat, (∀ i ∈ is, i ∈ vs) → wipe σ' vs = wipe σ vs) → Q σ' H) → (is.foldr (fun i t => gCons (gName i) t) gNil) xs σ H Q
  | [], [], _, σ, ρ, ρ', e, .nil, h, hQ => by cases h; exact ⟨rfl, hQ σ e fun _ _ => rfl⟩
  | [], _ :: _, _, σ, ρ, ρ', e, _, h, hQ => by cases h
  | _ :: _, [], _, σ, ρ, ρ', e, _, h, hQ => by cases h
  | i :: is, d :: ds, _, σ, ρ, ρ', e, .cons (v := x) (vs := xs) r l, h, hQ => ⟨x, xs, rfl, tg_all (e.setV (v := .fz d) r i) l h fun σ' e' hw => hQ σ' e' fun vs hv => (hw vs fun j hj => hv j (List.mem_cons_of_mem _ hj)).trans (wipe_set (hv i List.mem_cons_self))⟩
theorem tg_ok {B : Bs} {g : Gh} {H : Hp} {σ : L2.St} {ρ ρ' : Slots} {st : Store} (e : ER B g H σ ρ st) {t : Tg} {x : V} {v : Val} (r : ValR B.R B.ex g.F g.A x v) (h : asgT t v ρ st = some ρ') {Q : L2.St → Hp → Prop} (hQ : ∀ σ', ER B g H σ' ρ' st → (∀ vs : List Nat, tgIn vs t = true → wipe σ' vs = wipe σ vs) → Q σ' H) : tgG B.R.K t x σ H Q := by
  cases t with
  | nm i =>
    cases h
    exact hQ _ (e.setV r i) fun vs hv => wipe_set (List.contains_iff_mem.mp hv)
  | tp is =>
    cases v with
    | loc n => cases h
    | exn y => cases h
    | fz d =>
      cases d <;> first
        | cases h
        | skip
      rename_i ds
      have h' : setAll is ds ρ = some ρ' := h
      have hlen : ∀ {is : List Nat} {ds : List D} {ρ ρ' : Slots}, setAll is ds ρ = some ρ' → ds.length = is.length := fun {is ds ρ ρ'} => by
        induction is generalizing ds ρ with
        | nil => intro h; cases ds with
          | nil => rfl
          | cons _ _ => cases h
        | cons i is ih => intro h; cases ds with
          | nil => cases h
          | cons d ds => exact congrArg Nat.succ (ih h)
      cases (show Rep B.R g.F x (.tup ds) from r) with
      | tup s k => exact ⟨_, _, rfl, e.le.sqT s, by rw [k.length]; exact hlen h', tg_all e k h' fun σ' e' hw => hQ σ' e' fun vs hv => hw vs fun i hi => List.contains_iff_mem.mp (List.all_eq_true.mp (show is.all vs.contains = true from hv) i hi)⟩
section
variable {X : Cx}
theorem nmB_ok {T : Tab} {sc : Scope} {i : Nat} {e : Expr} (hN : X.N = T.N) (nd : T.N.Nodup) (hsc : ScR sc X.env.scope) (hfn : ∀ x, sc.names.lookup x = some .cell → X.fn x = true) (h : nmB T sc i e = true) : PG X e (gName i) ∧ ∃ x pos, e = .Name x pos := by
  cases e <;> first
    | exact Bool.noConfusion (show false = true from h)
    | skip
  rename_i x pos
  obtain ⟨h1, h2⟩ := b2 h
  rcases Bool.or_eq_true_iff.mp h2 with h2 | h2
  · have hl : X.env.scope.names.lookup x = some .local := locB_ok hsc h2
    exact ⟨pg_name (by rw [hN]; exact nd) (by rw [hN]; exact of_decide_eq_true h1) (.inl hl) (.inr hl), x, pos, rfl⟩
  · have hl := celB_ok h2
    exact ⟨pg_name (by rw [hN]; exact nd) (by rw [hN]; exact of_decide_eq_true h1) (.inr (hsc.cl x hl)) (.inl (hfn x hl)), x, pos, rfl⟩
theorem tgB_ok {T : Tab} {sc : Scope} {t : Tg} {e : Expr} (hN : X.N = T.N) (nd : T.N.Nodup) (hsc : ScR sc X.env.scope) (hfn : ∀ x, sc.names.lookup x = some .cell → X.fn x = true) (hc : X.calm = true) (h : tgB T sc t e = true) : PG X e (tgG X.K t) := by
  cases t with
  | nm i => exact (nmB_ok hN nd hsc hfn (show nmB T sc i e = true by cases e <;> exact h)).1
  | tp is =>
    cases e <;> first
      | exact Bool.noConfusion (show false = true from h)
      | skip
    rename_i es k pos
    obtain ⟨h1, h2⟩ := b2 h
    have hl : is.length = es.length := of_decide_eq_true h1
    have key : ∀ {is : List Nat} {es : List Expr}, is.length = es.length → ((is.zip es).all fun p => nmB T sc p.1 p.2) = true →
        PGs X es (is.foldr (fun i t => gCons (gName i) t) gNil) ∧ (assignEach es X.env).length = es.length ∧ (assignEach es X.env).findIdx? (·.1) = none := by
      intro is
      induction is with
      | nil =>
        intro es hl _
        cases es with
        | nil => exact ⟨pgs_nil, rfl, rfl⟩
        | cons _ _ => cases hl
      | cons i is ih =>
        intro es hl h
        cases es with
        | nil => cases hl
        | cons e es =>
          obtain ⟨h3, h4⟩ := b2 (show (nmB T sc i e && (is.zip es).all fun p => nmB T sc p.1 p.2) = true from h)
          obtain ⟨p1, p2, p3⟩ := ih (Nat.succ.inj hl) h4
          obtain ⟨pg, x, pos, rfl⟩ := nmB_ok hN nd hsc hfn h3
          refine ⟨pgs_cons pg p1 rfl, ?_, ?_⟩
          · show (assignEach es X.env).length + 1 = es.length + 1
            rw [p2]
          · show ((false, _) :: assignEach es X.env).findIdx? (·.1) = none
            rw [List.findIdx?_cons]
            simp [p3]
    obtain ⟨p1, p2, p3⟩ := key hl h2
    exact pg_tup hc p1 (by rw [p2, hl]) p3
end
end PD

/-! PD13 -/
set_option Elab.async false
set_option linter.all false
set_option maxRecDepth 100000
set_option maxHeartbeats 4000000
/-! PD: list comprehensions, and all expressions. -/
namespace PD
open PySem PySem.Spec PyProof.Rows L2
section
variable {B : Bs} {W : WX} {g g1 : Gh} {H H1 : Hp} {σ : L2.St} {ρ : Slots} {st : Store}
theorem Step.away (s : Step g H g1 H1) {p : Addr} {o : HO} (h : H p = some o) (hA : p ∉ g.A) (hF : g.F p = none) : H1 p = some o ∧ p ∉ g1.A ∧ g1.F p = none := by
  refine ⟨s.frame p o h hA, fun z => ?_, ?_⟩
  · rcases s.freshA p z with q | q
    · exact hA q
    · rw [h] at q; cases q
  · cases q : g1.F p with
    | none => rfl
    | some u =>
      rcases s.freshF p (by rw [q]; intro z; cases z) with z | z | z
      · exact absurd hF z
      · rw [h] at z; cases z
      · exact absurd z hA
/-- a cell that is none of ours changes -/
theorem ER.other (r : ER B g H σ ρ st) {p : Addr} {o : HO} (hA : p ∉ g.A) (hF : g.F p = none) (h0 : B.H0 p = none) (hl : p ∉ B.lk) : ER B g (upd H p o) σ ρ st where
  same0 := r.same0
  le := fun a u e => by
    have ha : a ≠ p := fun z => by rw [z, hF] at e; cases e
    rw [upd_ne ha]; exact r.le a u e
  fresh := r.fresh
  keep := fun b u e h1 h2 => by
    have hb : b ≠ p := fun z => by rw [z, h0] at e; cases e
    rw [upd_ne hb]; exact r.keep b u e h1 h2
  lkd := fun b hb => by
    obtain ⟨h1, ob, u, h2, h3⟩ := r.lkd b hb
    have hne : b ≠ p := fun z => hl (by rw [← z]; exact hb)
    exact ⟨h1, ob, u, by rw [upd_ne hne]; exact h2, h3⟩
  len := r.len
  nodup := r.nodup
  io := r.io
  iolive := r.iolive
  own := r.own
  there := fun i a e => by
    have ha : a ≠ p := fun z => hA (by rw [← z]; exact List.mem_of_getElem? e)
    rw [upd_ne ha]; exact r.there i a e
  conts := fun i a c e1 e2 => by
    have ha : a ≠ p := fun z => hA (by rw [← z]; exact List.mem_of_getElem? e1)
    exact (r.conts i a c e1 e2).F (Same.refl _) (fun hc => (r.conts i a c e1 e2).out hc) (fun _ => upd_ne ha)
  slen := r.slen
  slots := r.slots
theorem Step.other (s : Step g H g1 H1) {p : Addr} {o : HO} (h : H p = none) : Step g H g1 (upd H1 p o) :=
  ⟨s.le, fun b u e hb => by
    have : b ≠ p := fun z => by rw [z, h] at e; cases e
    rw [upd_ne this]; exact s.frame b u e hb, s.freshF, s.freshA⟩

theorem SlotR.wiped {R : RC} {E : ExH} (hs : ∀ (i : Nat) (o : Option V) (w : Option Val), σ[i]? = some o → ρ[i]? = some w → SlotR R E g o w) : ∀ (vs : List Nat) (i : Nat) (o : Option V) (w : Option Val), (wipe σ vs)[i]? = some o → (wipeS ρ vs)[i]? = some w → SlotR R E g o w
  | [], i, o, w, e1, e2 => hs i o w e1 e2
  | v :: vs, i, o, w, e1, e2 => by
    rcases setAt (show ((wipeS ρ vs).set v none)[i]? = some w from e2) with ⟨n, q⟩ | ⟨_, q⟩
    · rcases setAt (show ((wipe σ vs).set v none)[i]? = some o from e1) with ⟨_, q1⟩ | ⟨n1, _⟩
      · exact SlotR.wiped hs vs i o w q1 q
      · exact absurd n1 n
    · rw [← q]; trivial
theorem wipeS_length : ∀ vs : List Nat, (wipeS ρ vs).length = ρ.length
  | [] => rfl
  | v :: vs => by
    show ((wipeS ρ vs).set v none).length = _
    rw [List.length_set, wipeS_length vs]
theorem wipe_wipe : ∀ (vs : List Nat), wipe (wipe σ vs) vs = wipe σ vs := by
  have key : ∀ (ws vs : List Nat), (∀ v ∈ vs, v ∈ ws) → wipe (wipe σ vs) ws = wipe σ ws := fun ws vs => by
    induction vs with
    | nil => intro _; rfl
    | cons v vs ih =>
      intro h
      show wipe ((wipe σ vs).set v none) ws = _
      rw [wipe_set (h v List.mem_cons_self), ih fun u hu => h u (List.mem_cons_of_mem _ hu)]
  exact fun vs => key vs vs fun _ h => h
theorem Res.nox_ok {α β : Type} {r : Res α} {f : α → Store → Res β} (h : r.nox.bind f ≠ .stuck) : ∃ a st1, r = .ok a st1 ∧ r.nox.bind f = f a st1 := by
  cases r with
  | ok a st1 => exact ⟨a, st1, rfl, rfl⟩
  | exc x st1 => exact absurd rfl h
  | stuck => exact absurd rfl h
theorem pst_stuck {α : Type} {r : Res α} {k : α → Store → Gh → Hp → Prop} (p : Pst B W g H σ ρ r k) : r ≠ .stuck := fun z => by rw [z] at p; exact p
theorem bind_stuck {α β : Type} {r : Res α} {f : α → Store → Res β} (h : r.bind f ≠ .stuck) : r ≠ .stuck := fun z => h (by rw [z] <;> rfl)
end
theorem fold_ok {e : Expr} {env : Env} (h : plainE e = true) : ∀ x, foldedSetIterable e env x = pure x := by
  intro x
  cases e <;> first
    | rfl
    | exact Bool.noConfusion (show false = true from h)
theorem pts_of {X : Cx} {es : List Expr} {t t' : TT} (h : PTs X es t) (i : ∀ σ H Q, t' σ H Q → t σ H Q) : PTs X es t' := ⟨fun pins s σ H Q I q => h.run pins s σ H Q I (i σ H Q q)⟩
section
variable {T : Tab} {G : Gam}
theorem relabel_ok {env : Env} {scope : Scope} : ScR scope (relabel scope env) := by
  have key : ∀ (names : List (Str × NameKind)) (x : Str), (names.map fun (n, k) => if (k == NameKind.free && env.scope.kind == .function && env.kindOf n == some .cell) then (n, NameKind.cell) else (n, k)).lookup x =
      (match names.lookup x with
        | some k => some (if (k == NameKind.free && env.scope.kind == .function && env.kindOf x == some .cell) then .cell else k)
        | none => none) := fun names x => by
    induction names with
    | nil => rfl
    | cons p r ih =>
      obtain ⟨n, k⟩ := p
      rw [List.map_cons]
      by_cases hx : (x == n) = true
      · have e : x = n := eq_of_beq hx
        subst e
        have e1 : List.lookup x ((x, k) :: r) = some k := by simp [List.lookup]
        rw [e1]
        by_cases hc : (k == NameKind.free && env.scope.kind == .function && env.kindOf x == some .cell) = true
        · simp only [hc, if_true]
          simp [List.lookup]
        · simp only [hc]
          simp [List.lookup]
      · have hx' : (x == n) = false := by simpa using hx
        have e1 : List.lookup x ((n, k) :: r) = List.lookup x r := by simp [List.lookup, hx']
        rw [e1, ← ih]
        by_cases hc : (k == NameKind.free && env.scope.kind == .function && env.kindOf n == some .cell) = true
        · simp only [hc, if_true]
          simp [List.lookup, hx']
        · simp only [hc]
          simp [List.lookup, hx']
  have key' : ∀ x, (relabel scope env).names.lookup x = (match scope.names.lookup x with
        | some k => some (if (k == NameKind.free && env.scope.kind == .function && env.kindOf x == some .cell) then .cell else k)
        | none => none) := fun x => key scope.names x
  refine ⟨fun x h => by rw [key', h]; rfl, fun x h => ?_, fun x h => ?_, fun x h => ?_⟩
  · rw [key', h]; rfl
  · rcases h with h | h
    · rw [key', h]; exact .inl rfl
    · rw [key', h]
      by_cases hc : (NameKind.free == NameKind.free && env.scope.kind == .function && env.kindOf x == some .cell) = true
      · exact .inl (by simp only [hc, if_true])
      · exact .inr (by simp only [hc]; rfl)
  · rw [key', h]; rfl
theorem blk_re {N : List Str} {sc sc' scope : Scope} {own : List (Str × Nat)} (r : ScR sc sc') (h : BlkOk N sc scope own) : BlkOk N sc' scope own :=
  ⟨h.kind, h.uniq, h.ix, fun y hy e => r.cf _ (h.free y hy e), h.own⟩
theorem Cxt.blk {sc scope : Scope} {calm : Bool} {B : Bs} {X : Cx} {W : WX} (C : Cxt T sc calm G B X W) (hc : calm = true) (s : Shared) (H : Hp) (D : Addr) (cl : List (Str × Addr)) (fp : List Addr) : Cxt T scope calm G B (X.blk s H scope (compEnvC scope cl D X.env) fp) (fun _ _ _ _ => False) :=
  ⟨C.K, C.mg, C.N, (fun x h => by show (scope.names.lookup x == some NameKind.cell) = true; rw [h]; rfl), relabel_ok, C.nd, (fun h => by rw [hc] at h; cases h), C.calm, C.units, takes0, C.io, C.con, C.fns, C.free, C.exn, C.exm, C.xf, C.gcd, C.exv⟩
theorem lc_read {own : List Nat} {tg : Tg} {it : It} {c elt : Ex} {sc : Scope} {calm : Bool} {B : Bs} {X : Cx} {W : WX} (C : Cxt T sc calm G B X W) (k4 : tgIn own tg = true) {σ : L2.St} {H : Hp} {Q : VK} (h : tE B W (ev G (.lc own tg it c elt)) σ H Q) :
    tLc (tI B W (evI G it)) (tgG X.K tg) (tT B (fun _ _ _ _ => False) (ev G c)) (tE B (fun _ _ _ _ => False) (ev G elt)) own σ H Q := by
  obtain ⟨g, ρ, st, er, p⟩ := h
  have p' : Pst B W g H σ ρ ((evI G it ρ st).bind fun I st => pick (I.size st) fun n => if n ≤ LIM then
      (lcLoop I (fun d st => pick (asgT tg (.fz d) (wipeS ρ own) st) fun ρ' => (ev G c ρ' st).nox.bind fun b st => lcTurn b ((ev G elt ρ' st).nox.bind fun v st => lcPut G.io v st) (.ok [] st)) n 0 [] st).bind lcEnd else .stuck) (kV B Q) := p
  refine ⟨g, ρ, st, er, p'.bind.imp fun I st1 g1 H1 e1 s1 p1 J hJ => ?_⟩
  obtain ⟨n, hn, p1⟩ := p1.pick
  obtain ⟨hz, p1⟩ := pst_if p1
  intro a ha
  obtain ⟨f1, f2, f3, f4⟩ := e1.fresh0 ha
  generalize hbody : (fun d st => pick (asgT tg (.fz d) (wipeS ρ own) st) fun ρ' => (ev G c ρ' st).nox.bind fun b st => lcTurn b ((ev G elt ρ' st).nox.bind fun v st => lcPut G.io v st) (.ok [] st)) = body at p1
  refine ⟨fun i m H => ∃ g2 st2 acc xs, ER B g2 H σ ρ st2 ∧ Step g1 H1 g2 H ∧ H a = some (.lst xs) ∧ RepL B.R g2.F xs acc ∧ g2.F a = none ∧ a ∉ g2.A ∧ i ≤ n ∧ m = n - i ∧ acc.length ≤ i ∧ Pst B W g1 H1 σ ρ ((lcLoop I body (n - i) i acc st2).bind lcEnd) (kV B Q),
    ⟨n, g1, st1, [], [], e1.other f2 f1 f3 f4, (Step.refl g1 H1).other ha, upd_same, .nil, f1, f2, Nat.zero_le _, rfl, Nat.le_refl _, p1⟩, ?_⟩
  rintro i m H2 ⟨g2, st2, acc, xs, e2, s2, ha2, k2', f5, f6, hin, rfl, hacc, p2⟩
  by_cases hlt : i < n
  · obtain ⟨k, hk⟩ : ∃ k, n - i = k + 1 := ⟨n - i - 1, by omega⟩
    rw [hk] at p2
    have p3 : Pst B W g1 H1 σ ρ ((if I.size st2 = some (i + (k + 1)) then pick (I.at st2 i) fun d => (body d st2).bind fun ds st' => lcLoop I body k (i + 1) (acc ++ ds) st' else .stuck).bind lcEnd) (kV B Q) := p2
    by_cases hsz : I.size st2 = some (i + (k + 1))
    · rw [if_pos hsz] at p3
      cases hd : I.at st2 i with
      | none => rw [hd] at p3; exact p3.elim
      | some d =>
        rw [hd] at p3
        have p4 : Pst B W g1 H1 σ ρ (((body d st2).bind fun ds st' => lcLoop I body k (i + 1) (acc ++ ds) st').bind lcEnd) (kV B Q) := p3
        obtain ⟨go, yl⟩ := it_go e2 (hJ.up s2.le) hsz (by omega) hd
        refine .inr ⟨go, fun H' => ∃ g2 st2 acc xs, ER B g2 H' σ ρ st2 ∧ Step g1 H1 g2 H' ∧ H' a = some (.lst xs) ∧ RepL B.R g2.F xs acc ∧ g2.F a = none ∧ a ∉ g2.A ∧ i + 1 ≤ n ∧ acc.length ≤ i + 1 ∧ Pst B W g1 H1 σ ρ ((lcLoop I body (n - (i + 1)) (i + 1) acc st2).bind lcEnd) (kV B Q),
          fun H' ⟨g2, st2, acc, xs, z1, z2, z3, z4, z5, z6, z7, z8, z9⟩ => ⟨n - (i + 1), by omega, g2, st2, acc, xs, z1, z2, z3, z4, z5, z6, z7, rfl, z8, z9⟩, fun x H' y => ?_⟩
        obtain ⟨rfl, rx⟩ := yl x H' y
        have hk' : n - (i + 1) = k := by omega
        have body1 : body d st2 = pick (asgT tg (.fz d) (wipeS ρ own) st2) fun ρ' => (ev G c ρ' st2).nox.bind fun b st => lcTurn b ((ev G elt ρ' st).nox.bind fun v st => lcPut G.io v st) (.ok [] st) := by rw [← hbody]
        have nst : body d st2 ≠ .stuck := bind_stuck (bind_stuck (pst_stuck p4))
        rw [body1] at nst
        cases hasg : asgT tg (.fz d) (wipeS ρ own) st2 with
        | none => rw [hasg] at nst; exact absurd rfl nst
        | some ρ' =>
          rw [hasg] at nst body1
          have ew : ER B g2 H' (wipe σ own) (wipeS ρ own) st2 := e2.slot (by rw [wipe_length, wipeS_length]; exact e2.slen) (SlotR.wiped e2.slots own)
          rw [C.K]
          refine tg_ok ew (v := .fz d) rx hasg fun σ2 e3 hw => ⟨?_, ?_⟩
          · rw [hw own k4, wipe_wipe]
          -- the test
          obtain ⟨b, st3, q1, q2⟩ := Res.nox_ok (show (ev G c ρ' st2).nox.bind (fun b st => lcTurn b ((ev G elt ρ' st).nox.bind fun v st => lcPut G.io v st) (.ok [] st)) ≠ .stuck from nst)
          have body2 : body d st2 = lcTurn b ((ev G elt ρ' st3).nox.bind fun v st => lcPut G.io v st) (.ok [] st3) := body1.trans q2
          refine ⟨g2, ρ', st2, e3, ?_⟩
          rw [q1]
          intro g3 H3 e4 s4
          -- back to the comprehension's own state
          have back : ∀ {g4 : Gh} {H4 : Hp} {st4 : Store}, ER B g4 H4 σ2 ρ' st4 → g2.le g4 → ER B g4 H4 σ ρ st4 := fun {g4 H4 st4} e l => e.slot e2.slen fun i o w h1 h2 => (e2.slots i o w h1 h2).up l
          obtain ⟨a1, a2, a3⟩ := s4.away ha2 f6 f5
          have nst2 : body d st2 ≠ .stuck := bind_stuck (bind_stuck (pst_stuck p4))
          rw [body2] at nst2 p4
          have nb : b = .fz (.bl true) ∨ b = .fz (.bl false) := by
            cases b with
            | loc _ => exact absurd rfl nst2
            | exn _ => exact absurd rfl nst2
            | fz d' => cases d' with
              | bl v => cases v <;> simp
              | _ => exact absurd rfl nst2
          rcases nb with rfl | rfl
          · refine ⟨true, rfl, iteT ?_⟩
            obtain ⟨v, st4, q3, q4⟩ := Res.nox_ok (show (ev G elt ρ' st3).nox.bind (fun v st => lcPut G.io v st) ≠ .stuck from nst2)
            have p5 : Pst B W g1 H1 σ ρ (((lcPut G.io v st4).bind fun ds st' => lcLoop I body k (i + 1) (acc ++ ds) st').bind lcEnd) (kV B Q) := by
              have e : lcTurn (.fz (.bl true)) ((ev G elt ρ' st3).nox.bind fun v st => lcPut G.io v st) (.ok [] st3) = lcPut G.io v st4 := q4
              rw [e] at p4
              exact p4
            refine ⟨g3, ρ', st3, e4, ?_⟩
            rw [q3]
            intro g4 H4 e5 s5 y ry
            obtain ⟨b1, b2', b3⟩ := s5.away a1 a2 a3
            have nst3 : lcPut G.io v st4 ≠ .stuck := bind_stuck (bind_stuck (pst_stuck p5))
            cases q5 : fr G.io v st4 with
            | stuck => exact absurd (show lcPut G.io v st4 = .stuck by unfold lcPut; rw [q5] <;> rfl) nst3
            | exc z1 z2 => exact (fr_no_exc q5).elim
            | ok d' st5 =>
              have ep : lcPut G.io v st4 = .ok [d'] st5 := by unfold lcPut; rw [q5] <;> rfl
              rw [ep] at p5
              obtain ⟨F5, e6, s6, r6⟩ := e5.fr ry (by rw [← C.io]; exact q5)
              obtain ⟨c1, c2, c3⟩ := s6.away b1 b2' b3
              have S : Step g2 H' ⟨F5, g4.A⟩ H4 := (s4.trans s5).trans s6
              refine ⟨xs, b1, ?_, ⟨F5, g4.A⟩, st5, acc ++ [d'], xs ++ [y], (back e6 S.le).other c2 c3 f3 f4, (s2.trans S).other ha, upd_same, (k2'.mono S.le.F).append (.cons r6 .nil), c3, c2, by omega, by rw [List.length_append]; simp only [List.length_cons, List.length_nil]; omega, ?_⟩
              · rw [k2'.length, ← lim_eq]; omega
              · rw [hk']; exact p5
          · refine ⟨false, rfl, iteF ?_⟩
            have p5 : Pst B W g1 H1 σ ρ (((Res.ok ([] : List D) st3).bind fun ds st' => lcLoop I body k (i + 1) (acc ++ ds) st').bind lcEnd) (kV B Q) := p4
            have p6 : Pst B W g1 H1 σ ρ ((lcLoop I body k (i + 1) (acc ++ []) st3).bind lcEnd) (kV B Q) := p5
            rw [List.append_nil] at p6
            exact ⟨g3, st3, acc, xs, back e4 s4.le, s2.trans s4, a1, k2'.mono s4.le.F, a3, a2, by omega, by omega, by rw [hk']; exact p6⟩
    · rw [if_neg hsz] at p3; exact p3.elim
  · have hin' : i = n := by omega
    subst hin'
    rw [Nat.sub_self] at p2
    have p3 : Pst B W g1 H1 σ ρ ((if I.size st2 = some i then Res.ok acc st2 else .stuck).bind lcEnd) (kV B Q) := p2
    by_cases hsz : I.size st2 = some i
    · rw [if_pos hsz] at p3
      have p4 : Pst B W g1 H1 σ ρ (.ok (.loc st2.length) (st2 ++ [.lst acc])) (kV B Q) := p3
      refine .inl ⟨it_stop e2 (hJ.up s2.le) hsz, ?_⟩
      refine p4 ⟨g2.F, g2.A ++ [a]⟩ H2 (e2.adopt ha2 k2' f6 f5 f3) ⟨⟨s2.le.F, s2.le.A.trans (List.prefix_append _ _)⟩, s2.frame, s2.freshF, fun b hb => ?_⟩ (.ref a) ⟨a, ?_, rfl⟩
      · rcases List.mem_append.mp hb with q | q
        · exact s2.freshA b q
        · have : b = a := by simpa using q
          exact .inr (by rw [this]; exact ha)
      · rw [← e2.len]; simp
    · rw [if_neg hsz] at p3; exact p3.elim
/-- the parts of a list comprehension -/
theorem lc_parts {own : List Nat} {tg : Tg} {it : It} {c elt : Ex} (hi : OKi T G it) (hc : OK T G c) (he : OK T G elt) {sc scope : Scope} {calm : Bool} {B : Bs} {X : Cx} {W : WX} (C : Cxt T sc calm G B X W) {eelt etg eit : Expr} {ifs : List Expr}
    (k1 : calm = true) (k2 : ownB T sc scope own = true) (k3 : tgB T scope tg etg = true) (k5 : chkI T sc calm it eit = true) (k6 : (ifs = [] ∧ c = .lit (.bl true)) ∨ ∃ ec, ifs = [ec] ∧ chk T scope calm c true ec = true) (k7 : chk T scope calm elt false eelt = true) :
    X.calm = true ∧ X.N.Nodup ∧ PI X etg eit (tI B W (evI G it)) ∧ plainE eit = true ∧ BlkOk X.N X.env.scope scope (own.map fun i => ((T.N.getD i Str.empty), i)) ∧ (own.map fun i => ((T.N.getD i Str.empty), i)).map (·.2) = own ∧
    (∀ (s : Shared) (H : Hp) (D : Addr) (cl : List (Str × Addr)) (fp : List Addr), PG (X.blk s H scope (compEnvC scope cl D X.env) fp) etg (tgG X.K tg)) ∧
    (∀ (s : Shared) (H : Hp) (D : Addr) (cl : List (Str × Addr)) (fp : List Addr), PTs (X.blk s H scope (compEnvC scope cl D X.env) fp) ifs (tT B (fun _ _ _ _ => False) (ev G c))) ∧
    (∀ (s : Shared) (H : Hp) (D : Addr) (cl : List (Str × Addr)) (fp : List Addr), PE (X.blk s H scope (compEnvC scope cl D X.env) fp) eelt (tE B (fun _ _ _ _ => False) (ev G elt))) := by
  obtain ⟨cm, room⟩ := C.calm k1
  obtain ⟨hI, pl⟩ := hi C etg eit k5
  have blk : BlkOk X.N X.env.scope scope (own.map fun i => ((T.N.getD i Str.empty), i)) := by
    rw [C.N]; exact blk_re C.sc (blkOk_by k2)
  have vs : (own.map fun i => ((T.N.getD i Str.empty), i)).map (·.2) = own := by
    rw [List.map_map]
    exact (List.map_congr_left fun i _ => rfl).trans (List.map_id own)
  have pg : ∀ (s : Shared) (H : Hp) (D : Addr) (cl : List (Str × Addr)) (fp : List Addr), PG (X.blk s H scope (compEnvC scope cl D X.env) fp) etg (tgG X.K tg) := fun s H D cl fp =>
    tgB_ok (X := X.blk s H scope (compEnvC scope cl D X.env) fp) C.N C.nd relabel_ok (fun x h => by show (scope.names.lookup x == some NameKind.cell) = true; rw [h]; rfl) cm k3
  have pt : ∀ (s : Shared) (H : Hp) (D : Addr) (cl : List (Str × Addr)) (fp : List Addr), PTs (X.blk s H scope (compEnvC scope cl D X.env) fp) ifs (tT B (fun _ _ _ _ => False) (ev G c)) := fun s H D cl fp => by
    rcases k6 with ⟨rfl, rfl⟩ | ⟨ec, rfl, k6⟩
    · refine pts_of pts_nil fun σ H Q ⟨g, ρ, st, er, p⟩ => ?_
      obtain ⟨b, hb, q⟩ := Pst.ok (show Pst B _ g H σ ρ (.ok (Val.fz (PD.D.bl true)) st) (fun v _ _ H' => ∃ b, v = Val.fz (PD.D.bl b) ∧ Q b H') from p) er
      cases hb
      exact q
    · exact pts_one ((hc (C.blk k1 s H D cl fp) ec).2 k6).1
  exact ⟨cm, by rw [C.N]; exact C.nd, hI, pl, blk, vs, pg, pt, fun s H D cl fp => (he (C.blk k1 s H D cl fp) eelt).1 k7⟩
theorem ok_lc (own : List Nat) (tg : Tg) {it : It} {c elt : Ex} (hi : OKi T G it) (hc : OK T G c) (he : OK T G elt) : OK T G (.lc own tg it c elt) := ok_val fun {sc calm B X W} C m e h => by
  obtain ⟨eelt, etg, eit, ifs, scope, pos, rfl, hm, k1, k2, k3, k4, k5, k6, k7⟩ := chk_lc h
  obtain ⟨cm, nd, hI, pl, blk, vs, pg, pt, pe⟩ := lc_parts hi hc he C k1 k2 k3 k5 k6 k7
  refine ⟨hm, pe_of (pe_lc cm nd hI blk pg pt pe (fold_ok pl)) fun σ H Q q => ?_⟩
  rw [vs]
  exact lc_read C k4 q
mutual
theorem ev_ok : ∀ c : Ex, OK T G c
  | .var i => ok_var i
  | .lit d => ok_lit d
  | .glo j => ok_glo j
  | .none_ => fun C e => ⟨fun h => absurd h (chk_false True.intro), fun h => absurd h (chk_false True.intro)⟩
  | .bin o a b => ok_bin o (ev_ok a) (ev_ok b)
  | .cmp o a b => ok_cmp o (ev_ok a) (ev_ok b)
  | .chain o o' a b c => ok_chain o o' (ev_ok a) (ev_ok b) (ev_ok c)
  | .neg a => ok_neg (ev_ok a)
  | .not_ a => ok_not (ev_ok a)
  | .and_ a b => ok_and (ev_ok a) (ev_ok b)
  | .or_ a b => ok_or (ev_ok a) (ev_ok b)
  | .ife c a b => ok_ife (ev_ok c) (ev_ok a) (ev_ok b)
  | .tru a => ok_tru (ev_ok a)
  | .tup es => ok_tup (evs_ok es)
  | .lst es => ok_lst (evs_ok es)
  | .idx a i => ok_idx (ev_ok a) (ev_ok i)
  | .slc a lo hi => ok_slc (ev_ok a) (ev_ok lo) (ev_ok hi)
  | .call j es => ok_call j (evs_ok es)
  | .bfn f es => ok_bfn f (evs_ok es)
  | .mth .bitlen a es => ok_bitlen (ev_ok a)
  | .fst a => ok_fst (ev_ok a)
  | .call0 j => ok_call0 j
  | .fst3 a s b => ok_fst3 s (ev_ok a) (ev_ok b)
  | .join a b => ok_join (ev_ok a) (ev_ok b)
  | .isi a ts tp => ok_isi (ev_ok a) ts tp
  | .isx i ts tp => ok_isx i ts tp
  | .xfld i f => ok_xfld i f
  | .isv i n => ok_isv i n
  | .pop i => fun C e => ⟨fun h => absurd h (chk_false True.intro), fun h => absurd h (chk_false True.intro)⟩
  | .lc own tg it c elt => ok_lc own tg (evI_ok it) (ev_ok c) (ev_ok elt)
theorem evs_ok : ∀ es : Exs, OKs T G es
  | .nil => ok_nil
  | .cons a as => ok_cons (ev_ok a) (evs_ok as)
theorem evI_ok : ∀ it : It, OKi T G it
  | .rng1 a => ok_rng1 (ev_ok a)
  | .rng2 a b => ok_rng2 (ev_ok a) (ev_ok b)
  | .seq a => ok_seq (ev_ok a)
end
end
end PD

/-! PD14 -/
set_option Elab.async false
set_option linter.all false
set_option maxRecDepth 100000
set_option maxHeartbeats 4000000
/-! PD: statements. -/
namespace PD
open PySem PySem.Spec PyProof.Rows L2

/-! ### the check -/
def notComp : Expr → Bool
  | .ListComp _ _ _ _ => false
  | .SetComp _ _ _ _ => false
  | .DictComp _ _ _ _ _ => false
  | _ => true
def notTup : Expr → Bool
  | .Tuple _ _ _ => false
  | _ => true
def isTupE : Expr → Bool
  | .Tuple _ _ _ => true
  | _ => false
/-- name = [..] is a statement of its own where the name is a local one of the block, on the same line, and no name of the comprehension -/
def lcOwn (sc : Scope) (x : Str) (p : Pos) (e : Expr) (scope : Scope) : Bool := locB sc x && ((p.line == e.pos.line) && !(scope.names.any fun q => q.1 == x && (q.2 == .local || q.2 == .cell)))
def asB (T : Tab) (sc : Scope) : Option Nat → Option Str → Bool
  | none, none => true
  | some i, some y => decide (T.N[i]? = some y) && locB sc y
  | _, _ => false
/-- an except clause's test: a class, or a tuple of classes -/
def tstB (T : Tab) (sc : Scope) (cs : List Str) (tp : Bool) (e : Expr) : Bool := match tp, cs, e with
  | false, [c], e => clsB T sc c e
  | true, cs, .Tuple es _ _ => clssB T sc cs es && decide (cs.length ≤ 1000)
  | _, _, _ => false
/-- try: f(..) except C as n: raise X(..) from n, in its parts -/
def tryxP : Stmt → Option (Expr × Pos × Expr × Str × Expr × Str × Pos × Pos × Pos × Pos)
  | .Try [.Expr cl p] [.ExceptHandler (some ct) (some n) [.Raise (some mk) (some (.Name n' p2)) p3] p4] [] [] p5 => some (cl, p, ct, n, mk, n', p2, p3, p4, p5)
  | _ => none
theorem tryxP_ok {t : Stmt} {cl : Expr} {p : Pos} {ct : Expr} {n : Str} {mk : Expr} {n' : Str} {p2 p3 p4 p5 : Pos} (h : tryxP t = some (cl, p, ct, n, mk, n', p2, p3, p4, p5)) :
    t = .Try [.Expr cl p] [.ExceptHandler (some ct) (some n) [.Raise (some mk) (some (.Name n' p2)) p3] p4] [] [] p5 := by
  unfold tryxP at h
  split at h
  · cases h; rfl
  · cases h
def mkxP : Expr → Option (Str × Pos × Expr × Pos)
  | .Call (.Name y p) [ea] [] q => some (y, p, ea, q)
  | _ => none
theorem mkxP_ok {e : Expr} {y : Str} {p : Pos} {ea : Expr} {q : Pos} (h : mkxP e = some (y, p, ea, q)) : e = .Call (.Name y p) [ea] [] q := by
  unfold mkxP at h
  split at h
  · cases h; rfl
  · cases h
def coldB (T : Tab) (j : Nat) : Bool := match T.fns[j]? with
  | some (x, _) => T.cold.contains x
  | none => false
mutual
def chkSt (T : Tab) (exc : List Str) (sc : Scope) (calm : Bool) : St → Stmt → Bool
  | .asg t e, .Assign [tg] v _ => (calm || (match t with
      | .nm _ => notComp v
      | _ => false)) && (tgB T sc t tg && (chk T sc calm e false v && (match t, tg, v with
      | .nm _, .Name x p, .ListComp a b scope d => lcOwn sc x p (.ListComp a b scope d) scope || celB sc x
      | .nm _, .Name _ _, v => notComp v
      | .tp _, _, v => notComp v && notTup v
      | _, _, _ => false)))
  | .six i k e, .Assign [.Subscript (.Name x _) ek _] v _ => decide (T.N[i]? = some x) && (visB sc x && (PD.seen x && (notComp v && (chk T sc calm e false v && (plainE ek && chk T sc calm k false ek)))))
  | .app i e, .Expr (.Call (.Attribute (.Name x _) m ap) [ee] [] cp) _ => decide (T.N[i]? = some x) && (visB sc x && (PD.seen x && (decide (m = "append") && ((ap.endLine == cp.line) && (plainE ee && chk T sc calm e false ee)))))
  | .exp e, .Expr v _ => notComp v && chk T sc calm e false v
  | .if_ c a b, .If ec ea eb _ => chk T sc calm c true ec && (chkSs T exc sc calm a ea && chkSs T exc sc calm b eb)
  | .whl c b, .While ec eb [] _ => calm && (chk T sc calm c true ec && chkSs T exc sc calm b eb)
  | .for_ t it b, .For tg ei eb [] _ => calm && (tgB T sc t tg && (chkI T sc calm it ei && chkSs T exc sc calm b eb))
  | .ret e, .Return (some v) _ => chk T sc calm e false v
  | .retl e, .Return (some v) _ => chk T sc calm e false v
  | .dead, _ => true
  | .retn, .Return none _ => true
  | .pass, .Pass _ => true
  | .brk, .Break _ => true
  | .cnt, .Continue _ => true
  | .rais c, .Raise (some (.Call (.Name x _) [.Constant (.str _) _ _] [] _)) none _ => calm && (decide (c = x) && (exc.contains x && (glB sc x && PD.seen x)))
  | .raisf c f e, .Raise (some (.Call (.Name x _) [ea] [] _)) none _ => calm && (decide (c = x) && (T.raf.contains (c, f) && (T.free.contains "super" && (glB sc x && (PD.seen x && (plainE ea && chk T sc calm e false ea))))))
  | .tryx j es c i x f e, t => (match tryxP t with
    | some (cl, _, ct, n, mk, n', _, _, _, _) => (match mkxP mk with
      | some (y, _, ea, _) => calm && (chk T sc calm (.call j es) false cl && (coldB T j && (clsB T sc c ct && (decide (T.N[i]? = some n) && (locB sc n && (PD.seen n && (decide (n = n') && (decide (x = y) && (T.raf.contains (x, f) && (T.free.contains "super" && (glB sc y && (PD.seen y && (plainE ea && chk T sc false e false ea)))))))))))))
      | none => false)
    | none => false)
  | .try_ b hs, .Try eb (eh :: ehs) [] [] _ => calm && (chkSs T exc sc calm b eb && chkHs T exc sc hs (eh :: ehs))
  | _, _ => false
def chkSs (T : Tab) (exc : List Str) (sc : Scope) (calm : Bool) : Sts → List Stmt → Bool
  | .nil, [] => true
  | .cons s ss, t :: ts => chkSt T exc sc calm s t && chkSs T exc sc calm ss ts
  | _, _ => false
def chkHs (T : Tab) (exc : List Str) (sc : Scope) : Hds → List ExceptHandler → Bool
  | .nil, [] => true
  | .cons cs tp as_ b hs, .ExceptHandler (some e) n (b0 :: bs) _ :: rest => tstB T sc cs tp e && (asB T sc as_ n && (chkSs T exc sc false b (b0 :: bs) && chkHs T exc sc hs rest))
  | _, _ => false
end

/-! ### what must hold behind a statement -/
def SPst (B : Bs) (W : WX) (g : Gh) (Z : Ends) : SR → Prop
  | .nx ρ st => ∀ g' H σ, g.le g' → ER B g' H σ ρ st → Z.nx σ H
  | .bk ρ st => ∀ g' H σ, g.le g' → ER B g' H σ ρ st → Z.bk σ H
  | .ct ρ st => ∀ g' H σ, g.le g' → ER B g' H σ ρ st → Z.ct σ H
  | .rt d st => ∀ g' H σ ρ x, g.le g' → ER B g' H σ ρ st → Rep B.R g'.F x d → Z.rt x H
  | .rtl ds st => ∀ g' H σ ρ a xs, g.le g' → ER B g' H σ ρ st → g'.F a = none → B.H0 a = none → H a = some (.lst xs) → RepL B.R g'.F xs ds → Z.rt (.ref a) H
  | .exc x ρ st => ∀ g' H σ cls dd, g.le g' → ER B g' H σ ρ st → XR B.R g'.F x cls dd → W cls dd σ H
  | .stuck => False
def tS (B : Bs) (W : WX) (c : Slots → Store → SR) : TS := fun Z σ H => ∃ g ρ st, ER B g H σ ρ st ∧ SPst B W g Z (c ρ st)
section
variable {B : Bs} {W : WX} {g g' : Gh} {Z : Ends}
theorem SPst.le {r : SR} (h : SPst B W g Z r) (l : g.le g') : SPst B W g' Z r := by
  cases r with
  | nx ρ st => exact fun g2 H σ l2 e => h g2 H σ (l.trans l2) e
  | bk ρ st => exact fun g2 H σ l2 e => h g2 H σ (l.trans l2) e
  | ct ρ st => exact fun g2 H σ l2 e => h g2 H σ (l.trans l2) e
  | rt d st => exact fun g2 H σ ρ x l2 e r => h g2 H σ ρ x (l.trans l2) e r
  | rtl ds st => exact fun g2 H σ ρ a xs l2 e => h g2 H σ ρ a xs (l.trans l2) e
  | exc x ρ st => exact fun g2 H σ cls dd l2 e r => h g2 H σ cls dd (l.trans l2) e r
  | stuck => exact h
theorem SPst.nx {ρ : Slots} {st : Store} {H : Hp} {σ : L2.St} (h : SPst B W g Z (.nx ρ st)) (e : ER B g H σ ρ st) : Z.nx σ H := h g H σ (Gh.le.refl g) e
theorem SPst.pick {α : Type} {o : Option α} {f : α → SR} (h : SPst B W g Z (pickS o f)) : ∃ a, o = some a ∧ SPst B W g Z (f a) := by
  cases o with
  | none => exact h.elim
  | some a => exact ⟨a, rfl, h⟩
/-- an expression, then -/
theorem SPst.ev {α : Type} {r : Res α} {ρ : Slots} {H : Hp} {σ : L2.St} {f : α → Store → SR} (h : SPst B W g Z (r.sr ρ f)) : Pst B W g H σ ρ r (fun a st1 g1 H1 => SPst B W g1 Z (f a st1)) := by
  cases r with
  | ok a st1 => exact fun g1 H1 e1 s1 => SPst.le (show SPst B W g Z (f a st1) from h) s1.le
  | exc x st1 => exact fun g1 H1 cls dd e1 s1 xr => h g1 H1 σ cls dd s1.le e1 xr
  | stuck => exact h
/-- what is handed on, then -/
theorem SPst.fr {v : Val} {ρ : Slots} {st : Store} {H : Hp} {σ : L2.St} {x : V} {f : D → Store → SR} (e : ER B g H σ ρ st) (r : ValR B.R B.ex g.F g.A x v) (h : SPst B W g Z ((fr B.io.length v st).sr ρ f)) :
    ∃ d st' F', ER B ⟨F', g.A⟩ H σ ρ st' ∧ Step g H ⟨F', g.A⟩ H ∧ Rep B.R F' x d ∧ SPst B W ⟨F', g.A⟩ Z (f d st') := by
  cases q : PD.fr B.io.length v st with
  | stuck => rw [q] at h; exact h.elim
  | exc x st1 => exact (fr_no_exc q).elim
  | ok d st' =>
    obtain ⟨F', e', s', r'⟩ := e.fr r q
    rw [q] at h
    exact ⟨d, st', F', e', s', r', SPst.le (show SPst B W g Z (f d st') from h) s'.le⟩
end

/-- a def's promise where what it raises has no context -/
def FnHasN (R : RC) (X : Cx) (k : Nat) (x : Str) (n : Nat) (fi : FnI) : Prop :=
  ∃ (f : Addr) (fd : FuncData) (ps : List Str) (ds : List Value) (dvs : List V), X.mg x = some (.ref f) ∧ PySem.W.keepIn X.K (.ref f) = true ∧ Binds X.K fd ps ds ∧ Vals dvs ds ∧
    FnOk X.prog X.w X.K X.mg X.base (L2N.CX X.prog X.w) k f fd ps (spOf R ps.length fi.f) ∧ n + dvs.length = ps.length ∧ ∀ F, RepL R F dvs fi.dfl
structure CxtS (T : Tab) (exc : List Str) (sc : Scope) (cm : Bool) (G : Gam) (B : Bs) (X : Cx) (W : WX) : Prop extends Cxt T sc cm G B X W where
  po : cm = true → PassesOwn (model X.prog X.w) X.A X.env X.xe
  bk : X.env.blockKind = .function
  stk : cm = true → X.stack = X.env :: X.outer ∧ X.env.frame = some X.env.locals ∧ B.ex = none
  raf : ∀ p ∈ T.raf, ∃ C fI, PySem.SupX.SupTxt X.prog X.K X.mg C fI p.1 p.2
  exc_ : ∀ x ∈ exc, ∃ C, X.mg x = some (.ref C) ∧ PySem.W.excIn X.K C [.type "ValueError", .type "Exception", .type "BaseException", .type "object"] "ValueError.__new__" = true ∧ PySem.W.keepIn X.K (.ref C) = true ∧
    PySem.W.subIn X.K (.ref C) (.type "BaseException") = some true ∧ PySem.W.typeIn X.K (.ref C) = some (.type "type")
  cold : ∀ (j : Nat) (fi : FnI) (x : Str) (n : Nat), G.fns[j]? = some fi → T.fns[j]? = some (x, n) → x ∈ T.cold → FnHasN B.R X T.lv x n fi

section
variable {X : Cx}
theorem ps_of {st : Stmt} {t t' : TS} (h : PS X st t) (i : ∀ Z σ H, t' Z σ H → t Z σ H) : PS X st t' := ⟨fun pins s σ H Z I q => h.run pins s σ H Z I (i Z σ H q)⟩
theorem pss_of {st : List Stmt} {t t' : TS} (h : PSs X st t) (i : ∀ Z σ H, t' Z σ H → t Z σ H) : PSs X st t' := ⟨fun pins s σ H Z I q => h.run pins s σ H Z I (i Z σ H q)⟩
end
def OKS (T : Tab) (exc : List Str) (G : Gam) (s : St) : Prop := ∀ {sc : Scope} {calm : Bool} {B : Bs} {X : Cx} {W : WX}, CxtS T exc sc calm G B X W → ∀ t : Stmt, chkSt T exc sc calm s t = true → PS X t (tS B W (ex G s))
def OKSs (T : Tab) (exc : List Str) (G : Gam) (s : Sts) : Prop := ∀ {sc : Scope} {calm : Bool} {B : Bs} {X : Cx} {W : WX}, CxtS T exc sc calm G B X W → ∀ t : List Stmt, chkSs T exc sc calm s t = true → PSs X t (tS B W (exs G s))

section
variable {T : Tab} {exc : List Str} {G : Gam}
theorem swap_no {v : Expr} {t : Option Expr} {n : Nat} {env : Env} (h : notComp v = true) : swapsWith v t n env = pure false := by
  cases v <;> first
    | rfl
    | exact Bool.noConfusion (show false = true from h)
theorem swap_lc {X : Cx} {sc : Scope} (hb : X.env.blockKind = .function) (hs : ScR sc X.env.scope) {x : Str} {p : Pos} {a : Expr} {gs : List Comprehension} {scope : Scope} {d : Pos} (h : lcOwn sc x p (.ListComp a gs scope d) scope = true) :
    swapsWith (.ListComp a gs scope d) (some (.Name x p)) p.line X.env = pure true ∧ X.env.scope.names.lookup x = some .local := by
  obtain ⟨h1, h2⟩ := b2 h
  obtain ⟨h2, h3⟩ := b2 h2
  have hl := locB_ok hs h1
  refine ⟨?_, hl⟩
  show (pure (X.env.blockKind == .function && X.env.kindOf x == some .local && p.line == (Expr.ListComp a gs scope d).pos.line && !(scope.names.any fun (n, k) => n == x && (k == .local || k == .cell))) : Sem Bool) = pure true
  have e1 : (X.env.blockKind == ScopeKind.function) = true := by rw [hb]; rfl
  have e2 : (X.env.kindOf x == some NameKind.local) = true := by
    have : X.env.kindOf x = some .local := hl
    rw [this]; rfl
  rw [e1, e2, h2]
  rw [show (scope.names.any fun (n, k) => n == x && (k == .local || k == .cell)) = (scope.names.any fun q => q.1 == x && (q.2 == .local || q.2 == .cell)) from rfl]
  rw [h3]
  rfl
theorem sok_asg (t : Tg) (e : Ex) : OKS T exc G (.asg t e) := by
  intro sc calm B X W C s h
  cases s with
  | Assign ts v pos =>
    cases ts with
    | nil => exact Bool.noConfusion (show false = true from h)
    | cons tg ts =>
      cases ts with
      | cons _ _ => exact Bool.noConfusion (show false = true from h)
      | nil =>
        obtain ⟨k1, q1⟩ := b2 h
        obtain ⟨k2, q2⟩ := b2 q1
        obtain ⟨k3, k4⟩ := b2 q2
        have read : ∀ (Z : Ends) (σ : L2.St) (H : Hp), tS B W (ex G (.asg t e)) Z σ H → tE B W (ev G e) σ H (fun x H1 => tgG X.K t x σ H1 Z.nx) := fun Z σ H ⟨g, ρ, st, er, p⟩ => by
          have p' : SPst B W g Z ((ev G e ρ st).sr ρ fun v st => pickS (asgT t v ρ st) fun ρ => .nx ρ st) := p
          refine ⟨g, ρ, st, er, p'.ev.imp fun v st1 g1 H1 e1 s1 p1 x rx => ?_⟩
          obtain ⟨ρ', q, p1⟩ := p1.pick
          rw [C.K]
          exact tg_ok e1 rx q fun σ' e2 _ => p1.nx e2
        cases t with
        | nm i =>
          obtain ⟨_, x, p, rfl⟩ := nmB_ok (i := i) C.N C.nd C.sc C.fn (show nmB T sc i tg = true by cases tg <;> exact k2)
          obtain ⟨n1, n2⟩ := b2 (show (decide (T.N[i]? = some x) && (locB sc x || celB sc x)) = true from k2)
          have hL : Loc X.env.scope x ∧ (X.fn x = true ∨ X.env.scope.names.lookup x = some .local) := by
            rcases Bool.or_eq_true_iff.mp n2 with n2 | n2
            · exact ⟨.inl (locB_ok C.sc n2), .inr (locB_ok C.sc n2)⟩
            · exact ⟨.inr (C.sc.cl x (celB_ok n2)), .inl (C.fn x (celB_ok n2))⟩
          by_cases hv : notComp v = true
          · exact ps_of (ps_set (i := i) (by rw [C.N]; exact C.nd) (by rw [C.N]; exact of_decide_eq_true n1) hL.1 ((ev_ok e C.toCxt v).1 k3) (swap_no hv) hL.2) fun Z σ H q => read Z σ H q
          · cases v <;> first
              | exact absurd rfl hv
              | skip
            · rename_i a gs scope d
              cases e <;> first
                | (exfalso; cases gs <;> exact Bool.noConfusion (show false = true from k3))
                | skip
              rename_i own tg it c elt
              obtain ⟨eelt, etg, eit, ifs, scope', pos', e0, hm, j1, j2, j3, j4, j5, j6, j7⟩ := chk_lc k3
              cases e0
              obtain ⟨cm, room⟩ := C.calm j1
              obtain ⟨_, nd, hI, pl, blk, vs, pg', pt, pe⟩ := lc_parts (evI_ok it) (ev_ok c) (ev_ok elt) C.toCxt j1 j2 j3 j5 j6 j7
              rcases Bool.or_eq_true_iff.mp (show (lcOwn sc x p (.ListComp a [⟨etg, eit, ifs, 0⟩] scope d) scope || celB sc x) = true from k4) with k4 | k4
              rotate_left
              · have kk : X.env.kindOf x = some .cell := C.sc.cl x (celB_ok k4)
                exact ps_of (ps_set (i := i) (by rw [C.N]; exact C.nd) (by rw [C.N]; exact of_decide_eq_true n1) hL.1 ((ev_ok (.lc own tg it c elt) C.toCxt _).1 k3) (by
                  show (pure (X.env.blockKind == .function && X.env.kindOf x == some .local && p.line == (Expr.ListComp a [⟨etg, eit, ifs, 0⟩] scope d).pos.line && !(scope.names.any fun (n, k) => n == x && (k == .local || k == .cell))) : Sem Bool) = pure false
                  have e2 : (X.env.kindOf x == some NameKind.local) = false := by rw [kk]; rfl
                  rw [e2, Bool.and_false, Bool.false_and, Bool.false_and]) hL.2) fun Z σ H q => read Z σ H q
              obtain ⟨sw, hl⟩ := swap_lc (X := X) C.bk C.sc k4
              refine ps_of (ps_setLc (i := i) cm nd (by rw [C.N]; exact of_decide_eq_true n1) hl sw hI blk pg' pt pe (fold_ok pl)) fun Z σ H q => ?_
              rw [vs]
              exact lc_read C.toCxt j4 (read Z σ H q)
            · exact Bool.noConfusion (show false = true from k4)
            · exact Bool.noConfusion (show false = true from k4)
        | tp is =>
          cases tg <;> first
            | exact Bool.noConfusion (show false = true from k2)
            | skip
          rename_i es k p
          obtain ⟨hv, ht⟩ := b2 (show (notComp v && notTup v) = true from k4)
          have kc : calm = true := by simpa using (show (calm || false) = true from k1)
          obtain ⟨cm, room⟩ := C.calm kc
          have pg := tgB_ok (t := .tp is) (e := Expr.Tuple es k p) C.N C.nd C.sc C.fn cm k2
          have hs : swapsWithSole [Expr.Tuple es k p] v pos.line X.env = pure false := by
            show swapsWith v (some (Expr.Tuple es k p)) pos.line X.env = pure false
            exact swap_no hv
          have hw : swappedStores [Expr.Tuple es k p] v X.env = pure none := by
            cases v <;> first
              | rfl
              | exact Bool.noConfusion (show false = true from ht)
          exact ps_of (ps_asg ((ev_ok e C.toCxt v).1 k3) pg hs hw rfl) fun Z σ H q => read Z σ H q
  | _ => exact Bool.noConfusion (show false = true from h)
theorem chkSt_six {sc : Scope} {calm : Bool} {i : Nat} {k e : Ex} {s : Stmt} (h : chkSt T exc sc calm (.six i k e) s = true) : ∃ x p1 ek p2 v pos, s = .Assign [.Subscript (.Name x p1) ek p2] v pos ∧ T.N[i]? = some x ∧ visB sc x = true ∧ PD.seen x = true ∧ notComp v = true ∧ chk T sc calm e false v = true ∧ plainE ek = true ∧ chk T sc calm k false ek = true := by
  cases s with
  | Assign ts v pos =>
    cases ts with
    | nil => exact Bool.noConfusion (show false = true from h)
    | cons tg ts =>
      cases tg with
      | Subscript o ek p2 =>
        cases o with
        | Name x p1 =>
          cases ts with
          | cons _ _ => exact Bool.noConfusion (show false = true from h)
          | nil =>
            obtain ⟨k1, q1⟩ := b2 h
            obtain ⟨k2, q2⟩ := b2 q1
            obtain ⟨k3, q3⟩ := b2 q2
            obtain ⟨k4, q4⟩ := b2 q3
            obtain ⟨k5, q5⟩ := b2 q4
            obtain ⟨k6, k7⟩ := b2 q5
            exact ⟨x, p1, ek, p2, v, pos, rfl, of_decide_eq_true k1, k2, k3, k4, k5, k6, k7⟩
        | _ => cases ts <;> exact Bool.noConfusion (show false = true from h)
      | _ => cases ts <;> exact Bool.noConfusion (show false = true from h)
  | _ => exact Bool.noConfusion (show false = true from h)
theorem ER.varAt {B : Bs} {g : Gh} {H : Hp} {σ : L2.St} {ρ : Slots} {st : Store} (er : ER B g H σ ρ st) {i : Nat} {v : Val} (q : ρ[i]? = some (some v)) : ∃ x, σ[i]? = some (some x) ∧ ValR B.R B.ex g.F g.A x v := by
  have hi : i < σ.length := by
    rw [er.slen]; exact (List.getElem?_eq_some_iff.mp q).1
  obtain ⟨x, e1, r⟩ := er.slots i _ _ (List.getElem?_eq_getElem hi) q
  exact ⟨x, by rw [List.getElem?_eq_getElem hi, e1], r⟩
theorem assign_sub {o ek : Expr} {p : Pos} {env : Env} {v : Value} (h : plainE ek = true) : assign (.Subscript o ek p) env v = (do
      let ov ← holding [v] (eval o env)
      let iv ← holding [v, ov] (eval ek env)
      standAt p
      holding [v, ov, iv] (setItem ov iv v)
      release [v, ov, iv] []) := by
  cases ek <;> first
    | rfl
    | exact Bool.noConfusion (show false = true from h)
theorem sok_six (i : Nat) (k e : Ex) : OKS T exc G (.six i k e) := by
  intro sc calm B X W C s h
  obtain ⟨x, p1, ek, p2, v, pos, rfl, k1, k2, k3, k4, k5, k6, k7⟩ := chkSt_six h
  obtain ⟨n1, n2, _, _⟩ := seen_ok k3
  have pgs : PG X (.Subscript (.Name x p1) ek p2) (gSub (tVar i) (tE B W (ev G k)) rSetL) := pg_sub (pe_var (i := i) (by rw [C.N]; exact k1) (C.vis k2) n1 n2) ((ev_ok k C.toCxt ek).1 k7) set_list (fun _ => assign_sub k6)
  have hs : swapsWithSole [Expr.Subscript (.Name x p1) ek p2] v pos.line X.env = pure false := by
    show swapsWith v (some (Expr.Subscript (.Name x p1) ek p2)) pos.line X.env = pure false
    exact swap_no k4
  refine ps_of (ps_asg ((ev_ok e C.toCxt v).1 k5) pgs hs rfl rfl) fun Z σ H ⟨g, ρ, st, er, p⟩ => ?_
  have p' : SPst B W g Z ((ev G e ρ st).sr ρ fun v st => match ρ[i]? with
    | some (some (.loc n)) => (ev G k ρ st).sr ρ fun y st => (fr G.io v st).sr ρ fun d st => (match dr st y, st[n]? with
      | some (.int j), some (.lst ds) => pickS (ixN ds.length j) fun m => .nx ρ (st.set n (.lst (ds.set m d)))
      | _, _ => .stuck)
    | _ => .stuck) := p
  refine ⟨g, ρ, st, er, p'.ev.imp fun w st1 g1 H1 e1 s1 p1 xv rv => ?_⟩
  cases q : ρ[i]? with
  | none => simp only [q] at p1; exact p1.elim
  | some o =>
    cases o with
    | none => simp only [q] at p1; exact p1.elim
    | some vi =>
      cases vi with
      | fz _ => simp only [q] at p1; exact p1.elim
      | exn _ => simp only [q] at p1; exact p1.elim
      | loc n =>
        simp only [q] at p1
        obtain ⟨xo, hx, rx⟩ := e1.varAt q
        refine ⟨xo, hx, g1, ρ, st1, e1, p1.ev.imp fun y st2 g2 H2 e2 s2 p2 yv ry => ?_⟩
        rw [C.io] at p2
        obtain ⟨d, st3, F3, e3, s3, r3, p3⟩ := p2.fr e2 (rv.up s2.le)
        cases q1 : dr st3 y with
        | none => simp only [q1] at p3; exact p3.elim
        | some dy =>
          cases q2 : st3[n]? with
          | none => simp only [q1, q2] at p3; cases dy <;> exact p3.elim
          | some c =>
            cases dy with
            | int j =>
              cases c with
              | lst ds =>
                simp only [q1, q2] at p3
                obtain ⟨m, q3, p4⟩ := p3.pick
                obtain ⟨a, hA, rfl⟩ := rx.up (s2.le.trans s3.le)
                obtain rfl := (e3.rd (ry.up s3.le) q1).int
                obtain ⟨_, xs, hxs, k⟩ := e3.conts n a _ hA q2
                refine ⟨a, xs, j, m, rfl, rfl, hxs, by rw [k.length]; exact q3, ?_⟩
                obtain ⟨e4, s4⟩ := e3.put (c := .lst (ds.set m d)) (o := .lst (xs.set m xv)) hA q2 rfl rfl fun H' hH => ⟨(e3.conts n a _ hA q2).out rfl, _, hH, k.set m r3⟩
                exact p4 _ _ _ (Gh.le.refl _) e4
              | _ => simp only [q1, q2] at p3; exact p3.elim
            | _ => simp only [q1, q2] at p3; exact p3.elim
theorem chkSt_app {sc : Scope} {calm : Bool} {i : Nat} {e : Ex} {s : Stmt} (h : chkSt T exc sc calm (.app i e) s = true) : ∃ x p1 ap ee cp pos, s = .Expr (.Call (.Attribute (.Name x p1) "append" ap) [ee] [] cp) pos ∧ T.N[i]? = some x ∧ visB sc x = true ∧ PD.seen x = true ∧ (ap.endLine == cp.line) = true ∧ plainE ee = true ∧ chk T sc calm e false ee = true := by
  cases s with
  | Expr v pos =>
    cases v with
    | Call f es kws cp =>
      cases f with
      | Attribute o m ap =>
        cases o with
        | Name x p1 =>
          cases es with
          | nil => exact Bool.noConfusion (show false = true from h)
          | cons ee es =>
            cases es with
            | cons _ _ => exact Bool.noConfusion (show false = true from h)
            | nil =>
              cases kws with
              | cons _ _ => exact Bool.noConfusion (show false = true from h)
              | nil =>
                obtain ⟨k1, q1⟩ := b2 h
                obtain ⟨k2, q2⟩ := b2 q1
                obtain ⟨k3, q3⟩ := b2 q2
                obtain ⟨k4, q4⟩ := b2 q3
                obtain ⟨k5, q5⟩ := b2 q4
                obtain ⟨k6, k7⟩ := b2 q5
                have hm : m = "append" := of_decide_eq_true k4
                subst hm
                exact ⟨x, p1, ap, ee, cp, pos, rfl, of_decide_eq_true k1, k2, k3, k5, k6, k7⟩
        | _ => cases es <;> exact Bool.noConfusion (show false = true from h)
      | _ => cases es <;> exact Bool.noConfusion (show false = true from h)
    | _ => exact Bool.noConfusion (show false = true from h)
  | _ => exact Bool.noConfusion (show false = true from h)
theorem sok_app (i : Nat) (e : Ex) : OKS T exc G (.app i e) := by
  intro sc calm B X W C s h
  obtain ⟨x, p1, ap, ee, cp, pos, rfl, k1, k2, k3, k4, k5, k6⟩ := chkSt_app h
  obtain ⟨n1, n2, _, _⟩ := seen_ok k3
  have hfew : ((backTo cp (starEach (ee :: []) X.env)).all (fun x => !x.1) && (backToKw cp (keywordEach [] X.env)).all (fun x => x.1.isSome) && decide ((ee :: []).length + ([] : List Keyword).length + (if ([] : List Keyword).isEmpty then 0 else 1) < 30)) = true := by
    rw [star_ok k5] <;> rfl
  refine ps_of (ps_expr (pe_bm PySem.F.plainAttrs_list PySem.F.slot_list_append PySem.F.type_list_append mt_append (pe_var (i := i) (by rw [C.N]; exact k1) (C.vis k2) n1 n2)
    (pa_cons ((ev_ok e C.toCxt ee).1 k6) pa_nil (star_ok k5)) rfl hfew k4 (star_ok k5) rfl) rfl) fun Z σ H ⟨g, ρ, st, er, p⟩ => ?_
  have p' : SPst B W g Z (match ρ[i]? with
    | some (some (.loc n)) => (match st[n]? with
      | some (.lst _) => (ev G e ρ st).sr ρ fun v st => (fr G.io v st).sr ρ fun d st => (match st[n]? with
        | some (.lst ds) => if ds.length < LIM then .nx ρ (st.set n (.lst (ds ++ [d]))) else .stuck
        | _ => .stuck)
      | _ => .stuck)
    | _ => .stuck) := p
  cases q : ρ[i]? with
  | none => simp only [q] at p'; exact p'.elim
  | some o =>
    cases o with
    | none => simp only [q] at p'; exact p'.elim
    | some vi =>
      cases vi with
      | fz _ => simp only [q] at p'; exact p'.elim
      | exn _ => simp only [q] at p'; exact p'.elim
      | loc n =>
        simp only [q] at p'
        obtain ⟨xo, hx, rx⟩ := er.varAt q
        refine ⟨xo, hx, ?_⟩
        obtain ⟨a, hA, rfl⟩ := id rx
        cases q0 : st[n]? with
        | none => simp only [q0] at p'; exact p'.elim
        | some c0 =>
          cases c0 with
          | lst ds0 =>
            simp only [q0] at p'
            obtain ⟨_, xs0, hxs0, _⟩ := er.conts n a _ hA q0
            refine ⟨.inl ⟨rfl, xs0, SqL.of hxs0⟩, g, ρ, st, er, p'.ev.imp fun w st1 g1 H1 e1 s1 p1 xv rv => ?_⟩
            rw [C.io] at p1
            obtain ⟨d, st3, F3, e3, s3, r3, p3⟩ := p1.fr e1 rv
            cases q2 : st3[n]? with
            | none => simp only [q2] at p3; exact p3.elim
            | some c =>
              cases c with
              | lst ds =>
                simp only [q2] at p3
                by_cases hz : ds.length < LIM
                · rw [if_pos hz] at p3
                  obtain ⟨a', hA', e'⟩ := rx.up (s1.le.trans s3.le)
                  cases e'
                  obtain ⟨_, xs, hxs, k⟩ := e3.conts n a _ hA' q2
                  refine ⟨a, xs, xv, rfl, rfl, hxs, by rw [k.length, ← lim_eq]; exact hz, ?_⟩
                  obtain ⟨e4, s4⟩ := e3.put (c := .lst (ds ++ [d])) (o := .lst (xs ++ [xv])) hA' q2 rfl rfl fun H' hH => ⟨(e3.conts n a _ hA' q2).out rfl, _, hH, k.append (.cons r3 .nil)⟩
                  exact p3 _ _ _ (Gh.le.refl _) e4
                · rw [if_neg hz] at p3; exact p3.elim
              | _ => simp only [q2] at p3; exact p3.elim
          | _ => simp only [q0] at p'; exact p'.elim
theorem sok_exp (e : Ex) : OKS T exc G (.exp e) := by
  intro sc calm B X W C s h
  cases s with
  | Expr v pos =>
    obtain ⟨k1, k2⟩ := b2 (show (notComp v && chk T sc calm e false v) = true from h)
    refine ps_of (ps_expr ((ev_ok e C.toCxt v).1 k2) (swap_no k1)) fun Z σ H ⟨g, ρ, st, er, p⟩ => ?_
    have p' : SPst B W g Z ((ev G e ρ st).sr ρ fun _ st => .nx ρ st) := p
    exact ⟨g, ρ, st, er, p'.ev.imp fun w st1 g1 H1 e1 s1 p1 xv rv => p1.nx e1⟩
  | _ => exact Bool.noConfusion (show false = true from h)
theorem spst_bool {B : Bs} {W : WX} {g : Gh} {Z : Ends} {x : Val} {kt kf : SR} (p : SPst B W g Z (match x with | .fz (.bl true) => kt | .fz (.bl false) => kf | _ => .stuck)) : (x = .fz (.bl true) ∧ SPst B W g Z kt) ∨ (x = .fz (.bl false) ∧ SPst B W g Z kf) := by
  split at p
  · exact .inl ⟨rfl, p⟩
  · exact .inr ⟨rfl, p⟩
  · exact p.elim
theorem sok_if (c : Ex) {a b : Sts} (ha : OKSs T exc G a) (hb : OKSs T exc G b) : OKS T exc G (.if_ c a b) := by
  intro sc calm B X W C s h
  cases s with
  | If ec ea eb pos =>
    obtain ⟨k1, q1⟩ := b2 (show (chk T sc calm c true ec && (chkSs T exc sc calm a ea && chkSs T exc sc calm b eb)) = true from h)
    obtain ⟨k2, k3⟩ := b2 q1
    refine ps_of (ps_if ((ev_ok c C.toCxt ec).2 k1).1 (ha C ea k2) (hb C eb k3)) fun Z σ H ⟨g, ρ, st, er, p⟩ => ?_
    have p' : SPst B W g Z ((ev G c ρ st).sr ρ fun x st => match x with
      | .fz (.bl true) => exs G a ρ st
      | .fz (.bl false) => exs G b ρ st
      | _ => .stuck) := p
    refine ⟨g, ρ, st, er, p'.ev.imp fun w st1 g1 H1 e1 s1 p1 => ?_⟩
    rcases spst_bool p1 with ⟨rfl, p2⟩ | ⟨rfl, p2⟩
    · exact ⟨true, rfl, iteT ⟨g1, ρ, st1, e1, p2⟩⟩
    · exact ⟨false, rfl, iteF ⟨g1, ρ, st1, e1, p2⟩⟩
  | _ => exact Bool.noConfusion (show false = true from h)
theorem sok_ret (e : Ex) : OKS T exc G (.ret e) := by
  intro sc calm B X W C s h
  cases s with
  | Return v pos =>
    cases v with
    | none => exact Bool.noConfusion (show false = true from h)
    | some v =>
      refine ps_of (ps_ret ((ev_ok e C.toCxt v).1 h)) fun Z σ H ⟨g, ρ, st, er, p⟩ => ?_
      have p' : SPst B W g Z ((ev G e ρ st).sr ρ fun v st => (fr G.io v st).sr ρ fun d st => .rt d st) := p
      refine ⟨g, ρ, st, er, p'.ev.imp fun w st1 g1 H1 e1 s1 p1 xv rv => ?_⟩
      rw [C.io] at p1
      obtain ⟨d, st3, F3, e3, s3, r3, p3⟩ := p1.fr e1 rv
      exact p3 _ _ _ _ _ (Gh.le.refl _) e3 r3
  | _ => exact Bool.noConfusion (show false = true from h)
theorem sok_retl (e : Ex) : OKS T exc G (.retl e) := by
  intro sc calm B X W C s h
  cases s with
  | Return v pos =>
    cases v with
    | none => exact Bool.noConfusion (show false = true from h)
    | some v =>
      refine ps_of (ps_ret ((ev_ok e C.toCxt v).1 h)) fun Z σ H ⟨g, ρ, st, er, p⟩ => ?_
      have p' : SPst B W g Z ((ev G e ρ st).sr ρ fun v st => match v with
        | .loc n => if G.io ≤ n then (match st[n]? with
          | some (.lst ds) => .rtl ds st
          | _ => .stuck) else .stuck
        | _ => .stuck) := p
      refine ⟨g, ρ, st, er, p'.ev.imp fun w st1 g1 H1 e1 s1 p1 xv rv => ?_⟩
      cases w with
      | fz _ => exact p1.elim
      | exn _ => exact p1.elim
      | loc n =>
        simp only at p1
        by_cases hn : G.io ≤ n
        · rw [if_pos hn] at p1
          cases q : st1[n]? with
          | none => simp only [q] at p1; exact p1.elim
          | some c =>
            cases c with
            | lst ds =>
              simp only [q] at p1
              obtain ⟨a, hA, rfl⟩ := rv
              obtain ⟨hF, xs, hxs, k⟩ := e1.conts n a _ hA q
              exact p1 _ _ _ _ a xs (Gh.le.refl _) e1 hF (e1.own n a (by rw [← C.io]; exact hn) hA) hxs k
            | _ => simp only [q] at p1; exact p1.elim
        · rw [if_neg hn] at p1; exact p1.elim
  | _ => exact Bool.noConfusion (show false = true from h)
theorem ps_never {X : Cx} {t : Stmt} {q : TS} (h : ∀ Z σ H, ¬ q Z σ H) : PS X t q := ⟨fun pins s σ H Z I z => (h Z σ H z).elim⟩
theorem sok_dead : OKS T exc G .dead := by
  intro sc calm B X W C t h
  exact ps_never fun Z σ H ⟨g, ρ, st, er, p⟩ => (show SPst B W g Z .stuck from p)
theorem sok_small {s : St} (hs : s = .retn ∨ s = .pass ∨ s = .brk ∨ s = .cnt) : OKS T exc G s := by
  intro sc calm B X W C t h
  rcases hs with rfl | rfl | rfl | rfl
  · cases t with
    | Return v pos =>
      cases v with
      | some _ => exact Bool.noConfusion (show false = true from h)
      | none => exact ps_of ps_retN fun Z σ H ⟨g, ρ, st, er, p⟩ => (show SPst B W g Z (.rt .non st) from p) g H σ ρ .non (Gh.le.refl g) er .non
    | _ => exact Bool.noConfusion (show false = true from h)
  · cases t with
    | Pass pos => exact ps_of ps_pass fun Z σ H ⟨g, ρ, st, er, p⟩ => (show SPst B W g Z (.nx ρ st) from p) g H σ (Gh.le.refl g) er
    | _ => exact Bool.noConfusion (show false = true from h)
  · cases t with
    | Break pos => exact ps_of ps_break fun Z σ H ⟨g, ρ, st, er, p⟩ => (show SPst B W g Z (.bk ρ st) from p) g H σ (Gh.le.refl g) er
    | _ => exact Bool.noConfusion (show false = true from h)
  · cases t with
    | Continue pos => exact ps_of ps_continue fun Z σ H ⟨g, ρ, st, er, p⟩ => (show SPst B W g Z (.ct ρ st) from p) g H σ (Gh.le.refl g) er
    | _ => exact Bool.noConfusion (show false = true from h)
theorem sok_rais (c : Str) : OKS T exc G (.rais c) := by
  intro sc calm B X W C t h
  cases t with
  | Raise v cs pos =>
    cases v with
    | none => exact Bool.noConfusion (show false = true from h)
    | some v =>
      cases v with
      | Call f es kws p =>
        cases f with
        | Name x p1 =>
          cases es with
          | nil => exact Bool.noConfusion (show false = true from h)
          | cons e es =>
            cases e with
            | Constant k kk p2 =>
              cases k with
              | str m =>
                cases es with
                | cons _ _ => exact Bool.noConfusion (show false = true from h)
                | nil =>
                  cases kws with
                  | cons _ _ => exact Bool.noConfusion (show false = true from h)
                  | nil =>
                    cases cs with
                    | some _ => exact Bool.noConfusion (show false = true from h)
                    | none =>
                      obtain ⟨k1, q1⟩ := b2 h
                      obtain ⟨k2, q2⟩ := b2 q1
                      obtain ⟨k3, q3⟩ := b2 q2
                      obtain ⟨k4, k5⟩ := b2 q3
                      have hx : c = x := of_decide_eq_true k2
                      subst hx
                      obtain ⟨cm, room⟩ := C.calm k1
                      obtain ⟨A, hm, hE, hk, hs, ht⟩ := C.exc_ c (List.contains_iff_mem.mp k3)
                      obtain ⟨n1, _, _, _⟩ := seen_ok k5
                      refine ps_of (ps_raise cm C.tk (pmk_own PySem.F.excBase_ValueError hE hm hk (raises_own hs ht) (C.glob k4) n1)) fun Z σ H ⟨g, ρ, st, er, p⟩ => ?_
                      exact (show SPst B W g Z (.exc ⟨c, []⟩ ρ st) from p) g H σ (.ref A) none (Gh.le.refl g) er ⟨⟨A, by rw [← C.mg]; exact hm, rfl⟩, .inl ⟨rfl, rfl⟩⟩
              | _ => exact Bool.noConfusion (show false = true from h)
            | _ => exact Bool.noConfusion (show false = true from h)
        | _ => cases es <;> exact Bool.noConfusion (show false = true from h)
      | _ => exact Bool.noConfusion (show false = true from h)
  | _ => exact Bool.noConfusion (show false = true from h)
theorem sok_raisf (c f : Str) (e : Ex) : OKS T exc G (.raisf c f e) := by
  intro sc calm B X W C t h
  cases t with
  | Raise v cs pos =>
    cases v with
    | none => exact Bool.noConfusion (show false = true from h)
    | some v =>
      cases v with
      | Call g es kws p =>
        cases g with
        | Name x p1 =>
          cases es with
          | nil => exact Bool.noConfusion (show false = true from h)
          | cons ea es =>
            cases es with
            | cons _ _ => exact Bool.noConfusion (show false = true from h)
            | nil =>
              cases kws with
              | cons _ _ => exact Bool.noConfusion (show false = true from h)
              | nil =>
                cases cs with
                | some _ => exact Bool.noConfusion (show false = true from h)
                | none =>
                  obtain ⟨k1, q1⟩ := b2 (show (calm && (decide (c = x) && (T.raf.contains (c, f) && (T.free.contains "super" && (glB sc x && (PD.seen x && (plainE ea && chk T sc calm e false ea))))))) = true from h)
                  obtain ⟨k2, q2⟩ := b2 q1
                  obtain ⟨k3, q3⟩ := b2 q2
                  obtain ⟨k4, q4⟩ := b2 q3
                  obtain ⟨k5, q5⟩ := b2 q4
                  obtain ⟨k6, q6⟩ := b2 q5
                  obtain ⟨k7, k8⟩ := b2 q6
                  have hx : c = x := of_decide_eq_true k2
                  subst hx
                  obtain ⟨cm, room⟩ := C.calm k1
                  obtain ⟨A, fI, S⟩ := C.raf (c, f) (List.contains_iff_mem.mp k3)
                  obtain ⟨n1, _, _, _⟩ := seen_ok k6
                  refine ps_of (ps_raise cm C.tk (pmk_sup S (C.free _ (List.contains_iff_mem.mp k4)) room (pa_cons ((ev_ok e C.toCxt ea).1 k8) pa_nil (star_ok k7)) (C.glob k5) n1 (star_ok k7))) fun Z σ H ⟨g, ρ, st, er, p⟩ => ?_
                  have p' : SPst B W g Z ((ev G e ρ st).sr ρ fun v st => (fr G.io v st).sr ρ fun d st => .exc ⟨c, [(f, d)]⟩ ρ st) := p
                  refine ⟨g, ρ, st, er, p'.ev.imp fun w st1 g1 H1 e1 s1 p1 xv rv => ?_⟩
                  rw [C.io] at p1
                  obtain ⟨d, st3, F3, e3, s3, r3, p3⟩ := p1.fr e1 rv
                  refine ⟨xv, rfl, fun a ha => ?_⟩
                  obtain ⟨e4, s4⟩ := e3.lay (o := .xd [(f, xv)]) ha
                  exact p3 _ _ _ (.ref A) (some a) s4.le e4 ⟨⟨A, by rw [← C.mg]; exact S.gC, rfl⟩, .inr ⟨a, [(f, xv)], rfl, upd_same, rfl, .cons (r3.mono s4.le.F) .nil⟩⟩
        | _ => cases es <;> exact Bool.noConfusion (show false = true from h)
      | _ => exact Bool.noConfusion (show false = true from h)
  | _ => exact Bool.noConfusion (show false = true from h)
theorem sok_nil : OKSs T exc G .nil := by
  intro sc calm B X W C t h
  cases t with
  | nil => exact pss_of pss_nil fun Z σ H ⟨g, ρ, st, er, p⟩ => (show SPst B W g Z (.nx ρ st) from p) g H σ (Gh.le.refl g) er
  | cons _ _ => exact Bool.noConfusion (show false = true from h)
theorem sok_cons {s : St} {ss : Sts} (hs : OKS T exc G s) (hss : OKSs T exc G ss) : OKSs T exc G (.cons s ss) := by
  intro sc calm B X W C t h
  cases t with
  | nil => exact Bool.noConfusion (show false = true from h)
  | cons t ts =>
    obtain ⟨k1, k2⟩ := b2 (show (chkSt T exc sc calm s t && chkSs T exc sc calm ss ts) = true from h)
    refine pss_of (pss_cons (hs C t k1) (hss C ts k2)) fun Z σ H ⟨g, ρ, st, er, p⟩ => ?_
    have p' : SPst B W g Z ((ex G s ρ st).bind fun ρ st => exs G ss ρ st) := p
    refine ⟨g, ρ, st, er, ?_⟩
    cases q : ex G s ρ st with
    | nx ρ' st' =>
      rw [q] at p'
      exact fun g' H' σ' l e => ⟨g', ρ', st', e, SPst.le (show SPst B W g Z (exs G ss ρ' st') from p') l⟩
    | bk ρ' st' => rw [q] at p'; exact p'
    | ct ρ' st' => rw [q] at p'; exact p'
    | rt d st' => rw [q] at p'; exact p'
    | rtl d st' => rw [q] at p'; exact p'
    | exc x ρ' st' => rw [q] at p'; exact p'
    | stuck => rw [q] at p'; exact p'
end
end PD

/-! PD15 -/
set_option Elab.async false
set_option linter.all false
set_option maxRecDepth 100000
set_option maxHeartbeats 4000000
/-! PD: loops. -/
namespace PD
open PySem PySem.Spec PyProof.Rows L2
section
variable {T : Tab} {exc : List Str} {G : Gam}
theorem spst_if {B : Bs} {W : WX} {g : Gh} {Z : Ends} {c : Prop} [Decidable c] {r : SR} (p : SPst B W g Z (if c then r else .stuck)) : c ∧ SPst B W g Z r := by
  by_cases h : c
  · rw [if_pos h] at p; exact ⟨h, p⟩
  · rw [if_neg h] at p; exact p.elim
theorem sok_for (t : Tg) (it : It) {b : Sts} (hb : OKSs T exc G b) : OKS T exc G (.for_ t it b) := by
  intro sc calm B X W C s h
  cases s with
  | For etg eit eb orelse pos =>
    cases orelse with
    | cons _ _ => exact Bool.noConfusion (show false = true from h)
    | nil =>
      obtain ⟨k1, q1⟩ := b2 (show (calm && (tgB T sc t etg && (chkI T sc calm it eit && chkSs T exc sc calm b eb))) = true from h)
      obtain ⟨k2, q2⟩ := b2 q1
      obtain ⟨k3, k4⟩ := b2 q2
      obtain ⟨cm, room⟩ := C.calm k1
      obtain ⟨hI, pl⟩ := evI_ok it C.toCxt etg eit k3
      refine ps_of (ps_for (C.po k1) cm hI (tgB_ok C.N C.nd C.sc C.fn cm k2) (hb C eb k4) (fold_ok pl)) fun Z σ H ⟨g, ρ, st, er, p⟩ => ?_
      have p' : SPst B W g Z ((evI G it ρ st).sr ρ fun I st => pickS (I.size st) fun n => forLoop I (fun d ρ st => pickS (asgT t (.fz d) ρ st) fun ρ => exs G b ρ st) n 0 ρ st) := p
      refine ⟨g, ρ, st, er, p'.ev.imp fun I st1 g1 H1 e1 s1 p1 J hJ => ?_⟩
      obtain ⟨n, hn, p1⟩ := p1.pick
      generalize hbody : (fun (d : D) (ρ : Slots) (st : Store) => pickS (asgT t (.fz d) ρ st) fun ρ => exs G b ρ st) = body at p1
      refine ⟨fun i m σ H => ∃ g2 ρ2 st2, ER B g2 H σ ρ2 st2 ∧ g1.le g2 ∧ i ≤ n ∧ m = n - i ∧ SPst B W g2 Z (forLoop I body (n - i) i ρ2 st2), ⟨n, g1, ρ, st1, e1, Gh.le.refl _, Nat.zero_le _, rfl, p1⟩, ?_⟩
      rintro i m σ2 H2 ⟨g2, ρ2, st2, e2, l2, hin, rfl, p2⟩
      by_cases hlt : i < n
      · obtain ⟨k, hk⟩ : ∃ k, n - i = k + 1 := ⟨n - i - 1, by omega⟩
        rw [hk] at p2
        obtain ⟨hsz, p3⟩ := spst_if (show SPst B W g2 Z (if I.size st2 = some (i + (k + 1)) then pickS (I.at st2 i) fun d => match body d ρ2 st2 with
          | .nx ρ' st' => forLoop I body k (i + 1) ρ' st'
          | .ct ρ' st' => forLoop I body k (i + 1) ρ' st'
          | .bk ρ' st' => .nx ρ' st'
          | r => r else .stuck) from p2)
        obtain ⟨d, hd, p4⟩ := p3.pick
        obtain ⟨go, yl⟩ := it_go e2 (hJ.up l2) hsz (by omega) hd
        have hk' : n - (i + 1) = k := by omega
        refine .inr ⟨go, fun σ' H' => ∃ g3 ρ3 st3, ER B g3 H' σ' ρ3 st3 ∧ g1.le g3 ∧ SPst B W g3 Z (forLoop I body (n - (i + 1)) (i + 1) ρ3 st3), fun σ' H' ⟨g3, ρ3, st3, z1, z2, z3⟩ => ⟨n - (i + 1), by omega, g3, ρ3, st3, z1, z2, by omega, rfl, z3⟩, fun x H' y => ?_⟩
        obtain ⟨rfl, rx⟩ := yl x H' y
        have hb1 : body d ρ2 st2 = pickS (asgT t (.fz d) ρ2 st2) fun ρ => exs G b ρ st2 := by rw [← hbody]
        cases hasg : asgT t (.fz d) ρ2 st2 with
        | none =>
          rw [hb1, hasg] at p4
          exact p4.elim
        | some ρ3 =>
          rw [hb1, hasg] at p4
          rw [C.K]
          refine tg_ok e2 (v := .fz d) rx hasg fun σ3 e3 _ => ⟨g2, ρ3, st2, e3, ?_⟩
          have p5 : SPst B W g2 Z (match exs G b ρ3 st2 with
            | .nx ρ' st' => forLoop I body k (i + 1) ρ' st'
            | .ct ρ' st' => forLoop I body k (i + 1) ρ' st'
            | .bk ρ' st' => .nx ρ' st'
            | r => r) := p4
          rw [hk']
          cases q : exs G b ρ3 st2 with
          | nx ρ4 st4 => rw [q] at p5; exact fun g4 H4 σ4 l4 e4 => ⟨g4, ρ4, st4, e4, l2.trans l4, SPst.le p5 l4⟩
          | ct ρ4 st4 => rw [q] at p5; exact fun g4 H4 σ4 l4 e4 => ⟨g4, ρ4, st4, e4, l2.trans l4, SPst.le p5 l4⟩
          | bk ρ4 st4 => rw [q] at p5; exact p5
          | rt d4 st4 => rw [q] at p5; exact p5
          | rtl d4 st4 => rw [q] at p5; exact p5
          | exc x4 ρ4 st4 => rw [q] at p5; exact p5
          | stuck => rw [q] at p5; exact p5.elim
      · have hin' : i = n := by omega
        subst hin'
        rw [Nat.sub_self] at p2
        obtain ⟨hsz, p3⟩ := spst_if (show SPst B W g2 Z (if I.size st2 = some i then .nx ρ2 st2 else .stuck) from p2)
        exact .inl ⟨it_stop e2 (hJ.up l2) hsz, p3.nx e2⟩
  | _ => exact Bool.noConfusion (show false = true from h)

theorem whileN_up {c : Slots → Store → Res Val} {body : Slots → Store → SR} : ∀ {n : Nat} {ρ : Slots} {st : Store} {r : SR}, whileN c body n ρ st = some r → ∀ k, whileN c body (n + k) ρ st = some r
  | 0, _, _, _, h, _ => by cases h
  | n + 1, ρ, st, r, h, k => by
    have e : n + 1 + k = (n + k) + 1 := by omega
    rw [e]
    unfold whileN at h ⊢
    cases q : c ρ st with
    | stuck => rw [q] at h; exact h
    | exc x st1 => rw [q] at h; exact h
    | ok v st1 =>
      rw [q] at h
      cases v with
      | loc _ => exact h
      | exn _ => exact h
      | fz d =>
        cases d with
        | bl b =>
          cases b with
          | false => exact h
          | true =>
            simp only at h ⊢
            cases q2 : body ρ st1 with
            | nx ρ2 st2 => simp only [q2] at h ⊢; exact whileN_up h k
            | ct ρ2 st2 => simp only [q2] at h ⊢; exact whileN_up h k
            | bk ρ2 st2 => simp only [q2] at h ⊢; exact h
            | rt d st2 => simp only [q2] at h ⊢; exact h
            | rtl d st2 => simp only [q2] at h ⊢; exact h
            | exc x ρ2 st2 => simp only [q2] at h ⊢; exact h
            | stuck => simp only [q2] at h ⊢; exact h
        | _ => exact h
theorem whileS_eq {c : Slots → Store → Res Val} {body : Slots → Store → SR} {ρ : Slots} {st : Store} {n : Nat} {r : SR} (h : whileN c body n ρ st = some r) : whileS c body ρ st = r := by
  have hx : ∃ n r, whileN c body n ρ st = some r := ⟨n, r, h⟩
  unfold whileS
  rw [dif_pos hx]
  have h2 := (Classical.choose_spec hx).choose_spec
  generalize (Classical.choose_spec hx).choose = r2 at *
  generalize Classical.choose hx = n2 at *
  have a := whileN_up h n2
  have b := whileN_up h2 n
  rw [Nat.add_comm] at b
  rw [a] at b
  exact (Option.some.inj b).symm
theorem sok_whl (c : Ex) {b : Sts} (hb : OKSs T exc G b) : OKS T exc G (.whl c b) := by
  intro sc calm B X W C s h
  cases s with
  | While ec eb orelse pos =>
    cases orelse with
    | cons _ _ => exact Bool.noConfusion (show false = true from h)
    | nil =>
      obtain ⟨k1, q1⟩ := b2 (show (calm && (chk T sc calm c true ec && chkSs T exc sc calm b eb)) = true from h)
      obtain ⟨k2, k3⟩ := b2 q1
      refine ps_of (ps_while (C.po k1) ((ev_ok c C.toCxt ec).2 k2).1 (hb C eb k3)) fun Z σ H ⟨g, ρ, st, er, p⟩ => ?_
      have p' : SPst B W g Z (whileS (ev G c) (exs G b) ρ st) := p
      have hx : ∃ n r, whileN (ev G c) (exs G b) n ρ st = some r := by
        cases Classical.em (∃ n r, whileN (ev G c) (exs G b) n ρ st = some r) with
        | inl h => exact h
        | inr h =>
          unfold whileS at p'
          rw [dif_neg h] at p'
          exact p'.elim
      obtain ⟨n, r, hn⟩ := hx
      rw [whileS_eq hn] at p'
      refine ⟨fun m σ H => ∃ g ρ st r, ER B g H σ ρ st ∧ whileN (ev G c) (exs G b) m ρ st = some r ∧ SPst B W g Z r, ⟨n, g, ρ, st, r, er, hn, p'⟩, ?_⟩
      clear hn p' p er
      rintro m σ2 H2 ⟨g2, ρ2, st2, r2, e2, hm, p2⟩
      cases m with
      | zero => cases hm
      | succ m =>
        refine ⟨g2, ρ2, st2, e2, ?_⟩
        unfold whileN at hm
        cases q : ev G c ρ2 st2 with
        | stuck => rw [q] at hm; cases hm; exact p2
        | exc x st3 =>
          rw [q] at hm; cases hm
          exact fun g3 H3 cls dd e3 s3 xr => p2 g3 H3 _ cls dd s3.le e3 xr
        | ok v st3 =>
          rw [q] at hm
          intro g3 H3 e3 s3
          have bad : some SR.stuck = some r2 → False := fun z => by cases z; exact p2
          cases v with
          | loc _ => exact (bad hm).elim
          | exn _ => exact (bad hm).elim
          | fz d =>
            cases d with
            | bl bv =>
              refine ⟨bv, rfl, ?_⟩
              cases bv with
              | false =>
                have hm' : some (SR.nx ρ2 st3) = some r2 := hm
                cases hm'
                rw [if_neg (by decide)]
                exact (SPst.le p2 s3.le).nx e3
              | true =>
                rw [if_pos rfl]
                refine ⟨fun σ' H' => ∃ g ρ st r, ER B g H' σ' ρ st ∧ whileN (ev G c) (exs G b) m ρ st = some r ∧ SPst B W g Z r, fun σ' H' z => ⟨m, Nat.lt_succ_self m, z⟩, g3, ρ2, st3, e3, ?_⟩
                simp only at hm
                have p3 := SPst.le p2 s3.le
                cases q2 : exs G b ρ2 st3 with
                | nx ρ4 st4 => simp only [q2] at hm; exact fun g4 H4 σ4 l4 e4 => ⟨g4, ρ4, st4, r2, e4, hm, SPst.le p3 l4⟩
                | ct ρ4 st4 => simp only [q2] at hm; exact fun g4 H4 σ4 l4 e4 => ⟨g4, ρ4, st4, r2, e4, hm, SPst.le p3 l4⟩
                | bk ρ4 st4 => simp only [q2] at hm; cases hm; exact p3
                | rt d st4 => simp only [q2] at hm; cases hm; exact p3
                | rtl d st4 => simp only [q2] at hm; cases hm; exact p3
                | exc x ρ4 st4 => simp only [q2] at hm; cases hm; exact p3
                | stuck => simp only [q2] at hm; cases hm; exact p3.elim
            | _ => exact (bad hm).elim
  | _ => exact Bool.noConfusion (show false = true from h)
end
end PD

/-! PD16 -/
set_option Elab.async false
set_option linter.all false
set_option maxRecDepth 100000
set_option maxHeartbeats 4000000
/-! PD: several except clauses, some with a name. -/
namespace PD
open PySem PySem.Spec PyProof.Rows L2
/-! ### a tuple of classes -/
section
variable {M : Model} {K : PySem.W.Frag}
theorem forIn_pass {A : Around} {E : Value → Shared → Prop} {B : Value → PUnit → Sem (ForInStep PUnit)} {s : Shared} : ∀ (cs : List Value) {Q : PUnit → Shared → Prop}, (∀ c ∈ cs, ∀ Q' : ForInStep PUnit → Shared → Prop, Q' (.yield ⟨⟩) s → wpAny M A (B c ⟨⟩) Q' E s) → Q ⟨⟩ s → wpAny M A (forIn cs PUnit.unit B) Q E s
  | [], Q, _, q => by rw [List.forIn_nil]; exact wpAny_pure q
  | c :: cs, Q, hB, q => by
    rw [List.forIn_cons]
    refine wpAny_bind (hB c (List.mem_cons_self ..) _ ?_)
    exact forIn_pass cs (fun c' hc' => hB c' (List.mem_cons_of_mem _ hc')) q
theorem forIn_find {A : Around} {E : Value → Shared → Prop} {β : Type} {B : Value → (Option β × Unit) → Sem (ForInStep (Option β × Unit))} {s : Shared} {y : β} {cls : Value} : ∀ (cs : List Value) {b : Bool} {Q : (Option β × Unit) → Shared → Prop}, PySem.W.exmAny K cls cs = some b →
    (∀ c b1, PySem.W.exmOne K cls c = some b1 → ∀ Q' : ForInStep (Option β × Unit) → Shared → Prop, Q' (if b1 then .done (some y, ()) else .yield (none, ())) s → wpAny M A (B c (none, ())) Q' E s) → Q (if b then (some y, ()) else (none, ())) s → wpAny M A (forIn cs ((none, ()) : (Option β × Unit)) B) Q E s
  | [], b, Q, h, _, q => by
    cases h
    rw [List.forIn_nil]
    exact wpAny_pure q
  | c :: cs, b, Q, h, hB, q => by
    obtain ⟨b1, d1, h1, h2, rfl⟩ := PySem.W.exmAny_cons h
    rw [List.forIn_cons]
    refine wpAny_bind (hB c b1 h1 _ ?_)
    cases b1 with
    | true => exact wpAny_pure q
    | false => exact forIn_find cs h2 hB q
theorem exmAny_mem {cls : Value} : ∀ {cs : List Value} {b : Bool}, PySem.W.exmAny K cls cs = some b → ∀ c ∈ cs, ∃ b1, PySem.W.exmOne K cls c = some b1
  | c :: cs, b, h, x, hx => by
    obtain ⟨b1, d1, h1, h2, rfl⟩ := PySem.W.exmAny_cons h
    rcases List.mem_cons.mp hx with rfl | hx
    · exact ⟨b1, h1⟩
    · exact exmAny_mem h2 x hx
/-- an exception meets a tuple of classes -/
theorem exm_tupN {cs : List Value} {cls : Value} {tp e : Addr} {b : Bool} {h : Heap} (X : K.In h) (LT : PySem.W.Looks M h (typeOf (.ref e)) cls) (hp : h.get? tp = some { cls := .type "tuple", data := .seq cs.toArray }) (hx : PySem.W.exmAny K cls cs = some b) :
    PySem.W.Looks M h (excMatches (.ref e) (.ref tp)) b := by
  intro A Q E s k₀ q
  obtain ⟨hh, g, d, tk, os⟩ := s
  have k : ∀ b o, h.get? b = some o → hh.get? b = some o := k₀
  have LT0 : PySem.W.Looks M h (isInstance (.ref tp) (.type "tuple")) true := ((PySem.W.Looks.ld hp).andThen .now).andThen (PySem.W.Looks.of_pure isSubtype_tuple_tuple)
  have LT := LT.keeps k
  have LT0 := LT0.keeps k
  have hp' := k _ _ hp
  unfold excMatches
  refine wpAny_bind (LT0.at ?_)
  dsimp only
  rw [if_pos rfl]
  first
    | refine wpAny_bind (wpAny_seqItems hp' rfl ?_)
    | refine wpAny_bind (wpAny_bind (wpAny_seqItems hp' rfl (wpAny_pure ?_)))
  dsimp only [Option.getD_some, Option.getD]
  try refine wpAny_bind (wpAny_pure ?_)
  refine wpAny_bind (forIn_pass _ (fun c hc Q' q' => ?_) ?_)
  · obtain ⟨b1, h1⟩ := exmAny_mem hx c (by simpa using hc)
    obtain ⟨e1, _⟩ := PySem.W.exm_cls (M := M) X h1
    have e1 := e1.keeps k
    refine wpAny_bind (e1.at ?_)
    simp only [Bool.not_true, Bool.false_eq_true, if_false]
    first
      | exact wpAny_pure q'
      | exact wpAny_bind (wpAny_pure (wpAny_pure q'))
  refine wpAny_bind (LT.at ?_)
  refine wpAny_bind (forIn_find (K := K) (cls := cls) (y := true) _ hx (fun c b1 h1 Q' q' => ?_) ?_)
  · obtain ⟨_, S1⟩ := PySem.W.exm_cls (M := M) X h1
    have S1 := S1.keeps k
    refine wpAny_bind (S1.at ?_)
    cases b1 <;> (simp only [Bool.false_eq_true, if_false, if_true] at q' ⊢; first | exact wpAny_pure q' | exact wpAny_bind (wpAny_pure (wpAny_pure q')))
  cases b <;> exact wpAny_pure q
end
abbrev ClT := List Value × (Option Nat × (Addr → Value → Option Addr → TS))
def wMix (K : PySem.W.Frag) (Wout : WX) (D : Ends) : List ClT → WX
  | [] => Wout
  | (c, none, ts) :: r => fun cls d σ H => ∃ b, PySem.W.exmAny K cls c = some b ∧ (b = true → ∀ a, H a = none → ts a cls d D σ H) ∧ (b = false → wMix K Wout D r cls d σ H)
  | (c, some i, ts) :: r => fun cls d σ H => ∃ b, PySem.W.exmAny K cls c = some b ∧ (b = true → ∀ a, H a = none → ts a cls d { nx := fun σ' H' => D.nx (σ'.set i none) H', rt := D.rt, bk := fun σ' H' => D.bk (σ'.set i none) H', ct := fun σ' H' => D.ct (σ'.set i none) H' } (σ.set i (some (.ref a))) H) ∧ (b = false → wMix K Wout D r cls d σ H)
abbrev SuOk (X : Cx) (suite : List Stmt) (ts : Addr → Value → Option Addr → TS) : Prop := ∀ (a : Addr) (oe : Obj) (cls : Value) (d : Option Addr) (pn : List (Addr × Obj)), Zc cls d oe → (∃ vs, oe.data = .fields vs) → PSs (X.suite a ((a, oe) :: pn)) suite (ts a cls d)
/-- names of classes, a clause's test -/
inductive NamesL (X : Cx) : List Expr → List Value → Prop
  | nil : NamesL X [] []
  | cons {x : Str} {c : Value} {np : Pos} {es : List Expr} {cs : List Value} : Names X x c → NamesL X es cs → NamesL X (.Name x np :: es) (c :: cs)
theorem NamesL.suite {X : Cx} {a : Addr} {pn : List (Addr × Obj)} : ∀ {es : List Expr} {cs : List Value}, NamesL X es cs → NamesL (X.suite a pn) es cs
  | _, _, .nil => .nil
  | _, _, .cons h r => .cons h r.suite
inductive TestOf (X : Cx) : Expr → List Value → Prop
  | one {x : Str} {c : Value} {np : Pos} : Names X x c → TestOf X (.Name x np) [c]
  | tup {es : List Expr} {cs : List Value} {x1} {pos : Pos} : NamesL X es cs → cs.length ≤ sizeLine → TestOf X (.Tuple es x1 pos) cs
inductive HdsMix (X : Cx) : List ExceptHandler → List ClT → Prop
  | nil : HdsMix X [] []
  | cons {t : Expr} {c : List Value} {ts : Addr → Value → Option Addr → TS} {b₀ : Stmt} {suite : List Stmt} {pos' : Pos} {hds : List ExceptHandler} {l : List ClT} (hc : TestOf X t c)
      (hsu : SuOk X (b₀ :: suite) ts) (r : HdsMix X hds l) :
      HdsMix X (.ExceptHandler (some t) none (b₀ :: suite) pos' :: hds) ((c, none, ts) :: l)
  | consA {t : Expr} {n : Str} {i : Nat} {c : List Value} {ts : Addr → Value → Option Addr → TS} {b₀ : Stmt} {suite : List Stmt} {pos' : Pos} {hds : List ExceptHandler} {l : List ClT} (hc : TestOf X t c)
      (hi : X.N[i]? = some n) (hln : X.env.kindOf n = some .local) (hsu : SuOk X (b₀ :: suite) ts) (r : HdsMix X hds l) :
      HdsMix X (.ExceptHandler (some t) (some n) (b₀ :: suite) pos' :: hds) ((c, some i, ts) :: l)
theorem exmAny_one {K : PySem.W.Frag} {cls c : Value} {b : Bool} (h : PySem.W.exmAny K cls [c] = some b) : PySem.W.exmOne K cls c = some b := by
  obtain ⟨b1, d1, h1, h2, rfl⟩ := PySem.W.exmAny_cons h
  cases h2
  rw [Bool.or_false]
  exact h1
/-- the names are read one behind another, and nothing is changed -/
theorem namesL_run {X : Cx} {pins : List (Addr × Obj)} {σ : L2.St} {H : Hp} {s : Shared} (I : Inv X pins σ H s) {pos : Pos} {E : Value → Shared → Prop} : ∀ {es : List Expr} {cs : List Value}, NamesL X es cs → ∀ {Q : List Value → Shared → Prop}, Q cs s → wpAny (model X.prog X.w) X.A (spliced (backTo pos (starEach es X.env))) Q E s
  | _, _, .nil, Q, q => Calls.spliced_nil q
  | _, _, .cons (x := x) (c := c) (np := np) (es := es) (cs := cs) hc r, Q, q => by
    have hs : starEach (.Name x np :: es) X.env = (false, eval (.Name x np) X.env) :: starEach es X.env := by rfl
    rw [hs]
    show wpAny _ _ (spliced ((false, eval (.Name x np) X.env) :: backTo pos (starEach es X.env))) _ _ s
    refine Calls.spliced_cons ?_
    have rest : wpAny (model X.prog X.w) X.A (spliced (backTo pos (starEach es X.env))) (fun vs s₂ => Q (c :: vs) s₂) E s := namesL_run I r q
    obtain ⟨hg, hdbg, hm | ⟨hm, hv, hnn⟩⟩ := hc
    · exact ld_glob I hg hm rest hdbg
    · exact ld_blt I hg hm hv rest hnn hdbg
section
variable {X : Cx} {body : List Stmt} {h₀ : ExceptHandler} {hds : List ExceptHandler} {l : List ClT} {pos : Pos} {tb : WX → TS} {Wout : WX}
theorem ps_try_mix (hs : X.stack = X.env :: X.outer) (hf : X.env.frame = some X.env.locals) (hN : X.N.Nodup) (tk : Takes X Wout)
    (hb : ∀ (W : WX) (pn : List (Addr × Obj)) (xe : Value → Shared → Prop), Takes (X.tr pn xe) W → PassesOwn (model X.prog X.w) X.A X.env xe → PSs (X.tr pn xe) body (tb W))
    (hh : HdsMix X (h₀ :: hds) l) : PS X (.Try body (h₀ :: hds) [] [] pos) (fun D σ H => tb (wMix X.K Wout D l) D σ H) := by
  refine ⟨fun pins s σ H D I h => ?_⟩
  have ok := I.ok
  have hfr : X.A.frames = some (X.env :: X.outer) := by rw [ok.frames, hs]
  refine wpAny_Try_except ?_
  refine wpAny_mono ((hb (wMix X.K Wout D l) (X.pn ++ pins) (fun e s₁ => wpAny (model X.prog X.w) X.A (noteFrame e X.env) (fun _ s₂ => wpAny (model X.prog X.w) X.A (setFlight e none) (fun _ s₃ =>
    wpAny (model X.prog X.w) X.A (handleBy e X.env (h₀ :: hds)) (SP X pins D) X.xe s₃) X.xe s₂) X.xe s₁) (fun u s' xx => ?_) PassesOwn.looking).run [] s σ H D (I.toTry _) h) (fun f s1 hsp => ?_) (fun e s1 he => he)
  · obtain ⟨a, B, sI, pins', σ', H', cls, d, rfl, J', nb, up, sky, na, os, ag, w⟩ := xx
    have J : Inv X pins σ' H' sI := J'.ofTry ok
    have sky' : Sky B (X.env :: X.outer) a (Zc cls d) X.env.locals s'.heap := by rw [← hs]; exact sky
    show wpAny (model X.prog X.w) X.A (noteFrame (.ref a) X.env) _ _ _
    refine Sky.land Zc.steady hfr hf sky' fun h3 fl3 up3 => ?_
    have up3 := up.trans up3
    clear sky sky'
    have notFr : ∀ {h : Heap} {o : Obj} {vs : Array Value}, h.FunFrames B (X.env :: X.outer) → h.get? a = some o → o.data = .fields vs → a ∉ L2.frs (X.env :: X.outer) := fun {h o vs} ff e dd hm => by
      obtain ⟨_, o', e', hnf⟩ := ff.mem hm
      rw [e] at e'; cases e'
      exact hnf _ dd
    -- what holds at every heap of the clauses
    have at_ : ∀ h : Heap, HandSPX.FlyingZ B (X.env :: X.outer) a (Zc cls d) h → sI.heap.UpToSlots h → Inv X pins σ' H' { s' with heap := h } ∧ a ≠ X.env.locals ∧ a ∉ X.fs ∧
        PySem.W.Looks (model X.prog X.w) h (typeOf (.ref a)) cls ∧ ∃ oe vs, h.get? a = some oe ∧ Zc cls d oe ∧ oe.data = .fields vs ∧ Inv (X.suite a ((a, oe) :: (X.pn ++ pins))) [] σ' H' { s' with heap := h } := fun h fl u => by
      have J3 : Inv X pins σ' H' { s' with heap := h } := J.landed nb fl.1 u os ag
      obtain ⟨oe3, vs3, he3, hz3, hd3⟩ := fl.there
      have nfr := notFr fl.2.2.1 he3 hd3
      have nL : a ≠ X.env.locals := fun z => nfr (List.mem_filterMap.mpr ⟨X.env, List.mem_cons_self, by rw [hf, z]⟩)
      have nF : a ∉ X.fs := fun hm => by
        obtain ⟨e, he, q⟩ := List.mem_filterMap.mp hm
        exact nfr (List.mem_filterMap.mpr ⟨e, List.mem_cons_of_mem _ he, q⟩)
      exact ⟨J3, nL, nF, fun A Q E s k q => wpAny_typeOf_ref (k _ _ he3) (by rw [hz3.1]; exact q), oe3, vs3, he3, hz3, hd3, J3.suite he3 hd3 na nL nF⟩
    have flKeep : ∀ {h h' : Heap}, (∀ b o, h.get? b = some o → h'.get? b = some o) → HandSPX.FlyingZ B (X.env :: X.outer) a (Zc cls d) h → HandSPX.FlyingZ B (X.env :: X.outer) a (Zc cls d) h' := fun {h h'} k fl => by
      obtain ⟨f1, f2, f3, oe, vs, T, oT, ts, g1, g2, g3, g4, g5, g6, g7, g8, g9⟩ := fl
      exact ⟨fun b o e => k b o (f1 b o e), f2, f3.of_keeps fun b o e _ => ⟨o, k b o e, rfl⟩, oe, vs, T, oT, ts, k _ _ g1, g2, g3, g4, g5, g6, k _ _ g7, g8, g9⟩
    have test : ∀ {t : Expr} {cs : List Value} {bv : Bool} {pos' : Pos} {R : Except Value Flow → Shared → Prop}, TestOf X t cs → PySem.W.exmAny X.K cls cs = some bv → ∀ h : Heap, HandSPX.FlyingZ B (X.env :: X.outer) a (Zc cls d) h → sI.heap.UpToSlots h →
        (∀ h' : Heap, HandSPX.FlyingZ B (X.env :: X.outer) a (Zc cls d) h' → sI.heap.UpToSlots h' → R (.ok (if bv then .brk else .next)) { s' with heap := h' }) →
        codeAny (model X.prog X.w) (X.A.mark (some (.ref a))) (.handlers (.ref a) [.ExceptHandler (some t) none [] pos'] X.env) R { s' with heap := h } := fun {t cs bv pos' R} hc hb h fl u q => by
      obtain ⟨J3, nL, nF, LT, oe3, vs3, he3, hz3, hd3, S3⟩ := at_ h fl u
      refine codeAny_handlers_test ?_
      cases hc with
      | @one x c np hc =>
        have LM := PySem.W.exm_one (M := model X.prog X.w) (J3.kIn) LT (exmAny_one hb)
        have fin : wpAny (model X.prog X.w) (X.A.mark (some (.ref a))) (excMatches (.ref a) c) (fun b s₂ => R (.ok (if b then .brk else .next)) s₂) (notedBy (model X.prog X.w) (X.A.mark (some (.ref a))) X.env fun x s₂ => R (.error x) s₂) { s' with heap := h } := LM.here (q h fl u)
        obtain ⟨hg, hdbg, hm | ⟨hm, hv, hnn⟩⟩ := hc
        · exact ld_glob (X := X.suite a ((a, oe3) :: (X.pn ++ pins))) S3 hg hm fin hdbg
        · exact ld_blt (X := X.suite a ((a, oe3) :: (X.pn ++ pins))) S3 hg hm hv fin hnn hdbg
      | @tup es cs x1 ps hn hlen =>
        have kp : ∀ b o, h.get? b = some o → (h.push { cls := .type "tuple", data := .seq cs.toArray }).get? b = some o := fun b o e => Heap.get?_push_of_some _ e
        have fl' := flKeep kp fl
        have u' := u.trans (Heap.UpToSlots.of_keeps kp)
        obtain ⟨J4, _, _, LT4, _⟩ := at_ _ fl' u'
        have LM := exm_tupN (M := model X.prog X.w) (J4.kIn) LT4 (tp := h.objs.size) (Heap.get?_push_size _ rfl) hb
        refine wpAny_Tuple_spliced ?_
        have hn' : NamesL (X.suite a ((a, oe3) :: (X.pn ++ pins))) es cs := hn.suite
        refine namesL_run (X := X.suite a ((a, oe3) :: (X.pn ++ pins))) S3 hn' ⟨hlen, ?_⟩
        exact LM.here (q _ fl' u')
    have go : ∀ {hds' : List ExceptHandler} {l' : List ClT}, HdsMix X hds' l' → wMix X.K Wout D l' cls d σ' H' → ∀ h3 : Heap, HandSPX.FlyingZ B (X.env :: X.outer) a (Zc cls d) h3 → sI.heap.UpToSlots h3 →
        wpAny (model X.prog X.w) X.A (handleBy (.ref a) X.env hds') (SP X pins D) X.xe { s' with heap := h3 } := by
      intro hds' l' hk
      induction hk with
      | nil =>
        intro w h3 fl3 up3
        refine wpAny_handleBy_nil ?_
        obtain ⟨k1, k2, k3, oe, vs, T, oT, ts', he, hz, hd, h1, hr⟩ := id fl3
        unfold PySem.passOn
        refine wpAny_bind (wpAny_field he hd h1 ?_)
        rw [if_neg (show ¬ ((Value.ref T == Value.none) = true) from by simp)]
        have fin : wpAny (model X.prog X.w) X.A (setFlight (.ref a) X.env.frame) (fun _ s4 => wpAny (model X.prog X.w) X.A (throw (.ref a) : Sem Flow) (SP X pins D) X.xe s4) X.xe { s' with heap := h3 } := by
          rw [hf]
          refine HandSPX.setFlight_upZ fl3 fun h4 hh4 up4 => wpAny_throw (tk _ _ ?_)
          exact ⟨a, B, sI, pins, σ', H', cls, d, rfl, J, nb, up3.trans up4, .inr (.inr (by rw [hs]; exact hh4)), na, os, ag, w⟩
        first
          | exact wpAny_bind (wpAny_pure (wpAny_bind fin))
          | exact wpAny_bind fin
      | @cons t c ts b₀ suite pos' hds2 l2 hc hsu r ih =>
        intro w h3 fl3 up3
        obtain ⟨b, hb1, hyes, hno⟩ := w
        obtain ⟨_, nL, nF, _⟩ := at_ h3 fl3 up3
        refine wpAny_handleBy_cons (test hc hb1 h3 fl3 up3 fun h3 fl3 up3 => ?_) (by intro q; cases q)
        cases b with
        | true =>
          refine codeAny_handlers_suite ?_
          refine HandSPX.lands_againZ fl3 fun h4 fl4 up4 => ?_
          have J4 : Inv X pins σ' H' { s' with heap := h4 } := J.landed nb fl4.1 (up3.trans up4) os ag
          obtain ⟨oe4, vs4, he4, hz4, hd4⟩ := fl4.there
          have S4 := J4.suite he4 hd4 na nL nF
          refine wpAny_mono ((hsu a oe4 cls d (X.pn ++ pins) hz4 ⟨_, hd4⟩).run [] _ _ H' _ S4 (hyes rfl a na)) (fun f s6 hsp => ?_) (fun _ _ z => False.elim z)
          cases f with
          | next =>
            obtain ⟨σ6, H6, S6, q6⟩ := hsp
            exact ⟨_, _, S6.unsuite ok, q6⟩
          | brk =>
            obtain ⟨σ6, H6, S6, q6⟩ := hsp
            exact ⟨_, _, S6.unsuite ok, q6⟩
          | cont =>
            obtain ⟨σ6, H6, S6, q6⟩ := hsp
            exact ⟨_, _, S6.unsuite ok, q6⟩
          | ret u =>
            obtain ⟨v6, σ6, H6, S6, r6, q6⟩ := hsp
            exact ⟨_, _, _, S6.unsuite ok, r6, q6⟩
        | false =>
          show wpAny _ X.A (handleBy (.ref a) X.env hds2) _ _ _
          exact ih (hno rfl) h3 fl3 up3
      | @consA t n i c ts b₀ suite pos' hds2 l2 hc hi hln hsu r ih =>
        intro w h3 fl3 up3
        obtain ⟨b, hb1, hyes, hno⟩ := w
        have hloc : Loc X.env.scope n := .inl hln
        obtain ⟨_, nL, nF, _⟩ := at_ h3 fl3 up3
        refine wpAny_handleBy_cons (test hc hb1 h3 fl3 up3 fun h3 fl3 up3 => ?_) (by intro q; cases q)
        cases b with
        | true =>
          refine codeAny_handlers_suite_as ?_
          refine HandSPX.lands_againZ fl3 fun h4 fl4 up4 => ?_
          have J4 : Inv X pins σ' H' { s' with heap := h4 } := J.landed nb fl4.1 (up3.trans up4) os ag
          obtain ⟨oe4, vs4, he4, hz4, hd4⟩ := fl4.there
          have S4 := J4.suite he4 hd4 na nL nF
          refine store_ok (X := X.suite a ((a, oe4) :: (X.pn ++ pins))) (v := .ref a) S4 hN hi hloc rfl (fun s5 S5 => ?_) (.inr hln)
          refine wpAny_mono ((hsu a oe4 cls d (X.pn ++ pins) hz4 ⟨_, hd4⟩).run [] s5 _ H' _ S5 (hyes rfl a na)) (fun f s6 hsp => ?_) (fun _ _ z => False.elim z)
          have end_ : ∀ {σ6 : L2.St} {H6 : Hp} {Q : Shared → Prop}, Inv (X.suite a ((a, oe4) :: (X.pn ++ pins))) [] σ6 H6 s6 → (∀ s7, Inv X pins (σ6.set i none) H6 s7 → Q s7) →
              wpAny (model X.prog X.w) X.A (do bindName X.env n .none; unbindBehindTheSuite X.env n pos') (fun _ s7 => Q s7) X.xe s6 := fun {σ6 H6 Q} S6 hq => gone_ok (S6.unsuite ok) hN hi hln hq
          cases f with
          | next =>
            obtain ⟨σ6, H6, S6, q6⟩ := hsp
            exact end_ S6 fun s7 J7 => ⟨_, _, J7, q6⟩
          | brk =>
            obtain ⟨σ6, H6, S6, q6⟩ := hsp
            exact end_ S6 fun s7 J7 => ⟨_, _, J7, q6⟩
          | cont =>
            obtain ⟨σ6, H6, S6, q6⟩ := hsp
            exact end_ S6 fun s7 J7 => ⟨_, _, J7, q6⟩
          | ret u =>
            obtain ⟨v6, σ6, H6, S6, r6, q6⟩ := hsp
            exact end_ S6 fun s7 J7 => ⟨_, _, _, J7, r6, q6⟩
        | false =>
          show wpAny _ X.A (handleBy (.ref a) X.env hds2) _ _ _
          exact ih (hno rfl) h3 fl3 up3
    exact go hh w h3 fl3 up3
  · cases f with
    | next =>
      obtain ⟨σ', H', J', q⟩ := hsp
      exact wpAny_execs_nil ⟨σ', H', J'.ofTry ok, q⟩
    | brk =>
      obtain ⟨σ', H', J', q⟩ := hsp
      exact ⟨σ', H', J'.ofTry ok, q⟩
    | cont =>
      obtain ⟨σ', H', J', q⟩ := hsp
      exact ⟨σ', H', J'.ofTry ok, q⟩
    | ret u =>
      obtain ⟨v, σ', H', J', r, q⟩ := hsp
      exact ⟨v, σ', H', J'.ofTry ok, r, q⟩
end
end PD

/-! PD17 -/
set_option Elab.async false
set_option linter.all false
set_option maxRecDepth 100000
set_option maxHeartbeats 4000000
/-! PD: try. -/
namespace PD
open PySem PySem.Spec PyProof.Rows L2
abbrev Bs.exd (B : Bs) (x : ExH) : Bs := { B with ex := x }
section
variable {B : Bs} {W : WX} {g : Gh} {H : Hp} {σ : L2.St} {ρ : Slots} {st : Store}
theorem ER.exd {x : ExH} (e : ER B g H σ ρ st) (h : ∀ (i : Nat) (o : Option V) (v : Option Val), σ[i]? = some o → ρ[i]? = some v → SlotR B.R x g o v) : ER (B.exd x) g H σ ρ st :=
  ⟨e.same0, e.le, e.fresh, e.keep, e.lkd, e.len, e.nodup, e.io, e.iolive, e.own, e.there, e.conts, e.slen, h⟩
theorem ER.unexd {x : ExH} (e : ER (B.exd x) g H σ ρ st) (h : ∀ (i : Nat) (o : Option V) (v : Option Val), σ[i]? = some o → ρ[i]? = some v → SlotR B.R B.ex g o v) : ER B g H σ ρ st :=
  ⟨e.same0, e.le, e.fresh, e.keep, e.lkd, e.len, e.nodup, e.io, e.iolive, e.own, e.there, e.conts, e.slen, h⟩
theorem slot_up {R : RC} {x : ExH} {g : Gh} {o : Option V} {v : Option Val} (h : SlotR R none g o v) : SlotR R x g o v := by
  cases v with
  | none => trivial
  | some v =>
    obtain ⟨y, e, r⟩ := h
    refine ⟨y, e, ?_⟩
    cases v with
    | fz d => exact r
    | loc n => exact r
    | exn q =>
      obtain ⟨_, _, _, z, _⟩ := r
      cases z
theorem noExn_at : ∀ {ρ : Slots} {i : Nat} {q : XD}, noExn ρ = true → ρ[i]? ≠ some (some (.exn q))
  | [], i, q, _, h => by simp at h
  | o :: ρ, 0, q, h, e => by
    have e' : o = some (.exn q) := by simpa using e
    subst e'
    cases h
  | o :: ρ, i + 1, q, h, e => by
    have h' : noExn ρ = true := by
      cases o with
      | none => exact h
      | some v => cases v <;> first | exact h | cases h
    exact noExn_at h' (by simpa using e)
theorem slot_down {R : RC} {x y : ExH} {g : Gh} {o : Option V} {v : Option Val} (h : SlotR R x g o v) (n : ∀ q, v ≠ some (.exn q)) : SlotR R y g o v := by
  cases v with
  | none => trivial
  | some v =>
    obtain ⟨z, e, r⟩ := h
    refine ⟨z, e, ?_⟩
    cases v with
    | fz d => exact r
    | loc n => exact r
    | exn q => exact absurd rfl (n q)
theorem ER.leave {x : ExH} {as_ : Option Nat} (e : ER (B.exd x) g H σ ρ st) (h : noExn (goneH as_ ρ) = true) : ER B g H (match as_ with | none => σ | some i => σ.set i none) (goneH as_ ρ) st := by
  cases as_ with
  | none => exact e.unexd fun i o v h1 h2 => slot_down (e.slots i o v h1 h2) fun q z => noExn_at (ρ := ρ) (i := i) (q := q) h (by rw [h2, z])
  | some i =>
    have e2 : ER (B.exd x) g H (σ.set i none) (ρ.set i none) st := e.slot (by rw [List.length_set, List.length_set]; exact e.slen) fun j o w h1 h2 => by
      rcases setAt h1 with ⟨n1, q1⟩ | ⟨n1, q1⟩
      · rcases setAt h2 with ⟨_, q2⟩ | ⟨n2, _⟩
        · exact e.slots j o w q1 q2
        · exact absurd n2 n1
      · rcases setAt h2 with ⟨n2, _⟩ | ⟨_, q2⟩
        · exact absurd n1 n2
        · rw [← q2]; trivial
    exact e2.unexd fun j o v h1 h2 => slot_down (e2.slots j o v h1 h2) fun q z => noExn_at (ρ := ρ.set i none) (i := j) (q := q) h (by rw [h2, z])
theorem ER.blank {x : ExH} (e : ER (B.exd x) g H σ ρ st) : ER B g H σ (List.replicate ρ.length none) st :=
  ⟨e.same0, e.le, e.fresh, e.keep, e.lkd, e.len, e.nodup, e.io, e.iolive, e.own, e.there, e.conts, by rw [List.length_replicate]; exact e.slen, fun i o v h1 h2 => by
    have : v = none := by
      rw [List.getElem?_replicate] at h2
      split at h2
      · cases h2; rfl
      · cases h2
    rw [this]; trivial⟩
end
abbrev endsH (as_ : Option Nat) (D : Ends) : Ends := match as_ with
  | none => D
  | some i => { nx := fun σ' H' => D.nx (σ'.set i none) H', rt := D.rt, bk := fun σ' H' => D.bk (σ'.set i none) H', ct := fun σ' H' => D.ct (σ'.set i none) H' }
/-- the suite's end -/
theorem suite_end {B : Bs} {W : WX} {g : Gh} {Z : Ends} {x : ExH} {as_ : Option Nat} {r : SR} (h : SPst B W g Z (endH as_ r)) : SPst (B.exd x) (fun _ _ _ _ => False) g (endsH as_ Z) r := by
  cases r with
  | nx ρ st =>
    obtain ⟨hn, p⟩ := spst_if (show SPst B W g Z (if noExn (goneH as_ ρ) = true then .nx (goneH as_ ρ) st else .stuck) from h)
    intro g' H σ l e
    have e2 := e.leave hn
    cases as_ with
    | none => exact p g' H _ l e2
    | some i => exact p g' H _ l e2
  | bk ρ st =>
    obtain ⟨hn, p⟩ := spst_if (show SPst B W g Z (if noExn (goneH as_ ρ) = true then .bk (goneH as_ ρ) st else .stuck) from h)
    intro g' H σ l e
    have e2 := e.leave hn
    cases as_ with
    | none => exact p g' H _ l e2
    | some i => exact p g' H _ l e2
  | ct ρ st =>
    obtain ⟨hn, p⟩ := spst_if (show SPst B W g Z (if noExn (goneH as_ ρ) = true then .ct (goneH as_ ρ) st else .stuck) from h)
    intro g' H σ l e
    have e2 := e.leave hn
    cases as_ with
    | none => exact p g' H _ l e2
    | some i => exact p g' H _ l e2
  | rt d st =>
    intro g' H σ ρ y l e rep
    have p := (show SPst B W g Z (.rt d st) from h) g' H σ _ y l e.blank rep
    cases as_ with
    | none => exact p
    | some i => exact p
  | rtl ds st =>
    intro g' H σ ρ a xs l e f1 f2 f3 rep
    have p := (show SPst B W g Z (.rtl ds st) from h) g' H σ _ a xs l e.blank f1 f2 f3 rep
    cases as_ with
    | none => exact p
    | some i => exact p
  | exc y ρ st => exact h.elim
  | stuck => exact h.elim
section
variable {T : Tab} {exc : List Str} {G : Gam}
theorem CxtS.tr {sc : Scope} {calm : Bool} {B : Bs} {X : Cx} {W W' : WX} (C : CxtS T exc sc calm G B X W) (hc : calm = true) {pn : List (Addr × Obj)} {xe : Value → Shared → Prop} (tk : Takes (X.tr pn xe) W') (po : PassesOwn (model X.prog X.w) X.A X.env xe) : CxtS T exc sc calm G B (X.tr pn xe) W' :=
  ⟨⟨C.K, C.mg, C.N, C.fn, C.sc, C.nd, (fun z => by rw [hc] at z; cases z), C.calm, C.units, tk, C.io, C.con, C.fns, C.free, C.exn, C.exm, C.xf, C.gcd, C.exv⟩, fun _ => po, C.bk, C.stk, C.raf, C.exc_, C.cold⟩
theorem CxtS.suite {sc : Scope} {calm : Bool} {B : Bs} {X : Cx} {W : WX} (C : CxtS T exc sc calm G B X W) {a : Addr} {oe : Obj} {cls : Value} {d : Option Addr} {pn : List (Addr × Obj)} (hz : Zc cls d oe) (hf : ∃ vs, oe.data = .fields vs) :
    CxtS T exc sc false G (B.exd (some (a, cls, d))) (X.suite a ((a, oe) :: pn)) (fun _ _ _ _ => False) :=
  ⟨⟨C.K, C.mg, C.N, C.fn, C.sc, C.nd, (fun _ a' cls' d' e => by cases e; exact ⟨oe, hz, hf, List.mem_cons_self⟩), (fun z => by cases z), C.units, takes0, C.io, C.con, C.fns, C.free, C.exn, C.exm, C.xf, C.gcd, C.exv⟩, (fun z => by cases z), C.bk, (fun z => by cases z), C.raf, C.exc_, C.cold⟩
def OKH (T : Tab) (exc : List Str) (G : Gam) (hs : Hds) : Prop := ∀ {sc : Scope} {B : Bs} {X : Cx} {W : WX}, CxtS T exc sc true G B X W → ∀ ehs : List ExceptHandler, chkHs T exc sc hs ehs = true →
  ∃ l, HdsMix X ehs l ∧ ∀ (x : XD) (ρ : Slots) (st : Store) (g : Gh) (Z : Ends), SPst B W g Z (exh G hs x ρ st) → ∀ g' H σ cls dd, g.le g' → ER B g' H σ ρ st → XR B.R g'.F x cls dd → wMix X.K W Z l cls dd σ H
theorem sok_hnil : OKH T exc G .nil := by
  intro sc B X W C ehs h
  cases ehs with
  | cons _ _ => exact Bool.noConfusion (show false = true from h)
  | nil => exact ⟨[], .nil, fun x ρ st g Z p g' H σ cls dd l e xr => (show SPst B W g Z (.exc x ρ st) from p) g' H σ cls dd l e xr⟩
/-- a clause's test -/
theorem clsX1_ok {sc : Scope} {B : Bs} {X : Cx} {W : WX} {calm : Bool} (C : CxtS T exc sc calm G B X W) {c : Str} {te : Expr} (k1 : clsB T sc c te = true) :
    ∃ (A : Addr) (p : Pos), te = .Name c p ∧ X.mg c = some (.ref A) ∧ Names X c (.ref A) := by
  have bad : ∀ {p : Prop}, (false = true) → p := fun z => Bool.noConfusion z
  cases te <;> first
    | exact bad k1
    | skip
  rename_i x p
  obtain ⟨j1, j2⟩ := b2 k1
  obtain ⟨j2, j3⟩ := b2 j2
  obtain ⟨j3, j4⟩ := b2 j3
  have hx : c = x := of_decide_eq_true j1
  subst hx
  obtain ⟨A, hA⟩ := C.exn c (List.contains_iff_mem.mp j2)
  obtain ⟨n1, _, _, _⟩ := seen_ok j4
  exact ⟨A, p, rfl, hA, C.glob j3, n1, .inl hA⟩
/-- what the classes' addresses say -/
inductive AddrsOf (X : Cx) : List Str → List Value → Prop
  | nil : AddrsOf X [] []
  | cons {c : Str} {cs : List Str} {A : Addr} {vs : List Value} : X.mg c = some (.ref A) → AddrsOf X cs vs → AddrsOf X (c :: cs) (.ref A :: vs)
theorem AddrsOf.length {X : Cx} : ∀ {cs : List Str} {vs : List Value}, AddrsOf X cs vs → vs.length = cs.length
  | _, _, .nil => rfl
  | _, _, .cons _ r => congrArg Nat.succ r.length
theorem clssX_ok {sc : Scope} {B : Bs} {X : Cx} {W : WX} {calm : Bool} (C : CxtS T exc sc calm G B X W) : ∀ {cs : List Str} {es : List Expr}, clssB T sc cs es = true → ∃ vs, NamesL X es vs ∧ AddrsOf X cs vs
  | [], [], _ => ⟨[], .nil, .nil⟩
  | [], _ :: _, h => Bool.noConfusion (show false = true from h)
  | _ :: _, [], h => Bool.noConfusion (show false = true from h)
  | c :: cs, e :: es, h => by
    obtain ⟨h1, h2⟩ := b2 (show (clsB T sc c e && clssB T sc cs es) = true from h)
    obtain ⟨A, p, rfl, hA, hn⟩ := clsX1_ok C h1
    obtain ⟨vs, n2, a2⟩ := clssX_ok C h2
    exact ⟨_, .cons hn n2, .cons hA a2⟩
theorem tst_ok {sc : Scope} {B : Bs} {X : Cx} {W : WX} {calm : Bool} (C : CxtS T exc sc calm G B X W) {cs : List Str} {tp : Bool} {te : Expr} (h : tstB T sc cs tp te = true) : ∃ vs, TestOf X te vs ∧ AddrsOf X cs vs := by
  have bad : ∀ {p : Prop}, (false = true) → p := fun z => Bool.noConfusion z
  cases tp with
  | false =>
    cases cs with
    | nil => exact bad h
    | cons c cs =>
      cases cs with
      | cons _ _ => exact bad h
      | nil =>
        obtain ⟨A, p, rfl, hA, hn⟩ := clsX1_ok C (show clsB T sc c te = true from h)
        exact ⟨_, .one hn, .cons hA .nil⟩
  | true =>
    cases te <;> first
      | exact bad h
      | skip
    rename_i es x1 p
    obtain ⟨h1, h2⟩ := b2 (show (clssB T sc cs es && decide (cs.length ≤ 1000)) = true from h)
    obtain ⟨vs, n1, a1⟩ := clssX_ok C h1
    exact ⟨vs, .tup n1 (by rw [a1.length, sizeLine_eq]; have := of_decide_eq_true h2; omega), a1⟩
theorem hit_any {sc : Scope} {B : Bs} {X : Cx} {W : WX} {calm : Bool} (C : CxtS T exc sc calm G B X W) {x : Str} {D : Addr} (hD : X.mg x = some (.ref D)) : ∀ {cs : List Str} {vs : List Value} {b : Bool}, AddrsOf X cs vs → hitS G.exm x cs = some b → PySem.W.exmAny X.K (.ref D) vs = some b
  | _, _, b, .nil, h => h
  | _, _, b, .cons (c := c) (cs := cs) (A := A) (vs := vs) hA r, h => by
    have h' : (match G.exm x c, hitS G.exm x cs with
      | some b, some d => some (b || d)
      | _, _ => none) = some b := h
    cases q2 : G.exm x c with
    | none => rw [q2] at h'; cases h'
    | some b1 =>
      cases q3 : hitS G.exm x cs with
      | none => rw [q2, q3] at h'; cases h'
      | some d1 =>
        rw [q2, q3] at h'
        cases h'
        obtain ⟨D2, C2, e1, e2, _, e3, _⟩ := C.exm _ _ _ q2
        rw [hD] at e1; cases e1
        rw [hA] at e2; cases e2
        have ih := hit_any C hD r q3
        show (match PySem.W.exmOne X.K (.ref D) (.ref A), PySem.W.exmAny X.K (.ref D) vs with
          | some b, some d => some (b || d)
          | _, _ => none) = _
        rw [e3, ih]
theorem sok_hcons (cs : List Str) (tp : Bool) (as_ : Option Nat) {b : Sts} {hs : Hds} (hb : OKSs T exc G b) (hh : OKH T exc G hs) : OKH T exc G (.cons cs tp as_ b hs) := by
  intro sc B X W C ehs h
  have bad : ∀ {p : Prop}, (false = true) → p := fun z => Bool.noConfusion z
  cases ehs with
  | nil => exact bad h
  | cons eh rest =>
    cases eh with
    | ExceptHandler te n body pos =>
      cases te with
      | none => exact bad h
      | some te =>
        cases body with
        | nil => exact bad h
        | cons b0 bs =>
          obtain ⟨k1, q1⟩ := b2 (show (tstB T sc cs tp te && (asB T sc as_ n && (chkSs T exc sc false b (b0 :: bs) && chkHs T exc sc hs rest))) = true from h)
          obtain ⟨k2, q2⟩ := b2 q1
          obtain ⟨k3, k4⟩ := b2 q2
          obtain ⟨vs, tst, ads⟩ := tst_ok C k1
          obtain ⟨l, hl, hq⟩ := hh C rest k4
          have hexn : B.ex = none := (C.stk rfl).2.2
          have su : SuOk X (b0 :: bs) (fun a cls dd => tS (B.exd (some (a, cls, dd))) (fun _ _ _ _ => False) (exs G b)) := fun a oe cls d pn hz hf => hb (C.suite hz hf) (b0 :: bs) k3
          have core : ∀ (x : XD) (ρ : Slots) (st : Store) (g : Gh) (Z : Ends), SPst B W g Z (exh G (.cons cs tp as_ b hs) x ρ st) → ∀ g' H σ cls dd, g.le g' → ER B g' H σ ρ st → XR B.R g'.F x cls dd →
              ∃ bv, PySem.W.exmAny X.K cls vs = some bv ∧ (bv = true → ∀ a, H a = none → tS (B.exd (some (a, cls, dd))) (fun _ _ _ _ => False) (exs G b) (endsH as_ Z) (match as_ with | none => σ | some i => σ.set i (some (.ref a))) H) ∧ (bv = false → wMix X.K W Z l cls dd σ H) := fun x ρ st g Z p g' H σ cls dd le e xr => by
            have p' : SPst B W g Z (match hitS G.exm x.cls cs with
              | some true => endH as_ (exs G b (begH as_ x ρ) st)
              | some false => exh G hs x ρ st
              | none => .stuck) := p
            cases q : hitS G.exm x.cls cs with
            | none => rw [q] at p'; exact p'.elim
            | some bv =>
              obtain ⟨D, hD, rfl⟩ := xr.1
              have hD' : X.mg x.cls = some (.ref D) := by rw [C.mg]; exact hD
              refine ⟨bv, hit_any C hD' ads q, fun hv a ha => ?_, fun hv => ?_⟩
              · subst hv
                rw [q] at p'
                have e0 : ER (B.exd (some (a, .ref D, dd))) g' H σ ρ st := e.exd fun i o v h1 h2 => slot_up (by have := e.slots i o v h1 h2; rw [hexn] at this; exact this)
                have p2 := SPst.le (suite_end (x := some (a, .ref D, dd)) p') le
                cases as_ with
                | none => exact ⟨g', ρ, st, e0, p2⟩
                | some i => exact ⟨g', ρ.set i (some (.exn x)), st, e0.setV (v := .exn x) ⟨a, .ref D, dd, rfl, rfl, xr⟩ i, p2⟩
              · subst hv
                rw [q] at p'
                exact hq x ρ st g Z p' g' H σ (.ref D) dd le e xr
          cases as_ with
          | none =>
            cases n with
            | some _ => exact bad k2
            | none => exact ⟨_, .cons tst su hl, fun x ρ st g Z p g' H σ cls dd le e xr => core x ρ st g Z p g' H σ cls dd le e xr⟩
          | some i =>
            cases n with
            | none => exact bad k2
            | some y =>
              obtain ⟨m1, m2⟩ := b2 (show (decide (T.N[i]? = some y) && locB sc y) = true from k2)
              exact ⟨_, .consA tst (by rw [C.N]; exact of_decide_eq_true m1) (locB_ok C.sc m2) su hl, fun x ρ st g Z p g' H σ cls dd le e xr => core x ρ st g Z p g' H σ cls dd le e xr⟩
theorem sok_try {b : Sts} {hs : Hds} (hb : OKSs T exc G b) (hh : OKH T exc G hs) : OKS T exc G (.try_ b hs) := by
  intro sc calm B X W C t h
  cases t with
  | Try eb ehs orelse fin pos =>
    cases ehs with
    | nil => exact Bool.noConfusion (show false = true from h)
    | cons eh ehs =>
      cases orelse with
      | cons _ _ => exact Bool.noConfusion (show false = true from h)
      | nil =>
        cases fin with
        | cons _ _ => exact Bool.noConfusion (show false = true from h)
        | nil =>
          obtain ⟨k1, q1⟩ := b2 (show (calm && (chkSs T exc sc calm b eb && chkHs T exc sc hs (eh :: ehs))) = true from h)
          obtain ⟨k2, k3⟩ := b2 q1
          subst k1
          obtain ⟨s1, s2, s3⟩ := C.stk rfl
          obtain ⟨l, hl, hq⟩ := hh C (eh :: ehs) k3
          refine ps_of (ps_try_mix (tb := fun W' => tS B W' (exs G b)) s1 s2 (by rw [C.N]; exact C.nd) C.tk (fun W' pn xe tk po => hb (C.tr rfl tk po) eb k2) hl) fun Z σ H ⟨g, ρ, st, er, p⟩ => ⟨g, ρ, st, er, ?_⟩
          have p' : SPst B W g Z (match exs G b ρ st with
            | .exc x ρ st => exh G hs x ρ st
            | r => r) := p
          cases q : exs G b ρ st with
          | exc x ρ' st' =>
            rw [q] at p'
            exact fun g' H' σ' cls dd le e xr => hq x ρ' st' g Z p' g' H' σ' cls dd le e xr
          | nx ρ' st' => rw [q] at p'; exact p'
          | bk ρ' st' => rw [q] at p'; exact p'
          | ct ρ' st' => rw [q] at p'; exact p'
          | rt d st' => rw [q] at p'; exact p'
          | rtl d st' => rw [q] at p'; exact p'
          | stuck => rw [q] at p'; exact p'
  | _ => exact Bool.noConfusion (show false = true from h)
end
end PD

/-! PD22 -/
set_option Elab.async false
set_option linter.all false
set_option maxRecDepth 100000
set_option maxHeartbeats 4000000
/-! PD: try: .. except C as n: raise X(..) from n. -/
namespace PD
open PySem PySem.Spec PyProof.Rows L2 HotX
/-- the heap behind «from the exception at c» -/
def fromH (h : Heap) (a c : Addr) : Heap := (h.update a (Obj.mapFields (·.setIfInBounds 3 (.ref c)))).update a (Obj.mapFields (·.setIfInBounds 4 (.bool true)))
theorem fromH_at {h : Heap} {a c : Addr} {oe : Obj} {vs : Array Value} (ha : h.get? a = some oe) (hd : oe.data = .fields vs) :
    (fromH h a c).get? a = some ((oe.mapFields (·.setIfInBounds 3 (.ref c))).mapFields (·.setIfInBounds 4 (.bool true))) ∧ ((oe.mapFields (·.setIfInBounds 3 (.ref c))).mapFields (·.setIfInBounds 4 (.bool true))).data = .fields ((vs.setIfInBounds 3 (.ref c)).setIfInBounds 4 (.bool true)) := by
  have hd3 := Obj.data_mapFields hd (·.setIfInBounds 3 (.ref c))
  have ha3 := Heap.get?_update_self (Obj.mapFields (·.setIfInBounds 3 (.ref c))) ha (Obj.isFreed_of_fields hd3)
  have hd4 := Obj.data_mapFields hd3 (·.setIfInBounds 4 (.bool true))
  exact ⟨Heap.get?_update_self (Obj.mapFields (·.setIfInBounds 4 (.bool true))) ha3 (Obj.isFreed_of_fields hd4), hd4⟩
theorem fromH_other {h : Heap} {a b c : Addr} (hne : a ≠ b) : (fromH h a c).get? b = h.get? b := by
  unfold fromH
  rw [Heap.get?_update_other _ _ hne, Heap.get?_update_other _ _ hne]
theorem raise_made_from {prog : Program} {w : World} {A : Around} {E : Value → Shared → Prop} {env : Env} {s : Shared} {x c : Sem Value} {Q : Flow → Shared → Prop} {x1 : Addr}
    (h : wpAny (model prog w) A x (fun v s₁ => ∃ a oe vs cls o1 v1, v = .ref a ∧ s₁.heap.get? a = some oe ∧ oe.cls = cls ∧ oe.data = .fields vs ∧ vs[1]? = some .none ∧ 4 < vs.size ∧ x1 ≠ a ∧ HotAt A x1 s₁.heap ∧
      s₁.heap.get? x1 = some o1 ∧ o1.data = .fields v1 ∧ PySem.W.Looks (model prog w) s₁.heap (isSubtype o1.cls (.type "BaseException")) true ∧
      (∀ Q' : Value → Shared → Prop, Q' (.ref x1) s₁ → wpAny (model prog w) A c Q' E s₁) ∧
      PySem.W.Looks (model prog w) s₁.heap (isSubtype cls (.type "BaseException")) true ∧ PySem.W.Looks (model prog w) (fromH s₁.heap a x1) (typeOf cls) (.type "type") ∧
      E (.ref a) { s₁ with heap := (fromH s₁.heap a x1).update a (Obj.mapFields (·.setIfInBounds 2 (.ref x1))) }) E s) :
    wpAny (model prog w) A (raiseStmt env (some x) (some c)) Q E s := by
  unfold raiseStmt
  dsimp only
  refine wpAny_bind (wpAny_mono h (fun v s₁ h₁ => ?_) fun _ _ x => x)
  obtain ⟨a, oe, vs, cls, o1, v1, rfl, ha, hcls, hd, h1, hi, hne, hot, g1, d1, LC, hcs, L1, L3, hE⟩ := h₁
  have LT : PySem.W.Looks (model prog w) s₁.heap (typeOf (.ref a)) cls := fun A Q E s k q => wpAny_typeOf_ref (k _ _ ha) (by rw [hcls]; exact q)
  have LI : PySem.W.Looks (model prog w) s₁.heap (isInstance (.ref a) (.type "BaseException")) true := LT.andThen L1
  have LTc : PySem.W.Looks (model prog w) s₁.heap (typeOf (.ref x1)) o1.cls := fun A Q E s k q => wpAny_typeOf_ref (k _ _ g1) q
  have LIc : PySem.W.Looks (model prog w) s₁.heap (isInstance (.ref x1) (.type "BaseException")) true := LTc.andThen LC
  have hnt : ∀ {Q' : Bool → Shared → Prop}, Q' false s₁ → wpAny (model prog w) A (isType (.ref a)) Q' E s₁ := by
    intro Q' hq
    simp only [isType, loadHead]
    refine wpAny_bind (wpAny_loadPart ha ?_)
    rw [hd]; exact wpAny_pure hq
  have hntc : ∀ {Q' : Bool → Shared → Prop}, Q' false s₁ → wpAny (model prog w) A (isType (.ref x1)) Q' E s₁ := by
    intro Q' hq
    simp only [isType, loadHead]
    refine wpAny_bind (wpAny_loadPart g1 ?_)
    rw [d1]; exact wpAny_pure hq
  have hd3 := Obj.data_mapFields hd (·.setIfInBounds 3 (.ref x1))
  have ha3 := Heap.get?_update_self (Obj.mapFields (·.setIfInBounds 3 (.ref x1))) ha (Obj.isFreed_of_fields hd3)
  obtain ⟨ha4, hd4⟩ := fromH_at (c := x1) ha hd
  have s3 : 3 < vs.size := by omega
  have s4 : 4 < (vs.setIfInBounds 3 (Value.ref x1)).size := by rw [set_size]; exact hi
  have s2 : 2 < ((vs.setIfInBounds 3 (Value.ref x1)).setIfInBounds 4 (Value.bool true)).size := by rw [set_size, set_size]; omega
  have h14 : ((vs.setIfInBounds 3 (Value.ref x1)).setIfInBounds 4 (Value.bool true))[1]? = some Value.none := set_other (by decide) (set_other (by decide) h1)
  have hcls4 : ((oe.mapFields (·.setIfInBounds 3 (.ref x1))).mapFields (·.setIfInBounds 4 (.bool true))).cls = cls := by rw [Obj.cls_mapFields, Obj.cls_mapFields]; exact hcls
  have LT4 : PySem.W.Looks (model prog w) (fromH s₁.heap a x1) (typeOf (.ref a)) cls := fun A Q E s k q => wpAny_typeOf_ref (k _ _ ha4) (by rw [hcls4]; exact q)
  have hnt4 : ∀ {Q' : Bool → Shared → Prop}, Q' false { s₁ with heap := fromH s₁.heap a x1 } → wpAny (model prog w) A (isType (.ref a)) Q' E { s₁ with heap := fromH s₁.heap a x1 } := by
    intro Q' hq
    simp only [isType, loadHead]
    refine wpAny_bind (wpAny_loadPart ha4 ?_)
    rw [hd4]; exact wpAny_pure hq
  have hot4 : HotAt A x1 (fromH s₁.heap a x1) := by
    obtain ⟨q1, o, vs', q2, q3, q4⟩ := hot
    exact ⟨q1, o, vs', by rw [fromH_other (Ne.symm hne)]; exact q2, q3, q4⟩
  have rest : wpAny (model prog w) A (do
      let b ← isType (.ref a)
      if b = true then do
        let e ← holding [.ref a] (raisedFor (.ref a) (.ref a))
        setFlight e none
        raiseNew e
      else do
        let e ← raisedInstance (.ref a)
        setFlight e none
        raiseNew e : Sem Flow) Q E { s₁ with heap := fromH s₁.heap a x1 } := by
    refine wpAny_bind (hnt4 ?_)
    simp only [Bool.false_eq_true, if_false]
    unfold raisedInstance
    refine wpAny_bind (wpAny_bind (LT4.here (wpAny_bind (L3.here ?_))))
    rw [if_pos (beq_self_eq_true _)]
    refine wpAny_pure ?_
    unfold setFlight
    refine wpAny_bind (wpAny_bind (wpAny_field ha4 hd4 h14 ?_))
    rw [if_neg (by decide)]
    refine wpAny_pure ?_
    exact raiseNew_hot hot4 hne ha4 hd4 s2 hE
  refine wpAny_bind (wpAny_holding (hcs _ (wpAny_bind (wpAny_pure ?_))))
  dsimp only
  refine wpAny_bind (wpAny_holding ?_)
  unfold excFromValue isExcClass
  refine wpAny_bind (wpAny_bind (hnt ?_))
  simp only [Bool.false_eq_true, if_false]
  refine wpAny_pure ?_
  simp only [Bool.false_eq_true, if_false]
  refine wpAny_bind (LI.here ?_)
  simp only [if_true]
  refine wpAny_pure ?_
  have nn : ¬ ((Value.ref x1 == Value.none) = true) := by simp
  rw [if_neg nn]
  first
  | refine wpAny_bind (wpAny_holding (wpAny_bind (wpAny_bind (hntc ?_))))
  | refine wpAny_bind (wpAny_bind (wpAny_holding (wpAny_bind (wpAny_bind (hntc ?_)))))
  simp only [Bool.false_eq_true, if_false]
  refine wpAny_pure ?_
  simp only [Bool.false_eq_true, if_false]
  refine wpAny_bind (LIc.here ?_)
  simp only [if_true]
  refine wpAny_pure ?_
  first
  | refine wpAny_bind (wpAny_setField ha hd s3 (wpAny_bind (wpAny_setField ha3 hd3 s4 ?_)))
  | refine wpAny_bind (wpAny_bind (wpAny_setField ha hd s3 (wpAny_bind (wpAny_setField ha3 hd3 s4 ?_))))
  | refine wpAny_bind (wpAny_bind (wpAny_setField ha hd s3 (wpAny_setField ha3 hd3 s4 ?_)))
  first
  | exact rest
  | (dsimp only; exact rest)
  | (refine wpAny_pure ?_; exact rest)
  | (simp only [bind_pure_comp] ; exact rest)

section
variable {X : Cx} {pins : List (Addr × Obj)} {σ : L2.St} {H : Hp} {s : Shared}
/-- the name of an except clause is gone: what the state is then -/
theorem inv_gone (I : Inv X pins σ H s) (hN : X.N.Nodup) {i : Nat} {n : Str} (hi : X.N[i]? = some n) {m : Str → Option Value} {v : Option Value} {h' : Heap} {t' : Nat}
    (hn : s.heap.Ns X.env.locals m) (hn' : h'.Ns X.env.locals (fun x => if x = n then v else m x)) (hs : Heap.SameBut X.env.locals s.heap h') : Inv X pins (σ.set i none) H { s with heap := h', toks := t' } := by
  obtain ⟨m2, hn2, hlk⟩ := id I.loc
  have em : m2 = m := by
    obtain ⟨o, es, ep, g1, g2, _, g3⟩ := hn
    obtain ⟨o2, es2, ep2, k1, k2, _, k3⟩ := hn2
    rw [g1] at k1
    cases k1
    rw [g2] at k2
    cases k2
    funext x
    rw [← g3, ← k3]
  subst em
  obtain ⟨oL, _, _, hoL, _⟩ := id hn
  have neL : ∀ b o, X.s_0.heap.get? b = some o → b ≠ X.env.locals := fun b o e => Nat.ne_of_lt (Nat.lt_of_lt_of_le (Heap.lt_size e) I.ok.above)
  refine ⟨I.ok, I.os, I.bare, ⟨fun b o e n hb hx => ?_, fun b o e n hb hx => ?_, I.base.free, fun b o e hx => ?_, I.base.tups, I.base.frzs, I.base.tbls⟩, ⟨_, hn', fun j y v' e1 e2 e3 => ?_⟩, fun y c e => ?_, I.free, I.freeC, fun p hp => ?_, fun b ob e => ?_, by simpa using I.len⟩
  · exact (hs.2 b (neL b o e)).trans (I.base.keep b o e n hb hx)
  · obtain ⟨sl, e1⟩ := I.base.slot b o e n hb hx
    exact ⟨sl, (hs.2 b (neL b o e)).trans e1⟩
  · obtain ⟨o', e1⟩ := I.base.there b o e hx
    exact ⟨o', (hs.2 b (neL b o e)).trans e1⟩
  · by_cases hj : j = i
    · subst hj
      by_cases hlt : j < σ.length
      · rw [List.getElem?_set_self hlt] at e2; cases e2
      · rw [List.getElem?_eq_none (by simpa using hlt)] at e2; cases e2
    · rw [List.getElem?_set_ne (Ne.symm hj)] at e2
      obtain ⟨u', r', q⟩ := hlk j y v' e1 e2 e3
      refine ⟨u', r', ?_⟩
      rcases q with ⟨k, e⟩ | ⟨k, c, e, z⟩
      · have ny : y ≠ n := fun e => hj (nodup_ix hN e1 (e ▸ hi))
        exact .inl ⟨k, (if_neg ny).trans e⟩
      · exact .inr ⟨k, c, e, z.sameBut hs (I.cne y c e)⟩
  · obtain ⟨w', z⟩ := I.cell y c e
    exact ⟨w', z.sameBut hs (I.cne y c e)⟩
  · obtain ⟨e, n, ne, nf, d⟩ := I.pin p hp
    exact ⟨(hs.2 p.1 ne).trans e, n, ne, nf, d⟩
  · refine (I.hok b ob e).stay (fun c w' hc q => (hs.2 c ?_).trans q) (fun _ q => q) fun _ _ q => q
    intro z
    subst z
    rcases hc with hc | hc
    · rw [← hc, I.free] at e; cases e
    · rw [I.free] at hc; cases hc
end
theorem funFrames_sameBut {h h' B : Heap} {L : Addr} (hs : Heap.SameBut L h h') {o : Obj} (ho : h'.get? L = some o) (hd : ∀ vs, o.data ≠ .fields vs) : ∀ {l : List Env}, h.FunFrames B l → h'.FunFrames B l
  | [], _ => trivial
  | env :: rest, ⟨hk, ⟨L1, o1, hf, hn, h1, hd1⟩, hr⟩ => by
    refine ⟨hk, ?_, funFrames_sameBut hs ho hd hr⟩
    by_cases e : L1 = L
    · subst e
      exact ⟨L1, o, hf, hn, ho, hd⟩
    · exact ⟨L1, o1, hf, hn, (hs.2 L1 e).trans h1, hd1⟩
/-- a held exception stays held where only the frame's names change -/
theorem held_sameBut {h h' B : Heap} {l : List Env} {a L : Addr} {Z : Obj → Prop} (hh : HandSPX.HeldZ B l a Z L h) (hs : Heap.SameBut L h h') {o0 : Obj} (h0 : h.get? L = some o0) (hd0 : ∀ vs, o0.data ≠ .fields vs) {o : Obj} (ho : h'.get? L = some o) (hd : ∀ vs, o.data ≠ .fields vs) (hB : B.get? L = none) : HandSPX.HeldZ B l a Z L h' := by
  obtain ⟨f1, f2, f3, oe, vs, T, oT, ts, he, hz, hde, h1, hnT, hTe, hT, hdT, h3⟩ := hh
  have ne : ∀ {b : Addr} {ob : Obj} {fs : Array Value}, h.get? b = some ob → ob.data = .fields fs → b ≠ L := fun {b ob fs} e d z => by
    rw [z, h0] at e
    cases e
    exact hd0 _ d
  refine ⟨fun b ob e => ?_, f2, funFrames_sameBut hs ho hd f3, oe, vs, T, oT, ts, (hs.2 a (ne he hde)).trans he, hz, hde, h1, hnT, hTe, (hs.2 T (ne hT hdT)).trans hT, hdT, h3⟩
  have nb : b ≠ L := fun z => by rw [z, hB] at e; cases e
  exact (hs.2 b nb).trans (f1 b ob e)
end PD

/-! PD23 -/
set_option Elab.async false
set_option linter.all false
set_option maxRecDepth 100000
set_option maxHeartbeats 4000000
/-! PD: the rule for try: .. except C as n: raise X(..) from n. -/
namespace PD
open PySem PySem.Spec PyProof.Rows L2 HotX
abbrev TMk : Type := Addr → Value → Option Addr → L2.St → Hp → XK → Prop
def wFrom (K : PySem.W.Frag) (c : Value) (i : Nat) (tmk : TMk) (Wout : WX) : WX := fun cls d σ H =>
  ∃ b, PySem.W.exmOne K cls c = some b ∧ (b = true → PySem.W.subIn K cls (.type "BaseException") = some true ∧ ∀ a, H a = none → tmk a cls d (σ.set i (some (.ref a))) H fun cls2 d2 H2 => Wout cls2 d2 (σ.set i none) H2) ∧ (b = false → Wout cls d σ H)
section
variable {X : Cx} {x n : Str} {c : Value} {i : Nat} {body : List Stmt} {mkE : Expr} {np np2 rpos pos pos' : Pos} {tb : WX → TS} {tmk : TMk} {Wout : WX}
theorem ps_try_from (hs : X.stack = X.env :: X.outer) (hf : X.env.frame = some X.env.locals) (hN : X.N.Nodup) (hi : X.N[i]? = some n) (hln : X.env.kindOf n = some .local) (hnd : (n == ("__debug__" : Str)) = false) (hc : Names X x c) (tk : L2.Takes X Wout)
    (hb : ∀ (W : WX) (pn : List (Addr × Obj)) (xe : Value → Shared → Prop), L2N.Takes (X.tr pn xe) W → PassesOwn (model X.prog X.w) X.A X.env xe → PSs (X.tr pn xe) body (tb W))
    (hmk : ∀ (a : Addr) (oe : Obj) (cls : Value) (d : Option Addr) (pn : List (Addr × Obj)), Zc cls d oe → (∃ vs, oe.data = .fields vs) → PMk6 (X.suite a ((a, oe) :: pn)) mkE (tmk a cls d)) :
    PS X (.Try body [.ExceptHandler (some (.Name x np)) (some n) [.Raise (some mkE) (some (.Name n np2)) rpos] pos'] [] [] pos) (fun D σ H => tb (wFrom X.K c i tmk Wout) D σ H) := by
  refine ⟨fun pins s σ H D I h => ?_⟩
  have ok := I.ok
  have hfr : X.A.frames = some (X.env :: X.outer) := by rw [ok.frames, hs]
  have hloc : Loc X.env.scope n := .inl hln
  have hLin : X.env.locals ∈ L2.frs X.stack := by rw [hs]; exact List.mem_filterMap.mpr ⟨X.env, List.mem_cons_self, hf⟩
  refine wpAny_Try_except ?_
  refine wpAny_mono ((hb (wFrom X.K c i tmk Wout) (X.pn ++ pins) (fun e s₁ => wpAny (model X.prog X.w) X.A (noteFrame e X.env) (fun _ s₂ => wpAny (model X.prog X.w) X.A (setFlight e none) (fun _ s₃ =>
    wpAny (model X.prog X.w) X.A (handleBy e X.env [.ExceptHandler (some (.Name x np)) (some n) [.Raise (some mkE) (some (.Name n np2)) rpos] pos']) (SP X pins D) X.xe s₃) X.xe s₂) X.xe s₁) (fun u s' xx => ?_) PassesOwn.looking).run [] s σ H D (I.toTry _) h) (fun f s1 hsp => ?_) (fun e s1 he => he)
  · obtain ⟨a, B, sI, pins', σ', H', cls, d, rfl, J', nb, up, sky, na, os, ag, b, hb1, hyes, hno⟩ := xx
    have J : Inv X pins σ' H' sI := J'.ofTry ok
    have sky' : Sky B (X.env :: X.outer) a (L2N.Zn cls d) X.env.locals s'.heap := by rw [← hs]; exact sky
    show wpAny (model X.prog X.w) X.A (noteFrame (.ref a) X.env) _ _ _
    refine L2N.Sky.land L2N.Zn.steady hfr hf sky' fun h3 fl3 up3 => ?_
    have J3 : Inv X pins σ' H' { s' with heap := h3 } := J.landed nb fl3.1 (up.trans up3) os ag
    obtain ⟨oe3, vs3, he3, hz3, hd3⟩ := fl3.there
    have notFr : ∀ {B h : Heap} {a : Addr} {o : Obj} {vs : Array Value}, h.FunFrames B (X.env :: X.outer) → h.get? a = some o → o.data = .fields vs → a ∉ L2.frs (X.env :: X.outer) := fun {B h a o vs} ff e dd hm => by
      obtain ⟨_, o', e', hnf⟩ := ff.mem hm
      rw [e] at e'; cases e'
      exact hnf _ dd
    have nfr : a ∉ L2.frs (X.env :: X.outer) := notFr fl3.2.2.1 he3 hd3
    have nL : a ≠ X.env.locals := fun z => nfr (List.mem_filterMap.mpr ⟨X.env, List.mem_cons_self, by rw [hf, z]⟩)
    have nF : a ∉ X.fs := fun hm => by
      obtain ⟨e, he, q⟩ := List.mem_filterMap.mp hm
      exact nfr (List.mem_filterMap.mpr ⟨e, List.mem_cons_of_mem _ he, q⟩)
    have S3 := J3.suite he3 hd3 na nL nF
    refine wpAny_handleBy_cons (codeAny_handlers_test ?_) (by intro q; cases q)
    have LT : PySem.W.Looks (model X.prog X.w) h3 (typeOf (.ref a)) cls := fun A Q E s k q => wpAny_typeOf_ref (k _ _ he3) (by rw [hz3.1]; exact q)
    have LM := PySem.W.exm_one (M := model X.prog X.w) (J3.kIn) LT hb1
    have test : ∀ {Q : Value → Shared → Prop} {E : Value → Shared → Prop}, Q c { s' with heap := h3 } → wpAny (model X.prog X.w) (X.A.mark (some (.ref a))) (eval (.Name x np) X.env) Q E { s' with heap := h3 } := fun {Q E} q => by
      obtain ⟨hg, hdbg, hm | ⟨hm, hv, hnn⟩⟩ := hc
      · exact ld_glob (X := X.suite a ((a, oe3) :: (X.pn ++ pins))) S3 hg hm q hdbg
      · exact ld_blt (X := X.suite a ((a, oe3) :: (X.pn ++ pins))) S3 hg hm hv q hnn hdbg
    refine test (LM.here ?_)
    cases b with
    | true =>
      obtain ⟨hbase, hyes⟩ := hyes rfl
      refine codeAny_handlers_suite_as ?_
      refine HandSPX.lands_againZ fl3 fun h4 fl4 up4 => ?_
      have J4 : Inv X pins σ' H' { s' with heap := h4 } := J.landed nb fl4.1 ((up.trans up3).trans up4) os ag
      obtain ⟨oe4, vs4, he4, hz4, hd4⟩ := fl4.there
      have S4 := J4.suite he4 hd4 na nL nF
      refine store_ok (X := X.suite a ((a, oe4) :: (X.pn ++ pins))) (v := .ref a) S4 hN hi hloc rfl (fun s5 S5 => ?_) (.inr hln)
      refine wpAny_execs_cons ?_
      show wpAny _ _ (do standAt rpos; raiseStmt X.env (some (do let v ← eval mkE X.env; standAt rpos; pure v)) (some (do let v ← eval (.Name n np2) X.env; standAt rpos; pure v))) _ _ _
      refine wpAny_bind (wpAny_standAt (raise_made_from (x1 := a) (wpAny_bind (wpAny_mono (hmk a oe4 cls d (X.pn ++ pins) hz4.zc ⟨_, hd4⟩ [] s5 _ H' _ S5 (hyes a na)) (fun u s1 hu => wpAny_bind (wpAny_standAt (wpAny_pure ?_))) fun _ _ z => False.elim z))))
      obtain ⟨⟨a2, oe2, vs2, sJ, H2, cls2, d2, rfl, J2, k, hne, ha, hz, hd, h1, na2, os2, ag2, r, q⟩, h6⟩ := hu
      have P1 := (J2.pin (a, oe4) (List.mem_append_left _ List.mem_cons_self)).1
      have nap : a ≠ a2 := fun z => by
        have P1' : sJ.heap.get? a = some oe4 := P1
        rw [z, hne] at P1'
        cases P1'
      have k4 : ∀ b u, sJ.heap.get? b = some u → (fromH s1.heap a2 a).get? b = some u := fun b u z => by
        have nab : a2 ≠ b := fun y => by
          rw [← y, hne] at z
          cases z
        rw [fromH_other nab]
        exact k b u z
      have k5 : ∀ b u, sJ.heap.get? b = some u → ((fromH s1.heap a2 a).update a2 (Obj.mapFields (·.setIfInBounds 2 (.ref a)))).get? b = some u := fun b u z => by
        have nab : a2 ≠ b := fun y => by
          rw [← y, hne] at z
          cases z
        rw [Heap.get?_update_other _ _ nab]
        exact k4 b u z
      obtain ⟨r1, _⟩ := r (model X.prog X.w) s1.heap (J2.kIn.keeps k)
      obtain ⟨_, r2⟩ := r (model X.prog X.w) (fromH s1.heap a2 a) (J2.kIn.keeps k4)
      have si : 4 < vs2.size := h6 a2 oe2 vs2 rfl ha hd
      refine ⟨a2, oe2, vs2, cls2, oe4, vs4, rfl, ha, hz.1, hd, h1, si, nap, ⟨rfl, oe4, vs4, k _ _ P1, hd4, hz4.2.2 vs4 hd4⟩, k _ _ P1, hd4, ?_, fun Q' q' => ?_, r1, r2, ?_⟩
      · rw [hz4.1]
        exact PySem.W.looks_subIn (J2.kIn.keeps k) hbase
      · have I1 : Inv (X.suite a ((a, oe4) :: (X.pn ++ pins))) [] (σ'.set i (some (.ref a))) H2 s1 :=
          J2.landed (B := PySem.W.hideAll sJ.heap (L2.frs X.stack)) (fun b o e hb => PySem.W.hideAll_get _ e hb) (fun b o e => k b o (PySem.W.of_hideAll _ e)) (Heap.UpToSlots.of_keeps k) os2 ag2
        have hil : i < σ'.length := by rw [J.len]; exact (List.getElem?_eq_some_iff.mp hi).1
        obtain ⟨m, hn, hl⟩ := I1.loc
        obtain ⟨u, hu, l⟩ := hl i n (.ref a) hi (List.getElem?_set_self hil) (.inl hln)
        have hu' : u = .ref a := hu
        subst hu'
        have fin : ∀ {Q'' : Value → Shared → Prop} {E'' : Value → Shared → Prop}, Q'' (.ref a) s1 → wpAny (model X.prog X.w) (X.A.mark (some (.ref a))) (eval (.Name n np2) X.env) Q'' E'' s1 := fun {Q'' E''} q'' => by
          rcases l with ⟨hk, hm⟩ | ⟨hk, c2, hc2, hcell⟩
          · exact wpAny_Name (wpAny_loadName_local I1.ok.kind hk hn hm q'') hnd
          · rcases hk with hk | hk
            · have hk' : X.env.scope.names.lookup n = some .cell := hk
              have hln' : X.env.scope.names.lookup n = some .local := hln
              rw [hln'] at hk'
              cases hk'
            · have hk' : X.env.scope.names.lookup n = some .free := hk
              have hln' : X.env.scope.names.lookup n = some .local := hln
              rw [hln'] at hk'
              cases hk'
        exact wpAny_bind (fin (wpAny_bind (wpAny_standAt (wpAny_pure q'))))
      · -- the new exception flies
        have hfrM : (X.A.mark (some (.ref a))).frames = some (X.env :: X.outer) := hfr
        let B2 := PySem.W.hideAll sJ.heap (L2.frs X.stack)
        let h0 := (fromH s1.heap a2 a).update a2 (Obj.mapFields (·.setIfInBounds 2 (.ref a)))
        have st0 : B2.StaysIn h0 := fun b o e => k5 b o (PySem.W.of_hideAll _ e)
        have en0 : B2.get? a2 = none := by
          cases q2 : B2.get? a2 with
          | none => rfl
          | some o =>
            have z := PySem.W.of_hideAll _ q2
            rw [hne] at z; cases z
        have ff0 : h0.FunFrames B2 (X.env :: X.outer) := by
          have z : h0.FunFrames B2 X.stack := Heap.FunFrames.of_keeps (fun b o e _ => ⟨o, k5 b o e, rfl⟩) (funFrames_none J2.stack fun b hb => PySem.W.hideAll_none _ hb)
          rw [← hs]; exact z
        obtain ⟨ha4, hd4'⟩ := fromH_at (c := a) ha hd
        have ha5 := Heap.get?_update_self (Obj.mapFields (·.setIfInBounds 2 (.ref a))) ha4 (Obj.isFreed_of_fields (Obj.data_mapFields hd4' _))
        have hz5 : Zc cls2 d2 (((oe2.mapFields (·.setIfInBounds 3 (.ref a))).mapFields (·.setIfInBounds 4 (.bool true))).mapFields (·.setIfInBounds 2 (.ref a))) :=
          ⟨by rw [Obj.cls_mapFields, Obj.cls_mapFields, Obj.cls_mapFields]; exact hz.1, by rw [HandSPX.dict_mapFields, HandSPX.dict_mapFields, HandSPX.dict_mapFields]; exact hz.2⟩
        have h15 : (((vs2.setIfInBounds 3 (Value.ref a)).setIfInBounds 4 (Value.bool true)).setIfInBounds 2 (Value.ref a))[1]? = some Value.none := set_other (by decide) (set_other (by decide) (set_other (by decide) h1))
        refine HandSPX.look_newZ (Z := Zc cls2 d2) (base := B2) Zc.steady hfrM ff0 hf ha5 st0 en0 (Obj.data_mapFields hd4' _) h15 hz5 fun h7 hh7 up7 => ?_
        -- the name goes
        obtain ⟨m, hn, _⟩ := id J2.loc
        obtain ⟨oL, esL, epL, hoL, hdL, hkL, hmL⟩ := id hn
        have dL : ∀ vs, oL.data ≠ .fields vs := fun vs z => by rw [hdL] at z; cases z
        have upJ : sJ.heap.UpToSlots h7 := (Heap.UpToSlots.of_keeps k5).trans up7
        obtain ⟨sl7, hoL7⟩ := upJ _ _ hoL dL
        have hn7 : h7.Ns X.env.locals m := ⟨_, esL, epL, hoL7, hdL, hkL, hmL⟩
        have hcls : (X.env.scope.kind == .class || (X.env.scope.kind == .module && X.env.locals != X.env.globals)) = false := by rw [ok.kind]; rfl
        have BL : B2.get? X.env.locals = none := PySem.W.hideAll_none _ hLin
        refine wpAny_nameGoes_keeps (m := m) hln hn7 hcls fun h8 v8 hn8 hs8 => ?_
        obtain ⟨o8, es8, ep8, ho8, hd8, hk8, hm8⟩ := id hn8
        have d8 : ∀ vs, o8.data ≠ .fields vs := fun vs z => by rw [hd8] at z; cases z
        have hh8 : HandSPX.HeldZ B2 (X.env :: X.outer) a2 (Zc cls2 d2) X.env.locals h8 := held_sameBut hh7 hs8 hoL7 dL ho8 d8 BL
        -- the state without the exception
        let G := sJ.heap.update X.env.locals (fun _ => o8)
        have hG : G.get? X.env.locals = some o8 := Heap.get?_update_self (fun _ => o8) hoL (Obj.isFreed_of_dict hd8)
        have nG : G.Ns X.env.locals (fun x => if x = n then v8 else m x) := ⟨o8, es8, ep8, hG, hd8, hk8, hm8⟩
        have sG : Heap.SameBut X.env.locals sJ.heap G := ⟨Heap.size_update _ _ _, fun b hb => Heap.get?_update_other _ _ (Ne.symm hb)⟩
        have JG := inv_gone (t' := sJ.toks) J2 hN hi hn nG sG
        have JG' : Inv X pins ((σ'.set i (some (.ref a))).set i none) H2 { sJ with heap := G, toks := sJ.toks } := JG.unsuite ok
        rw [List.set_set] at JG'
        have upG : G.UpToSlots h8 := fun b o e nd => by
          by_cases hbL : b = X.env.locals
          · subst hbL
            rw [hG] at e
            cases e
            exact ⟨o8.slots, ho8⟩
          · rw [sG.2 b hbL] at e
            obtain ⟨sl, e7⟩ := upJ b o e nd
            exact ⟨sl, (hs8.2 b hbL).trans e7⟩
        have nbG : ∀ b o, G.get? b = some o → b ∉ L2.frs X.stack → B2.get? b = some o := fun b o e hb => by
          have hbL : b ≠ X.env.locals := fun z => hb (z ▸ hLin)
          rw [sG.2 b hbL] at e
          exact PySem.W.hideAll_get _ e hb
        have field1 : ∀ {h9 : Heap} {Q9 : Value → Shared → Prop} {A9 : Around} {E9 : Value → Shared → Prop} {s9 : Shared}, s9.heap = h9 → HandSPX.HeldZ B2 (X.env :: X.outer) a2 (Zc cls2 d2) X.env.locals h9 → (∀ T, Q9 (.ref T) s9) → wpAny (model X.prog X.w) A9 (field (.ref a2) 1) Q9 E9 s9 := fun {h9 Q9 A9 E9 s9} e9 hh q9 => by
          obtain ⟨k1, k2, k3, oe, vs, T, oT, ts', he, hz, hd, h1, hr⟩ := hh
          subst e9
          exact wpAny_field he hd h1 (q9 T)
        unfold PySem.passOn
        refine wpAny_bind (field1 rfl hh8 fun T => ?_)
        rw [if_neg (show ¬ ((Value.ref T == Value.none) = true) from by simp)]
        have last : ∀ {h9 : Heap} {t9 : Nat}, HandSPX.HeldZ B2 (X.env :: X.outer) a2 (Zc cls2 d2) X.env.locals h9 → h8.UpToSlots h9 → X.xe (.ref a2) { s1 with heap := h9, toks := t9 } := fun {h9 t9} hh9 up9 =>
          tk _ _ ⟨a2, B2, { sJ with heap := G, toks := sJ.toks }, pins, _, H2, cls2, d2, rfl, JG', nbG, upG.trans up9, .inr (.inr (by rw [hs]; exact hh9)), na2, os2, ag2, by simpa only [List.set_set] using q⟩
        rw [hf]
        refine wpAny_bind (HandSPX.setFlight_onZ hh8 fun h9 hh9 up9 => wpAny_throw ?_)
        show wpAny _ _ (noteFrame (.ref a2) X.env) _ _ _
        refine HandSPX.againZ hf hh9.2.2.2 ?_
        show cameBackBy (model X.prog X.w) X.A X.env X.xe (.ref a2) _
        unfold cameBackBy
        refine wpAny_bind (field1 rfl hh9 fun T => ?_)
        rw [if_neg (show ¬ ((Value.ref T == Value.none) = true) from by simp), hf]
        first
          | exact HandSPX.setFlight_onZ hh9 fun h10 hh10 up10 => last hh10 (up9.trans up10)
          | exact wpAny_bind (wpAny_pure (HandSPX.setFlight_onZ hh9 fun h10 hh10 up10 => last hh10 (up9.trans up10)))
    | false =>
      show wpAny _ X.A (handleBy (.ref a) X.env []) _ _ _
      refine wpAny_handleBy_nil ?_
      obtain ⟨k1, k2, k3, oe, vs, T, oT, ts', he, hz, hd, h1, hr⟩ := id fl3
      unfold PySem.passOn
      refine wpAny_bind (wpAny_field he hd h1 ?_)
      rw [if_neg (show ¬ ((Value.ref T == Value.none) = true) from by simp)]
      have fin : wpAny (model X.prog X.w) X.A (setFlight (.ref a) X.env.frame) (fun _ s4 => wpAny (model X.prog X.w) X.A (throw (.ref a) : Sem Flow) (SP X pins D) X.xe s4) X.xe { s' with heap := h3 } := by
        rw [hf]
        refine HandSPX.setFlight_upZ (L2H.flyingZ_imp (fun o z => z.zc) fl3) fun h4 hh4 up4 => wpAny_throw (tk _ _ ?_)
        exact ⟨a, B, sI, pins, σ', H', cls, d, rfl, J, nb, (up.trans up3).trans up4, .inr (.inr (by rw [hs]; exact hh4)), na, os, ag, hno rfl⟩
      first
        | exact wpAny_bind (wpAny_pure (wpAny_bind fin))
        | exact wpAny_bind fin
  · cases f with
    | next =>
      obtain ⟨σ', H', J', q⟩ := hsp
      exact wpAny_execs_nil ⟨σ', H', J'.ofTry ok, q⟩
    | brk =>
      obtain ⟨σ', H', J', q⟩ := hsp
      exact ⟨σ', H', J'.ofTry ok, q⟩
    | cont =>
      obtain ⟨σ', H', J', q⟩ := hsp
      exact ⟨σ', H', J'.ofTry ok, q⟩
    | ret u =>
      obtain ⟨v, σ', H', J', r, q⟩ := hsp
      exact ⟨v, σ', H', J'.ofTry ok, r, q⟩
end
end PD

/-! PD24 -/
set_option Elab.async false
set_option linter.all false
set_option maxRecDepth 100000
set_option maxHeartbeats 4000000
/-! PD: what raises nothing; try .. raise .. from. -/
namespace PD
open PySem PySem.Spec PyProof.Rows L2
/-! ### no call, no exception -/
def Nx {α : Type} (r : Res α) : Prop := ∀ x st, r ≠ .exc x st
theorem nx_ok {α : Type} {a : α} {st : Store} : Nx (.ok a st) := fun _ _ h => by cases h
theorem nx_stuck {α : Type} : Nx (.stuck : Res α) := fun _ _ h => by cases h
theorem nx_bind {α β : Type} {r : Res α} {f : α → Store → Res β} (h : Nx r) (k : ∀ a st, Nx (f a st)) : Nx (r.bind f) := by
  cases r with
  | ok a st => exact k a st
  | exc x st => exact absurd rfl (h x st)
  | stuck => exact nx_stuck
theorem nx_pick {α β : Type} {o : Option α} {f : α → Res β} (k : ∀ a, Nx (f a)) : Nx (pick o f) := by
  cases o with
  | none => exact nx_stuck
  | some a => exact k a
theorem nx_op {r : OpD} {st : Store} : Nx (opRes r st) := by
  cases r with
  | d _ => exact nx_ok
  | l _ => exact nx_ok
  | no => exact nx_stuck
mutual
theorem ev_pur {G : Gam} : ∀ (e : Ex), e.pur = true → ∀ ρ st, Nx (ev G e ρ st)
  | .var i, _, ρ, st => by
    show Nx (match ρ[i]? with
      | some (some v) => .ok v st
      | _ => .stuck)
    split
    · exact nx_ok
    · exact nx_stuck
  | .lit d, _, ρ, st => nx_ok
  | .glo j, _, ρ, st => nx_pick fun _ => nx_ok
  | .bin o a b, h, ρ, st => by
    have h' : (a.pur && b.pur) = true := h
    obtain ⟨h1, h2⟩ := Bool.and_eq_true_iff.mp h'
    exact nx_bind (ev_pur a h1 ρ st) fun _ st1 => nx_bind (ev_pur b h2 ρ st1) fun _ _ => nx_pick fun _ => nx_pick fun _ => nx_op
  | .cmp o a b, h, ρ, st => by
    have h' : (a.pur && b.pur) = true := h
    obtain ⟨h1, h2⟩ := Bool.and_eq_true_iff.mp h'
    exact nx_bind (ev_pur a h1 ρ st) fun _ st1 => nx_bind (ev_pur b h2 ρ st1) fun _ _ => nx_pick fun _ => nx_pick fun _ => nx_pick fun _ => nx_ok
  | .and_ a b, h, ρ, st => by
    have h' : (a.pur && b.pur) = true := h
    obtain ⟨h1, h2⟩ := Bool.and_eq_true_iff.mp h'
    refine nx_bind (ev_pur a h1 ρ st) fun x st1 => ?_
    split
    · exact ev_pur b h2 ρ st1
    · exact nx_ok
    · exact nx_stuck
  | .or_ a b, h, ρ, st => by
    have h' : (a.pur && b.pur) = true := h
    obtain ⟨h1, h2⟩ := Bool.and_eq_true_iff.mp h'
    refine nx_bind (ev_pur a h1 ρ st) fun x st1 => ?_
    split
    · exact nx_ok
    · exact ev_pur b h2 ρ st1
    · exact nx_stuck
  | .idx a b, h, ρ, st => by
    have h' : (a.pur && b.pur) = true := h
    obtain ⟨h1, h2⟩ := Bool.and_eq_true_iff.mp h'
    exact nx_bind (ev_pur a h1 ρ st) fun _ st1 => nx_bind (ev_pur b h2 ρ st1) fun _ _ => nx_pick fun _ => nx_pick fun _ => nx_pick fun _ => nx_ok
  | .bfn f es, h, ρ, st => nx_bind (evs_pur es h ρ st) fun _ _ => nx_pick fun _ => nx_op
  | .none_, h, _, _ => nomatch h
  | .chain _ _ _ _ _, h, _, _ => nomatch h
  | .neg _, h, _, _ => nomatch h
  | .not_ _, h, _, _ => nomatch h
  | .ife _ _ _, h, _, _ => nomatch h
  | .tru _, h, _, _ => nomatch h
  | .tup _, h, _, _ => nomatch h
  | .lst _, h, _, _ => nomatch h
  | .slc _ _ _, h, _, _ => nomatch h
  | .call _ _, h, _, _ => nomatch h
  | .mth _ _ _, h, _, _ => nomatch h
  | .isi _ _ _, h, _, _ => nomatch h
  | .isx _ _ _, h, _, _ => nomatch h
  | .xfld _ _, h, _, _ => nomatch h
  | .isv _ _, h, _, _ => nomatch h
  | .pop _, h, _, _ => nomatch h
  | .fst _, h, _, _ => nomatch h
  | .call0 _, h, _, _ => nomatch h
  | .fst3 _ _ _, h, _, _ => nomatch h
  | .join _ _, h, _, _ => nomatch h
  | .lc _ _ _ _ _, h, _, _ => nomatch h
theorem evs_pur {G : Gam} : ∀ (es : Exs), es.pur = true → ∀ ρ st, Nx (evs G es ρ st)
  | .nil, _, _, _ => nx_ok
  | .cons e es, h, ρ, st => by
    have h' : (e.pur && es.pur) = true := h
    obtain ⟨h1, h2⟩ := Bool.and_eq_true_iff.mp h'
    exact nx_bind (ev_pur e h1 ρ st) fun _ st1 => nx_bind (evs_pur es h2 ρ st1) fun _ _ => nx_ok
end
theorem Pst.swap {B : Bs} {W W' : WX} {g : Gh} {H : Hp} {σ : L2.St} {ρ : Slots} {α : Type} {r : Res α} {k : α → Store → Gh → Hp → Prop} (hn : Nx r) (h : Pst B W g H σ ρ r k) : Pst B W' g H σ ρ r k := by
  cases r with
  | ok a st => exact h
  | exc x st => exact absurd rfl (hn x st)
  | stuck => exact h
theorem passAtN {X : Cx} {W : WX} (tk : L2N.Takes X W) (σ : L2.St) : PassesAt (L2N.CX X.prog X.w) X σ (WE W σ) := fun _ _ _ e s' I c => tk e s' (L2N.XE.of_call I (fun _ _ _ h => h) c)
section
variable {T : Tab} {exc : List Str} {G : Gam}
theorem sok_tryx (j : Nat) (es : Exs) (c : Str) (i : Nat) (x f : Str) (e : Ex) : OKS T exc G (.tryx j es c i x f e) := by
  intro sc calm B X W C t h
  have h0 : (match tryxP t with
    | some (cl, _, ct, n, mk, n', _, _, _, _) => (match mkxP mk with
      | some (y, _, ea, _) => calm && (chk T sc calm (.call j es) false cl && (coldB T j && (clsB T sc c ct && (decide (T.N[i]? = some n) && (locB sc n && (PD.seen n && (decide (n = n') && (decide (x = y) && (T.raf.contains (x, f) && (T.free.contains "super" && (glB sc y && (PD.seen y && (plainE ea && chk T sc false e false ea)))))))))))))
      | none => false)
    | none => false) = true := h
  cases q : tryxP t with
  | none => rw [q] at h0; cases h0
  | some z =>
    obtain ⟨cl, p, ct, n, mk, n', p2, p3, p4, p5⟩ := z
    rw [q] at h0
    dsimp only at h0
    cases qm : mkxP mk with
    | none => rw [qm] at h0; cases h0
    | some z2 =>
      obtain ⟨y, p6, ea, p7⟩ := z2
      rw [qm] at h0
      obtain ⟨k1, h0⟩ := b2 h0
      obtain ⟨k2, h0⟩ := b2 h0
      obtain ⟨k3, h0⟩ := b2 h0
      obtain ⟨k4, h0⟩ := b2 h0
      obtain ⟨k5, h0⟩ := b2 h0
      obtain ⟨k6, h0⟩ := b2 h0
      obtain ⟨k7, h0⟩ := b2 h0
      obtain ⟨k8, h0⟩ := b2 h0
      obtain ⟨k9, h0⟩ := b2 h0
      obtain ⟨k10, h0⟩ := b2 h0
      obtain ⟨k11, h0⟩ := b2 h0
      obtain ⟨k12, h0⟩ := b2 h0
      obtain ⟨k13, h0⟩ := b2 h0
      obtain ⟨k14, k15⟩ := b2 h0
      have ht := tryxP_ok q
      have hmk := mkxP_ok qm
      have e1 : n = n' := of_decide_eq_true k8
      have e2 : x = y := of_decide_eq_true k9
      subst e1 e2
      subst hmk
      subst ht
      subst k1
      obtain ⟨s1, s2, s3⟩ := C.stk rfl
      obtain ⟨cm, room⟩ := C.calm rfl
      obtain ⟨xf, p0, eb, ees, pos, rfl, g1, g2, g3, g4, g5⟩ := chk_call k2
      obtain ⟨ac, pc, rfl, hA, hnm⟩ := clsX1_ok C k4
      obtain ⟨AX, fI, S⟩ := C.raf (x, f) (List.contains_iff_mem.mp k10)
      obtain ⟨nx1, _, _, _⟩ := seen_ok k13
      obtain ⟨nn1, _, _, _⟩ := seen_ok k7
      obtain ⟨nf1, _, _, _⟩ := seen_ok g3
      cases qf : G.fns[j]? with
      | none => exact ⟨fun pins s σ H Z I ⟨g, ρ, st, er, p⟩ => by
          have p' : SPst B W g Z (if es.pur && e.pur then (match pick G.fns[j]? fun fi => (evs G es ρ st).bind fun vs st => callS G.io fi vs st with
            | .ok _ st => .nx ρ st
            | .exc y st => (match G.exm y.cls c with
              | some true => if noExn (ρ.set i none) = true then (ev G e (ρ.set i (some (.exn y))) st).sr ρ fun v st => (fr G.io v st).sr (ρ.set i none) fun d st => .exc ⟨x, [(f, d)]⟩ (ρ.set i none) st else .stuck
              | some false => .exc y ρ st
              | none => .stuck)
            | .stuck => .stuck) else .stuck) := p
          rw [qf] at p'
          obtain ⟨_, p2⟩ := spst_if p'
          exact p2.elim⟩
      | some fi =>
        have hcold : xf ∈ T.cold := by
          have k3' : (match T.fns[j]? with
            | some (x, _) => T.cold.contains x
            | none => false) = true := k3
          rw [g1] at k3'
          exact List.contains_iff_mem.mp k3'
        obtain ⟨fa, fd, ps, ds, dvs, hm, hk, hb, hv, F, hn, hd⟩ := C.cold j fi xf _ qf g1 hcold
        obtain ⟨a1, as1, _, pl, _, h6⟩ := chks_cons g5
        refine ps_of (ps_try_from (c := .ref ac) (i := i) (tmk := fun a cls d => tMkSup AX f (tCons (tE (B.exd (some (a, cls, d))) (fun _ _ _ _ => False) (ev G e)) tNil)) (Wout := W)
          (tb := fun W' D σ H => tA' B (fun _ _ _ _ => False) (evs G es) σ H fun vs H1 => spOf B.R ps.length fi.f (vs ++ dvs) H1 (fun _ H2 => D.nx σ H2) (WE W' σ))
          s1 s2 (by rw [C.N]; exact C.nd) (by rw [C.N]; exact of_decide_eq_true k5) (locB_ok C.sc k6) nn1 hnm C.tk (fun W' pn xe tkN po => ?_) (fun a oe cls d pn hz hf => ?_)) fun Z σ H ⟨g, ρ, st, er, p⟩ => ?_
        · have C2 := (C.tr rfl (pn := pn) (xe := xe) (W' := fun _ _ _ _ => False) takes0 po).toCxt
          have PAs := evs_ok es C2 (eb :: ees) g5
          exact pss_one (ps_expr (pe_callSD (X := X.tr pn xe) F room (C2.glob g2) hm hk hb hv (fun σ => passAtN tkN σ) PAs nf1 (star_ok pl) (stars_ok h6)) (swap_no rfl))
        · have C3 := (C.suite (a := a) (pn := pn) hz hf).toCxt
          exact pmk_sup6 (X := X.suite a ((a, oe) :: pn)) S (C.free _ (List.contains_iff_mem.mp k11)) room.dp (pa_cons ((ev_ok e C3 ea).1 k15) pa_nil (star_ok k14)) (C.glob k12) nx1 (star_ok k14)
        · have p0' : SPst B W g Z (if es.pur && e.pur then (match ev G (.call j es) ρ st with
            | .ok _ st => .nx ρ st
            | .exc y st => (match G.exm y.cls c with
              | some true => if noExn (ρ.set i none) = true then (ev G e (ρ.set i (some (.exn y))) st).sr ρ fun v st => (fr G.io v st).sr (ρ.set i none) fun d st => .exc ⟨x, [(f, d)]⟩ (ρ.set i none) st else .stuck
              | some false => .exc y ρ st
              | none => .stuck)
            | .stuck => .stuck) else .stuck) := p
          obtain ⟨hpur, p1⟩ := spst_if p0'
          obtain ⟨pu1, pu2⟩ := Bool.and_eq_true_iff.mp hpur
          have hexn : B.ex = none := s3
          have q1 : Pst B (wFrom X.K (.ref ac) i (fun a cls d => tMkSup AX f (tCons (tE (B.exd (some (a, cls, d))) (fun _ _ _ _ => False) (ev G e)) tNil)) W) g H σ ρ (ev G (.call j es) ρ st) (kV B (fun _ H2 => Z.nx σ H2)) := by
            cases qr : ev G (.call j es) ρ st with
            | stuck => rw [qr] at p1; exact p1.elim
            | ok v st1 =>
              rw [qr] at p1
              exact fun g' H' e1 st' x' rx' => (show SPst B W g Z (.nx ρ st1) from p1) g' H' σ st'.le e1
            | exc y st1 =>
              rw [qr] at p1
              intro g' H' cls dd e1 st' xr
              have p2 : SPst B W g Z (match G.exm y.cls c with
                | some true => if noExn (ρ.set i none) = true then (ev G e (ρ.set i (some (.exn y))) st1).sr ρ fun v st => (fr G.io v st).sr (ρ.set i none) fun d st => .exc ⟨x, [(f, d)]⟩ (ρ.set i none) st else .stuck
                | some false => .exc y ρ st1
                | none => .stuck) := p1
              cases qe : G.exm y.cls c with
              | none => rw [qe] at p2; exact p2.elim
              | some bv =>
                rw [qe] at p2
                obtain ⟨D, hD, hcls⟩ := xr.1
                subst hcls
                obtain ⟨D2, C2, x1, x2, _, x3, x4⟩ := C.exm _ _ _ qe
                have hD' : X.mg y.cls = some (.ref D) := by rw [C.mg]; exact hD
                rw [hD'] at x1; cases x1
                rw [hA] at x2; cases x2
                refine ⟨bv, x3, fun hv => ⟨x4.hs, fun a ha => ?_⟩, fun hv => ?_⟩
                · subst hv
                  obtain ⟨hn2, p3⟩ := spst_if p2
                  have e0 : ER (B.exd (some (a, .ref D, dd))) g' H' σ ρ st1 := e1.exd fun i o v h1 h2 => slot_up (by have := e1.slots i o v h1 h2; rw [hexn] at this; exact this)
                  refine ⟨g', ρ.set i (some (.exn y)), st1, e0.setV (v := .exn y) ⟨a, .ref D, dd, rfl, rfl, xr⟩ i, ?_⟩
                  cases qv : ev G e (ρ.set i (some (.exn y))) st1 with
                  | stuck => rw [qv] at p3; exact p3.elim
                  | exc y2 st2 => exact absurd qv (ev_pur e pu2 _ _ y2 st2)
                  | ok v st2 =>
                    rw [qv] at p3
                    have p4 : SPst B W g Z ((fr G.io v st2).sr (ρ.set i none) fun d st => .exc ⟨x, [(f, d)]⟩ (ρ.set i none) st) := p3
                    intro g2 H2 e2 st2' xv rv
                    have hn3 : noExn (goneH (some i) (ρ.set i (some (.exn y)))) = true := by
                      show noExn ((ρ.set i (some (.exn y))).set i none) = true
                      rw [List.set_set]; exact hn2
                    have e3 := e2.leave hn3
                    have e3' : ER B g2 H2 (σ.set i none) (ρ.set i none) st2 := by
                      have z : ER B g2 H2 ((σ.set i (some (.ref a))).set i none) ((ρ.set i (some (.exn y))).set i none) st2 := e3
                      rw [List.set_set, List.set_set] at z
                      exact z
                    rw [C.io] at p4
                    have p5 := SPst.le p4 (st'.le.trans st2'.le)
                    have rv' : ValR B.R B.ex g2.F g2.A xv v := by
                      cases v with
                      | fz d => exact rv
                      | loc n => exact rv
                      | exn q => exact (show False from p5).elim
                    obtain ⟨d, st3, F3, e4, s4, r4, p6⟩ := p5.fr e3' rv'
                    refine ⟨xv, rfl, fun d0 hd0 => ?_⟩
                    obtain ⟨e5, s5⟩ := e4.lay (o := .xd [(f, xv)]) hd0
                    exact p6 _ _ _ (.ref AX) (some d0) s5.le e5 ⟨⟨AX, by rw [← C.mg]; exact S.gC, rfl⟩, .inr ⟨d0, [(f, xv)], rfl, upd_same, rfl, .cons (r4.mono s5.le.F) .nil⟩⟩
                · subst hv
                  exact (show SPst B W g Z (.exc y ρ st1) from p2) g' H' σ _ dd st'.le e1 xr
          have q2 : Pst B (wFrom X.K (.ref ac) i (fun a cls d => tMkSup AX f (tCons (tE (B.exd (some (a, cls, d))) (fun _ _ _ _ => False) (ev G e)) tNil)) W) g H σ ρ (pick G.fns[j]? fun fi => (evs G es ρ st).bind fun vs st => callS G.io fi vs st) (kV B (fun _ H2 => Z.nx σ H2)) := q1
          rw [qf] at q2
          have q3 : Pst B (wFrom X.K (.ref ac) i (fun a cls d => tMkSup AX f (tCons (tE (B.exd (some (a, cls, d))) (fun _ _ _ _ => False) (ev G e)) tNil)) W) g H σ ρ ((evs G es ρ st).bind fun vs st => callS G.io fi vs st) (kV B (fun _ H2 => Z.nx σ H2)) := q2
          refine ⟨g, ρ, st, er, (q3.bindE.imp fun vs st1 g1 H1 e1 s1' ⟨ee, p3⟩ xs rx => ?_).swap (evs_pur es pu1 ρ st)⟩
          rw [C.io] at p3
          refine call_pst e1 rx hd ?_ p3
          rw [rx.length, evs_length ee, ← chks_length g5]
          exact hn
end
end PD

/-! PD18 -/
set_option Elab.async false
set_option linter.all false
set_option maxRecDepth 100000
set_option maxHeartbeats 4000000
/-! PD: all statements; a def keeps its promise. -/
namespace PD
open PySem PySem.Spec PyProof.Rows L2
section
variable {T : Tab} {exc : List Str} {G : Gam}
mutual
theorem ex_ok : ∀ s : St, OKS T exc G s
  | .asg t e => sok_asg t e
  | .six i k e => sok_six i k e
  | .app i e => sok_app i e
  | .exp e => sok_exp e
  | .if_ c a b => sok_if c (exs_ok a) (exs_ok b)
  | .whl c b => sok_whl c (exs_ok b)
  | .for_ t it b => sok_for t it (exs_ok b)
  | .ret e => sok_ret e
  | .retl e => sok_retl e
  | .dead => sok_dead
  | .retn => sok_small (.inl rfl)
  | .pass => sok_small (.inr (.inl rfl))
  | .brk => sok_small (.inr (.inr (.inl rfl)))
  | .cnt => sok_small (.inr (.inr (.inr rfl)))
  | .rais c => sok_rais c
  | .raisf c f e => sok_raisf c f e
  | .try_ b hs => sok_try (exs_ok b) (exh_ok hs)
  | .tryx j es c i x f e => sok_tryx j es c i x f e
theorem exs_ok : ∀ ss : Sts, OKSs T exc G ss
  | .nil => sok_nil
  | .cons s ss => sok_cons (ex_ok s) (exs_ok ss)
theorem exh_ok : ∀ hs : Hds, OKH T exc G hs
  | .nil => sok_hnil
  | .cons cs tp as_ b hs => sok_hcons cs tp as_ (exs_ok b) (exh_ok hs)
end
end

/-! ### the entry -/
theorem ArgsR.conts {R : RC} {F H : Hp} {vs : List V} {args : List Arg} {l : List Addr} (h : ArgsR R F H vs args l) : l.length = (contsOf args).length ∧ ∀ (i : Nat) (a : Addr) (c : Cont), l[i]? = some a → (contsOf args)[i]? = some c → c.live = true ∧ ContR R F H a c := by
  induction h with
  | nil => exact ⟨rfl, fun i a c h _ => by cases i <;> cases h⟩
  | fz _ _ ih => exact ih
  | @mu a0 xs c0 as l h1 h2 t ih =>
    obtain ⟨e, q⟩ := ih
    refine ⟨congrArg Nat.succ e, fun i a c h h' => ?_⟩
    cases i with
    | zero =>
      have ea : a0 = a := by simpa using h
      have ec : c0 = c := by simpa [contsOf] using h'
      subst ea ec
      exact ⟨h1, h2⟩
    | succ i => exact q i a c (by simpa using h) (by simpa [contsOf] using h')
theorem slotsOf_length : ∀ {args : List Arg} {k : Nat}, (slotsOf k args).length = args.length
  | [], _ => rfl
  | .mu _ :: as, k => congrArg Nat.succ (slotsOf_length (args := as))
  | .fz _ :: as, k => congrArg Nat.succ (slotsOf_length (args := as))
theorem ArgsR.slots {R : RC} {F H : Hp} {E : ExH} {A : List Addr} : ∀ {vs : List V} {args : List Arg} {l : List Addr} {k : Nat}, ArgsR R F H vs args l → (∀ (i : Nat) (a : Addr), l[i]? = some a → A[k + i]? = some a) →
    ∀ (i : Nat) (o : Option V) (v : Option Val), (vs.map some)[i]? = some o → (slotsOf k args)[i]? = some v → SlotR R E ⟨F, A⟩ o v
  | _, _, _, _, .nil, _, i, o, v, h, _ => by simp at h
  | _, _, _, _, .fz r t, hA, 0, o, v, h, h' => by
    simp [slotsOf] at h h'
    subst h h'
    exact ⟨_, rfl, r⟩
  | _, _, _, _, .fz r t, hA, i + 1, o, v, h, h' => ArgsR.slots t hA i o v (by simpa using h) (by simpa [slotsOf] using h')
  | _, _, _, k, .mu h1 h2 t, hA, 0, o, v, h, h' => by
    simp [slotsOf] at h h'
    subst h h'
    exact ⟨_, rfl, _, hA 0 _ rfl, rfl⟩
  | _, _, _, k, .mu h1 h2 t, hA, i + 1, o, v, h, h' => ArgsR.slots (k := k + 1) t (fun j a e => by
      have := hA (j + 1) a (by simpa using e)
      rw [show k + 1 + j = k + (j + 1) by omega]
      exact this) i o v (by simpa using h) (by simpa [slotsOf] using h')

/-! ### the module -/
structure ModX (P : Program) (K : PySem.W.Frag) (mg : Str → Option Value) (T : Tab) (exc : List Str) (G : Gam) : Prop where
  con : ∀ (j : Nat) (d : D) (x : Str), G.con[j]? = some d → T.con[j]? = some x → ∃ v u, mg x = some u ∧ RelV v u ∧ ∀ F, Rep ⟨K, mg⟩ F v d
  free : ∀ x ∈ T.free, mg x = none
  exn : ∀ x ∈ T.exn, ∃ C, mg x = some (.ref C)
  exm : ∀ c t b, G.exm c t = some b → ∃ D C, mg c = some (.ref D) ∧ mg t = some (.ref C) ∧ PySem.W.kitOne K (.ref D) (.ref C) = some b ∧ PySem.W.exmOne K (.ref D) (.ref C) = some b ∧ ExcC K D
  xf : ∀ c f, G.xfl c f = true → ∃ D, mg c = some (.ref D) ∧ XfC K D ∧ PySem.W.findIn K (.ref D) f = some none
  exv : ∀ c n b, G.exv c n = some b → ∃ D, mg c = some (.ref D) ∧ PySem.W.kitOne K (.ref D) (.type n) = some b ∧ ExcC K D
  raf : ∀ p ∈ T.raf, ∃ C fI, PySem.SupX.SupTxt P K mg C fI p.1 p.2
  exc_ : ∀ x ∈ exc, ∃ C, mg x = some (.ref C) ∧ PySem.W.excIn K C [.type "ValueError", .type "Exception", .type "BaseException", .type "object"] "ValueError.__new__" = true ∧ PySem.W.keepIn K (.ref C) = true ∧
    PySem.W.subIn K (.ref C) (.type "BaseException") = some true ∧ PySem.W.typeIn K (.ref C) = some (.type "type")
  gcd : T.gcd = true → mg "gcd" = some (.builtin "math.gcd")
def FnH (R : RC) (P : Program) (w : World) (base : Heap) (k : Nat) (x : Str) (n : Nat) (fi : FnI) : Prop :=
  ∃ (f : Addr) (fd : FuncData) (ps : List Str) (ds : List Value) (dvs : List V), R.mg x = some (.ref f) ∧ PySem.W.keepIn R.K (.ref f) = true ∧ Binds R.K fd ps ds ∧ Vals dvs ds ∧
    FnOk P w R.K R.mg base (L2.CX P w) k f fd ps (spOf R ps.length fi.f) ∧ n + dvs.length = ps.length ∧ ∀ F, RepL R F dvs fi.dfl
def FnHN (R : RC) (P : Program) (w : World) (base : Heap) (k : Nat) (x : Str) (n : Nat) (fi : FnI) : Prop :=
  ∃ (f : Addr) (fd : FuncData) (ps : List Str) (ds : List Value) (dvs : List V), R.mg x = some (.ref f) ∧ PySem.W.keepIn R.K (.ref f) = true ∧ Binds R.K fd ps ds ∧ Vals dvs ds ∧
    FnOk P w R.K R.mg base (L2N.CX P w) k f fd ps (spOf R ps.length fi.f) ∧ n + dvs.length = ps.length ∧ ∀ F, RepL R F dvs fi.dfl
theorem post_of {B : Bs} {g g' : Gh} {H' : Hp} {σ : L2.St} {ρ : Slots} {st : Store} (hl : B.lk = []) (e : ER B g' H' σ ρ st) : PostR B.R B.F0 B.H0 g'.F H' B.io (st.take B.io.length) := by
  refine ⟨e.same0, e.le, e.fresh, fun b o h hb => e.keep b o h hb (by rw [hl]; simp), ?_⟩
  have key : ∀ (l : List Addr) (cs : List Cont), l.length = cs.length → (∀ (i : Nat) (a : Addr) (c : Cont), l[i]? = some a → cs[i]? = some c → c.live = true ∧ ContR B.R g'.F H' a c) → ContsR B.R g'.F H' l cs := by
    intro l
    induction l with
    | nil => intro cs hlen _; cases cs with
      | nil => exact .nil
      | cons _ _ => cases hlen
    | cons a l ih =>
      intro cs hlen h
      cases cs with
      | nil => cases hlen
      | cons c cs =>
        obtain ⟨h1, h2⟩ := h 0 a c rfl rfl
        exact .cons h1 h2 (ih cs (Nat.succ.inj hlen) fun i a' c' e1 e2 => h (i + 1) a' c' (by simpa using e1) (by simpa using e2))
  have hle : B.io.length ≤ st.length := by
    rw [← e.len]
    exact e.io.length_le
  refine key _ _ (by rw [List.length_take]; omega) fun i a c e1 e2 => ?_
  have hi : i < B.io.length := (List.getElem?_eq_some_iff.mp e1).1
  have e3 : st[i]? = some c := by
    rw [List.getElem?_take] at e2
    rw [if_pos hi] at e2
    exact e2
  have e4 : g'.A[i]? = some a := by
    obtain ⟨t, ht⟩ := e.io
    rw [← ht, List.getElem?_append_left hi]
    exact e1
  exact ⟨e.iolive i c hi e3, e.conts i a c e4 e3⟩
section
variable {P : Program} {w : World} {K : PySem.W.Frag} {mg : Str → Option Value} {base : Heap} {x qual : Str} {params : Arguments} {body : List Stmt} {scope : Scope} {dvs : List V} {kws : List (Str × V)} {f : Addr} {fd : FuncData} {T : Tab} {exc : List Str} {G : Gam}
/-- A DEF DOES WHAT ITS DATA SAY -/
theorem def_ok {N ps : List Str} {d : Def} (F : FunD K x qual params body scope dvs kws f fd) (S : FnScope N ps scope) (M : ModX P K mg T exc G) (hN : T.N = N) (hn : d.n = N.length) (hc : chkSs T exc scope true d.body body = true)
    (hf : ∀ (j : Nat) (fi : FnI) (y : Str) (n : Nat), G.fns[j]? = some fi → T.fns[j]? = some (y, n) → FnH ⟨K, mg⟩ P w base T.lv y n fi)
    (hcold : ∀ (j : Nat) (fi : FnI) (y : Str) (n : Nat), G.fns[j]? = some fi → T.fns[j]? = some (y, n) → y ∈ T.cold → FnHN ⟨K, mg⟩ P w base T.lv y n fi) :
    FnOk P w K mg base (L2.CX P w) (T.lv + 1) f fd ps (spOf ⟨K, mg⟩ ps.length (runDef G d)) := by
  refine F.ok S (fun vs H Q E h => ?_) (fun cdv A outer s H vs Q E hr h => ?_)
  · obtain ⟨F0, args, l, hlen, _, ha, _⟩ := h
    rw [ha.length, hlen]
  · obtain ⟨F0, args, l, hlen, hle, ha, hnd, post⟩ := h
    obtain ⟨cl, cc⟩ := ha.conts
    obtain ⟨B, hB⟩ : ∃ B : Bs, B = ⟨⟨K, mg⟩, F0, H, l, [], none⟩ := ⟨_, rfl⟩
    obtain ⟨G', hG⟩ : ∃ G' : Gam, G' = { G with io := (contsOf args).length } := ⟨_, rfl⟩
    have C : CxtS T exc scope true G' B (cxOf (L2.CX P w) P w K mg base N qual scope f cdv A outer s H E) (fun cls d _ H => E cls d H) := by
      subst hB hG
      refine ⟨⟨rfl, rfl, hN.symm, (fun _ _ => rfl), ScR.refl _, by rw [hN]; exact S.nd, (fun z => by cases z), (fun _ => ⟨rfl, hr⟩), (by show (A.deeper (envOfC qual scope s.heap.objs.size f cdv)).units + 64 < cLine; have := hr.un; omega), takes_of rfl rfl rfl rfl, cl.symm, M.con, fun j fi y n e1 e2 => hf j fi y n e1 e2, M.free, M.exn, M.exm, M.xf, M.gcd, M.exv⟩, fun _ => passes_of rfl, ?_, fun _ => ⟨rfl, rfl, rfl⟩, M.raf, M.exc_, fun j fi y n e1 e2 e3 => hcold j fi y n e1 e2 e3⟩
      show (if scope.kind.isAnnotationScope then ScopeKind.function else scope.kind) = .function
      rw [S.kind]; rfl
    refine ⟨tS B (fun cls d _ H => E cls d H) (exs G' d.body), exs_ok d.body C body hc, ?_⟩
    have hv : vs.length = args.length := ha.length
    refine ⟨⟨F0, l⟩, slotsOf 0 args ++ List.replicate (d.n - args.length) none, contsOf args, ?_, ?_⟩
    · subst hB
      refine ⟨Same.refl _, hle, fun b hb => .inl hb, fun b o e _ _ => e, (fun b hb => by cases hb), cl, hnd, List.prefix_refl _, fun i c hi e => ?_, fun i a hi e => ?_, fun i a e => ?_, fun i a c e1 e2 => (cc i a c e1 e2).2, ?_, fun i o v e1 e2 => ?_⟩
      · obtain ⟨a, ea⟩ : ∃ a, l[i]? = some a := ⟨_, List.getElem?_eq_getElem hi⟩
        exact (cc i a c ea e).1
      · have hi2 := (List.getElem?_eq_some_iff.mp e).1
        exact absurd hi2 (by show ¬ i < l.length; have : l.length ≤ i := hi; omega)
      · obtain ⟨c, ec⟩ : ∃ c, (contsOf args)[i]? = some c := by
          have hi2 := (List.getElem?_eq_some_iff.mp (show l[i]? = some a from e)).1
          rw [cl] at hi2
          exact ⟨_, List.getElem?_eq_getElem hi2⟩
        obtain ⟨z1, z2⟩ := cc i a c e ec
        exact z2.there z1
      · unfold L2.start
        rw [List.length_append, List.length_append, List.length_map, List.length_replicate, List.length_replicate, slotsOf_length, hv, hn]
      · by_cases hi : i < vs.length
        · unfold L2.start at e1
          rw [List.getElem?_append_left (by rw [List.length_map]; exact hi)] at e1
          rw [List.getElem?_append_left (by rw [slotsOf_length, ← hv]; exact hi)] at e2
          exact ha.slots (k := 0) (fun j a e => by rw [Nat.zero_add]; exact e) i o v e1 e2
        · rw [List.getElem?_append_right (by rw [slotsOf_length, ← hv]; omega)] at e2
          rw [List.getElem?_replicate] at e2
          split at e2
          · cases e2; trivial
          · cases e2
    · have hrun : runDef G d args = (match exs G' d.body (slotsOf 0 args ++ List.replicate (d.n - args.length) none) (contsOf args) with
        | .nx _ st => .ok .non (st.take (contsOf args).length)
        | .rt d st => .ok d (st.take (contsOf args).length)
        | .rtl ds st => .okl ds (st.take (contsOf args).length)
        | .exc x _ st => .exc x (st.take (contsOf args).length)
        | _ => .stuck) := by subst hG; rfl
      have hlk : B.lk = [] := by rw [hB]
      have hio : (contsOf args).length = B.io.length := by rw [hB]; exact cl.symm
      rw [hio] at hrun
      have pst : ∀ {g' : Gh} {H' : Hp} {σ : L2.St} {ρ : Slots} {st : Store}, ER B g' H' σ ρ st → PostR ⟨K, mg⟩ F0 H g'.F H' l (st.take B.io.length) := fun {g' H' σ ρ st} e => by
        have p := post_of (g := ⟨F0, l⟩) hlk e
        subst hB
        exact p
      have hR : B.R = ⟨K, mg⟩ := by rw [hB]
      cases q : exs G' d.body (slotsOf 0 args ++ List.replicate (d.n - args.length) none) (contsOf args) with
      | nx ρ st =>
        rw [q] at hrun
        simp only [hrun] at post
        exact fun g' H' σ _ e => post .non g'.F H' (pst e) .non
      | rt dd st =>
        rw [q] at hrun
        simp only [hrun] at post
        exact fun g' H' σ ρ y _ e rep => post y g'.F H' (pst e) (by rw [hR] at rep; exact rep)
      | rtl ds st =>
        rw [q] at hrun
        simp only [hrun] at post
        exact fun g' H' σ ρ a xs _ e f1 f2 f3 rep => post a xs g'.F H' (pst e) f1 (by rw [hB] at f2; exact f2) f3 (by rw [hR] at rep; exact rep)
      | exc y ρ st =>
        rw [q] at hrun
        simp only [hrun] at post
        exact fun g' H' σ cls dd _ e xr => post cls dd g'.F H' (pst e) (by rw [hR] at xr; exact xr)
      | bk ρ st => rw [q] at hrun; simp only [hrun] at post
      | ct ρ st => rw [q] at hrun; simp only [hrun] at post
      | stuck => rw [q] at hrun; simp only [hrun] at post
/-- a def that does no more than raise where a test says so: what it raises has no context -/
theorem guard_ok {N ps : List Str} {c : Ex} {cl : Str} {nn : Nat} {ec : Expr} {p1 p2 p3 p4 p5 : Pos} {msg : Str} {kk : Nat} (hbody : body = [.If ec [.Raise (some (.Call (.Name cl p1) [.Constant (.str msg) kk p2] [] p3)) none p4] [] p5]) (hpur : c.pur = true) (F : FunD K x qual params body scope dvs kws f fd) (S : FnScope N ps scope) (M : ModX P K mg T exc G) (hN : T.N = N) (hn : nn = N.length) (hc : chkSs T exc scope true (.cons (.if_ c (.cons (.rais cl) .nil) .nil) .nil) body = true)
    (hf : ∀ (j : Nat) (fi : FnI) (y : Str) (n : Nat), G.fns[j]? = some fi → T.fns[j]? = some (y, n) → FnH ⟨K, mg⟩ P w base T.lv y n fi) :
    FnOk P w K mg base (L2N.CX P w) (T.lv + 1) f fd ps (spOf ⟨K, mg⟩ ps.length (runDef G ⟨nn, .cons (.if_ c (.cons (.rais cl) .nil) .nil) .nil⟩)) := by
  obtain ⟨d, hd⟩ : ∃ d : Def, d = ⟨nn, .cons (.if_ c (.cons (.rais cl) .nil) .nil) .nil⟩ := ⟨_, rfl⟩
  rw [← hd]
  have hn : d.n = N.length := by rw [hd]; exact hn
  refine F.ok S (fun vs H Q E h => ?_) (fun cdv A outer s H vs Q E hr h => ?_)
  · obtain ⟨F0, args, l, hlen, _, ha, _⟩ := h
    rw [ha.length, hlen]
  · obtain ⟨F0, args, l, hlen, hle, ha, hnd, post⟩ := h
    obtain ⟨cl0, cc⟩ := ha.conts
    obtain ⟨B, hB⟩ : ∃ B : Bs, B = ⟨⟨K, mg⟩, F0, H, l, [], none⟩ := ⟨_, rfl⟩
    obtain ⟨G', hG⟩ : ∃ G' : Gam, G' = { G with io := (contsOf args).length } := ⟨_, rfl⟩
    have C : Cxt T scope true G' B (cxOf (L2N.CX P w) P w K mg base N qual scope f cdv A outer s H E) (fun _ _ _ _ => False) := by
      subst hB hG
      exact ⟨rfl, rfl, hN.symm, (fun _ _ => rfl), ScR.refl _, by rw [hN]; exact S.nd, (fun z => by cases z), (fun _ => ⟨rfl, hr⟩), (by show (A.deeper (envOfC qual scope s.heap.objs.size f cdv)).units + 64 < cLine; have := hr.un; omega), takes0, cl0.symm, M.con, fun j fi y n e1 e2 => hf j fi y n e1 e2, M.free, M.exn, M.exm, M.xf, M.gcd, M.exv⟩
    have tkN : L2N.Takes (cxOf (L2N.CX P w) P w K mg base N qual scope f cdv A outer s H E) (fun cls d _ H => E cls d H) := L2N.takes_of rfl rfl rfl rfl
    subst hbody
    obtain ⟨k0, _⟩ := b2 hc
    obtain ⟨k1, k0⟩ := b2 k0
    obtain ⟨k0, _⟩ := b2 k0
    obtain ⟨k0, _⟩ := b2 k0
    obtain ⟨_, k0⟩ := b2 k0
    obtain ⟨k3, k0⟩ := b2 k0
    obtain ⟨k4, k5⟩ := b2 k0
    obtain ⟨AC, hm, hE, hk, hs, ht⟩ := M.exc_ cl (List.contains_iff_mem.mp k3)
    obtain ⟨n1, _, _, _⟩ := seen_ok k5
    have sp0 : ∃ (g : Gh) (ρ : Slots) (st : Store), ER B g H (L2.start N vs) ρ st ∧ SPst B (fun cls d _ H => E cls d H) g { nx := fun _ H' => Q .non H', rt := Q } (exs G' d.body ρ st) := by
      have hv : vs.length = args.length := ha.length
      refine ⟨⟨F0, l⟩, slotsOf 0 args ++ List.replicate (d.n - args.length) none, contsOf args, ?_, ?_⟩
      · subst hB
        refine ⟨Same.refl _, hle, fun b hb => .inl hb, fun b o e _ _ => e, (fun b hb => by cases hb), cl0, hnd, List.prefix_refl _, fun i c hi e => ?_, fun i a hi e => ?_, fun i a e => ?_, fun i a c e1 e2 => (cc i a c e1 e2).2, ?_, fun i o v e1 e2 => ?_⟩
        · obtain ⟨a, ea⟩ : ∃ a, l[i]? = some a := ⟨_, List.getElem?_eq_getElem hi⟩
          exact (cc i a c ea e).1
        · have hi2 := (List.getElem?_eq_some_iff.mp e).1
          exact absurd hi2 (by show ¬ i < l.length; have : l.length ≤ i := hi; omega)
        · obtain ⟨c, ec⟩ : ∃ c, (contsOf args)[i]? = some c := by
            have hi2 := (List.getElem?_eq_some_iff.mp (show l[i]? = some a from e)).1
            rw [cl0] at hi2
            exact ⟨_, List.getElem?_eq_getElem hi2⟩
          obtain ⟨z1, z2⟩ := cc i a c e ec
          exact z2.there z1
        · unfold L2.start
          rw [List.length_append, List.length_append, List.length_map, List.length_replicate, List.length_replicate, slotsOf_length, hv, hn]
        · by_cases hi : i < vs.length
          · unfold L2.start at e1
            rw [List.getElem?_append_left (by rw [List.length_map]; exact hi)] at e1
            rw [List.getElem?_append_left (by rw [slotsOf_length, ← hv]; exact hi)] at e2
            exact ha.slots (k := 0) (fun j a e => by rw [Nat.zero_add]; exact e) i o v e1 e2
          · rw [List.getElem?_append_right (by rw [slotsOf_length, ← hv]; omega)] at e2
            rw [List.getElem?_replicate] at e2
            split at e2
            · cases e2; trivial
            · cases e2
      · have hrun : runDef G d args = (match exs G' d.body (slotsOf 0 args ++ List.replicate (d.n - args.length) none) (contsOf args) with
          | .nx _ st => .ok .non (st.take (contsOf args).length)
          | .rt d st => .ok d (st.take (contsOf args).length)
          | .rtl ds st => .okl ds (st.take (contsOf args).length)
          | .exc x _ st => .exc x (st.take (contsOf args).length)
          | _ => .stuck) := by subst hG; rfl
        have hlk : B.lk = [] := by rw [hB]
        have hio : (contsOf args).length = B.io.length := by rw [hB]; exact cl0.symm
        rw [hio] at hrun
        have pst : ∀ {g' : Gh} {H' : Hp} {σ : L2.St} {ρ : Slots} {st : Store}, ER B g' H' σ ρ st → PostR ⟨K, mg⟩ F0 H g'.F H' l (st.take B.io.length) := fun {g' H' σ ρ st} e => by
          have p := post_of (g := ⟨F0, l⟩) hlk e
          subst hB
          exact p
        have hR : B.R = ⟨K, mg⟩ := by rw [hB]
        cases q : exs G' d.body (slotsOf 0 args ++ List.replicate (d.n - args.length) none) (contsOf args) with
        | nx ρ st =>
          rw [q] at hrun
          simp only [hrun] at post
          exact fun g' H' σ _ e => post .non g'.F H' (pst e) .non
        | rt dd st =>
          rw [q] at hrun
          simp only [hrun] at post
          exact fun g' H' σ ρ y _ e rep => post y g'.F H' (pst e) (by rw [hR] at rep; exact rep)
        | rtl ds st =>
          rw [q] at hrun
          simp only [hrun] at post
          exact fun g' H' σ ρ a xs _ e f1 f2 f3 rep => post a xs g'.F H' (pst e) f1 (by rw [hB] at f2; exact f2) f3 (by rw [hR] at rep; exact rep)
        | exc y ρ st =>
          rw [q] at hrun
          simp only [hrun] at post
          exact fun g' H' σ cls dd _ e xr => post cls dd g'.F H' (pst e) (by rw [hR] at xr; exact xr)
        | bk ρ st => rw [q] at hrun; simp only [hrun] at post
        | ct ρ st => rw [q] at hrun; simp only [hrun] at post
        | stuck => rw [q] at hrun; simp only [hrun] at post
    refine ⟨_, pss_one (ps_if ((ev_ok c C ec).2 k1).1 (pss_one (L2N.ps_raise (X := cxOf (L2N.CX P w) P w K mg base N qual scope f cdv A outer s H E) rfl tkN (L2N.pmk_own PySem.F.excBase_ValueError hE hm hk (raises_own hs ht) (C.glob k4) n1))) pss_nil), ?_⟩
    obtain ⟨g, ρ, st, er, p⟩ := sp0
    rw [hd] at p
    have p' : SPst B (fun cls d _ H => E cls d H) g { nx := fun _ H' => Q .non H', rt := Q } (SR.bind ((ev G' c ρ st).sr ρ fun x st => match x with
      | .fz (.bl true) => SR.bind (.exc ⟨cl, []⟩ ρ st) fun ρ st => .nx ρ st
      | .fz (.bl false) => .nx ρ st
      | _ => .stuck) fun ρ st => .nx ρ st) := p
    refine ⟨g, ρ, st, er, ?_⟩
    have np := ev_pur (G := G') c hpur ρ st
    cases qe : ev G' c ρ st with
    | stuck => rw [qe] at p'; exact p'.elim
    | exc y st1 => exact absurd qe (np y st1)
    | ok v st1 =>
      rw [qe] at p'
      intro g1 H1 e1 s1
      cases v with
      | loc n => exact (show False from p').elim
      | exn q => exact (show False from p').elim
      | fz d =>
        cases d with
        | bl b =>
          cases b with
          | true =>
            refine ⟨true, rfl, iteT ?_⟩
            have p3 : SPst B (fun cls d _ H => E cls d H) g { nx := fun _ H' => Q .non H', rt := Q } (.exc ⟨cl, []⟩ ρ st1) := p'
            exact p3 g1 H1 (L2.start N vs) (.ref AC) none s1.le e1 ⟨⟨AC, by rw [show B.R.mg = mg by rw [hB]]; exact hm, rfl⟩, .inl ⟨rfl, rfl⟩⟩
          | false =>
            refine ⟨false, rfl, iteF ?_⟩
            exact (show SPst B (fun cls d _ H => E cls d H) g { nx := fun _ H' => Q .non H', rt := Q } (.nx ρ st1) from p') g1 H1 (L2.start N vs) s1.le e1
        | _ => exact (show False from p').elim
end
end PD

/-! PD19 -/
set_option Elab.async false
set_option linter.all false
set_option maxRecDepth 100000
set_option maxHeartbeats 4000000
/-! PD: the head's facts for a whole module. -/
namespace PySem
namespace SupX
open PySem.W PySem.Calls PyProof.Rows PySem.HandSPX
abbrev FnS : Type := Option (Str × Str × Arguments × FuncBody × Scope × Addr × List Str × Addr × Value × Value)
def fnS (K : Frag) (p : Str × Option Str) : FnS := match K.lookup (He.fAd K p) with
  | some ⟨_, _, .func fd, _⟩ => some (fd.name, fd.qualname, fd.params, fd.body, fd.scope, fd.globals, fd.closure.map (·.1), fd.builtins, fd.defaults, fd.kwdefaults)
  | _ => none
/-- an own exception class: its name, its field, its __init__'s qualified name, parameters, body, scope -/
structure SupD where
  c : Str
  f : Str
  qual : Str
  params : Arguments
  body : List Stmt
  scope : Scope
def SupD.val (d : SupD) : FnS := some ("__init__", d.qual, d.params, .stmts d.body, d.scope, mainGlobals, ["__class__"], builtinsNs, .none, .none)
def SupD.Ok (d : SupD) : Prop := ∃ (pn m : Str) (kk : Nat) (a1 a2 : Option Expr) (q1 q2 p0 p1 p2 p3 p4 p5 p6 p7 p8 p9 : Pos), d.params = iPar pn a1 a2 q1 q2 ∧ d.body = iBody d.f pn m kk p0 p1 p2 p3 p4 p5 p6 p7 p8 p9 ∧ ScopeOk d.scope pn ∧
  (pn == ("self" : Str)) = false ∧ (pn == ("__debug__" : Str)) = false ∧ (p2.endLine == p4.line) = true
def clsT (K : Frag) (C : Addr) : Bool := match K.lookup C with
  | some ⟨.type "type", _, .cls cd, sl⟩ => (match cd.mro, sl.toList with
    | .ref C' :: bm, [_, _, _, _, some (.builtin n), _] => decide (C' = C) && (decide (n = "ValueError.__new__") && (!cd.hasDel && (cd.hasDict && refsVE bm)))
    | _, _ => false)
  | _ => false
theorem clsT_ok {K : Frag} {C : Addr} (q : clsT K C = true) : ∃ nm q N bs bm sn sub ab col dd k0 k1 k2 k3 k5, K.lookup C = some (excClassObj nm q C N bs bm true sn sub ab col dd k0 k1 k2 k3 k5 "ValueError.__new__") ∧ refsVE bm = true := by
  unfold clsT at q
  split at q
  · rename_i dd cd sl ho
    split at q
    · rename_i C' bm k0 k1 k2 k3 n k5 hm hs
      obtain ⟨q1, q⟩ := He.ba q
      obtain ⟨q2, q⟩ := He.ba q
      obtain ⟨q3, q⟩ := He.ba q
      obtain ⟨q4, q5⟩ := He.ba q
      have e1 : C' = C := of_decide_eq_true q1
      have e2 : n = "ValueError.__new__" := of_decide_eq_true q2
      have e3 : cd.hasDel = false := by simpa using q3
      subst e1 e2
      obtain ⟨nm, bs, mro, ns, qn, hd, sn, sub, ab, col, del⟩ := cd
      dsimp only at hm e3 q4
      subst hm e3 q4
      have hsl : sl = #[k0, k1, k2, k3, some (.builtin "ValueError.__new__"), k5] := by
        obtain ⟨l⟩ := sl
        simp only at hs
        rw [hs]
      subst hsl
      exact ⟨nm, qn, ns, bs, bm, sn, sub, ab, col, dd, k0, k1, k2, k3, k5, ho, q5⟩
    · cases q
  · cases q
def fileB (P : Program) : Option Value → Bool
  | some (.str file _) => ((P.main.file : Str) == file)
  | _ => false
def cellT (P : Program) (K : Frag) (C fI : Addr) (qual : Str) : Bool := match K.lookup fI with
  | some ⟨_, _, .func fd, _⟩ => (match fd.code, fd.closure with
    | .ref cda, [(_, cc)] => codeIn K (.ref cda) qual && ((match K.lookup cda with
      | some ⟨_, _, .fields vs, _⟩ => fileB P vs[2]?
      | _ => false) && (match K.lookup cc with
      | some ⟨_, _, .cell (some (.ref D)), _⟩ => decide (D = C)
      | _ => false))
    | _, _ => false)
  | _ => false
def supB (P : Program) (K : Frag) (d : SupD) : Bool :=
  He.eqO (nsIn K mainGlobals d.c) (some (some (.ref (He.ga K d.c)))) && (clsT K (He.ga K d.c) && (excInitIn K (He.ga K d.c) [.type "ValueError", .type "Exception", .type "BaseException", .type "object"] "ValueError.__new__" &&
  (He.eqO (findIn K (.ref (He.ga K d.c)) "__setattr__") (some (some (.builtin "object.__setattr__"))) && (He.eqO (findIn K (.ref (He.ga K d.c)) d.f) (some none) && (He.eqO (findIn K (.ref (He.ga K d.c)) "__init__") (some (some (.ref (He.ma K (He.ga K d.c) "__init__")))) &&
  (decide (typeIn K (.ref (He.ma K (He.ga K d.c) "__init__")) = some (.type "function")) && (keepIn K (.ref (He.ga K d.c)) && (decide (subIn K (.ref (He.ga K d.c)) (.type "BaseException") = some true) && (decide (subIn K (.ref (He.ga K d.c)) (.type "ValueError") = some true) &&
  (decide (typeIn K (.ref (He.ga K d.c)) = some (.type "type")) && (decide (mroIn K (He.ga K d.c) (.ref (He.ga K d.c)) = some true) && (He.eqO (nsIn K cStatics "thirdparty.any") (some none) && (He.eqO (ks_superIn K (He.ga K d.c) (He.ga K d.c) "__init__") (some (some (.builtin "ValueError.__init__"))) &&
  (!(P.main.scope.names.lookup ("super" : Str)).isSome && cellT P K (He.ga K d.c) (He.ma K (He.ga K d.c) "__init__") d.qual))))))))))))))
theorem sup_of {P : Program} {K : Frag} {h : Heap} {mg : Str → Option Value} {d : SupD} (X : K.In h) (G : h.Ns mainGlobals mg) (e : fnS K (d.c, some "__init__") = d.val) (b : supB P K d = true) (D : d.Ok) : ∃ C fI, SupTxt P K mg C fI d.c d.f := by
  obtain ⟨h1, b⟩ := He.ba b
  obtain ⟨h2, b⟩ := He.ba b
  obtain ⟨h3, b⟩ := He.ba b
  obtain ⟨h4, b⟩ := He.ba b
  obtain ⟨h5, b⟩ := He.ba b
  obtain ⟨h6, b⟩ := He.ba b
  obtain ⟨h7, b⟩ := He.ba b
  obtain ⟨h8, b⟩ := He.ba b
  obtain ⟨h9, b⟩ := He.ba b
  obtain ⟨h10, b⟩ := He.ba b
  obtain ⟨h11, b⟩ := He.ba b
  obtain ⟨h12, b⟩ := He.ba b
  obtain ⟨h13, b⟩ := He.ba b
  obtain ⟨h14, b⟩ := He.ba b
  obtain ⟨h15, h16⟩ := He.ba b
  refine ⟨He.ga K d.c, He.ma K (He.ga K d.c) "__init__", mg_of X G (He.eqO_ok h1), clsT_ok h2, h3, He.eqO_ok h4, He.eqO_ok h5, He.eqO_ok h6, of_decide_eq_true h7, h8, of_decide_eq_true h9, of_decide_eq_true h10, of_decide_eq_true h11, of_decide_eq_true h12, He.eqO_ok h13, He.eqO_ok h14, by simpa using h15, ?_⟩
  obtain ⟨pn, m, kk, a1, a2, q1, q2, p0, p1, p2, p3, p4, p5, p6, p7, p8, p9, e1, e2, SC, n1, n2, n3⟩ := D
  have e' : (match K.lookup (He.ma K (He.ga K d.c) "__init__") with
    | some ⟨_, _, .func fd, _⟩ => (some (fd.name, fd.qualname, fd.params, fd.body, fd.scope, fd.globals, fd.closure.map (·.1), fd.builtins, fd.defaults, fd.kwdefaults) : FnS)
    | _ => none) = d.val := e
  unfold cellT at h16
  cases q : K.lookup (He.ma K (He.ga K d.c) "__init__") with
  | none => rw [q] at h16; cases h16
  | some o =>
    obtain ⟨oc, od, dt, osl⟩ := o
    rw [q] at h16 e'
    cases dt with
    | func fd =>
      obtain ⟨n1', n2', n3', n4', n5', n6', n7', n8', n9', n10', n11', n12', n13', n14', n15'⟩ := fd
      have e3 : (some (n1', n2', n3', n4', n5', n6', n7'.map (·.1), n15', n8', n9') : FnS) = (some (("__init__" : Str), d.qual, d.params, FuncBody.stmts d.body, d.scope, mainGlobals, [("__class__" : Str)], builtinsNs, Value.none, Value.none) : FnS) := e'
      simp only [Option.some.injEq, Prod.mk.injEq] at e3
      obtain ⟨z1, z2, z3, z4, z5, z6, z7, z8, z9, z10⟩ := e3
      subst z1 z2 z3 z4 z5 z6 z8 z9 z10
      dsimp only at h16
      cases n13' with
      | ref cda =>
        cases n7' with
        | nil => cases z7
        | cons p l =>
          cases l with
          | cons _ _ =>
            have zl := congrArg List.length z7
            simp at zl
          | nil =>
            obtain ⟨cn, cc⟩ := p
            have zc : cn = "__class__" := (List.cons.inj z7).1
            subst zc
            obtain ⟨k1, k2⟩ := He.ba h16
            obtain ⟨k2, k3⟩ := He.ba k2
            cases r1 : K.lookup cda with
            | none => rw [r1] at k2; cases k2
            | some o1 =>
              obtain ⟨ccl, cdd, dt1, ccs⟩ := o1
              rw [r1] at k2
              cases dt1 with
              | fields vs =>
                dsimp only at k2
                cases r2 : vs[2]? with
                | none => rw [r2] at k2; cases k2
                | some v =>
                  rw [r2] at k2
                  cases v with
                  | str file tf =>
                    cases r3 : K.lookup cc with
                    | none => rw [r3] at k3; cases k3
                    | some o2 =>
                      obtain ⟨cl, cld, dt2, csl⟩ := o2
                      rw [r3] at k3
                      cases dt2 with
                      | cell ov =>
                        cases ov with
                        | none => cases k3
                        | some v2 =>
                          cases v2 with
                          | ref D =>
                            have zD : D = He.ga K d.c := of_decide_eq_true k3
                            subst zD
                            exact ⟨oc, od, d.qual, n10', n11', n12', cda, cc, n14', osl, pn, m, kk, a1, a2, q1, q2, p0, p1, p2, p3, p4, p5, p6, p7, p8, p9, d.scope, ccl, cdd, vs, ccs, file, tf, cl, cld, csl, by rw [e1, e2], k1, SC, r1, r2, k2, r3, n1, n2, n3⟩
                          | _ => cases k3
                      | _ => cases k3
                  | _ => cases k2
              | _ => cases k2
      | _ => cases h16
    | _ => cases h16
end SupX
end PySem
namespace PD
open PySem PySem.Spec PyProof.Rows L2
/-! ### constants -/
mutual
def repB (K : PySem.W.Frag) : D → Value → Bool
  | .non, .none => true
  | .bl b, .bool c => b == c
  | .int i, .int j _ => decide (i = j)
  | .str s, .str t _ => decide (s = t)
  | .tup ds, .ref a => (match K.lookup a with
    | some ⟨.type c, _, .seq its _, _⟩ => decide (c = "tuple") && (decide (its.size ≤ sizeLine) && repsB K ds its.toList)
    | _ => false)
  | _, _ => false
def repsB (K : PySem.W.Frag) : List D → List Value → Bool
  | [], [] => true
  | d :: ds, u :: us => repB K d u && repsB K ds us
  | _, _ => false
end
mutual
theorem repB_ok {K : PySem.W.Frag} {mg : Str → Option Value} : ∀ {d : D} {u : Value}, repB K d u = true → ∃ v, RelV v u ∧ ∀ F, Rep ⟨K, mg⟩ F v d
  | .non, u, h => by cases u <;> first | exact ⟨.non, rfl, fun F => .non⟩ | cases h
  | .bl b, u, h => by
    cases u with
    | bool c => exact ⟨.bl b, (by rw [show b = c from eq_of_beq h]; rfl), fun F => .bl b⟩
    | _ => cases h
  | .int i, u, h => by
    cases u with
    | int j t => exact ⟨.int i, ⟨t, by rw [show i = j from of_decide_eq_true h]⟩, fun F => .int i⟩
    | _ => cases h
  | .str s, u, h => by
    cases u with
    | str j t => exact ⟨.str s, ⟨t, by rw [show s = j from of_decide_eq_true h]⟩, fun F => .str s⟩
    | _ => cases h
  | .tup ds, u, h => by
    cases u with
    | ref a =>
      have h1 : (match K.lookup a with
        | some ⟨.type c, _, .seq its _, _⟩ => decide (c = "tuple") && (decide (its.size ≤ sizeLine) && repsB K ds its.toList)
        | _ => false) = true := h
      cases q : K.lookup a with
      | none => rw [q] at h1; cases h1
      | some o =>
        obtain ⟨oc, od, dt, osl⟩ := o
        rw [q] at h1
        cases oc with
        | type c =>
          cases dt with
          | seq its n =>
            obtain ⟨h2, h3⟩ := He.ba h1
            obtain ⟨h3, h4⟩ := He.ba h3
            obtain ⟨vs, rv, rep⟩ := repsB_ok (mg := mg) h4
            exact ⟨.ref a, rfl, fun F => .tup (.inr ⟨_, its, n, q, congrArg Value.type (of_decide_eq_true h2), rfl, of_decide_eq_true h3, rv⟩) (rep F)⟩
          | _ => cases h1
        | _ => cases dt <;> cases h1
    | _ => cases h
  | .lst ds, u, h => by cases u <;> cases h
  | .dct _ _, u, h => by cases u <;> cases h
  | .obj _ _ _, u, h => by cases u <;> cases h
theorem repsB_ok {K : PySem.W.Frag} {mg : Str → Option Value} : ∀ {ds : List D} {us : List Value}, repsB K ds us = true → ∃ vs, Vals vs us ∧ ∀ F, RepL ⟨K, mg⟩ F vs ds
  | [], us, h => by
    cases us with
    | nil => exact ⟨[], .nil, fun F => .nil⟩
    | cons _ _ => cases h
  | d :: ds, us, h => by
    cases us with
    | nil => cases h
    | cons u us =>
      obtain ⟨h1, h2⟩ := He.ba (show (repB K d u && repsB K ds us) = true from h)
      obtain ⟨v, rv, rep⟩ := repB_ok (mg := mg) h1
      obtain ⟨vs, rvs, reps⟩ := repsB_ok (mg := mg) h2
      exact ⟨v :: vs, .cons rv rvs, fun F => .cons (rep F) (reps F)⟩
end
/-! ### a module's data -/
structure ModD where
  con : List (Str × D)
  free : List Str
  exn : List Str
  exc : List Str
  exm : List (Str × Str × Bool)
  xfl : List (Str × Str)
  exv : List (Str × String × Bool) := []
  sup : List PySem.SupX.SupD
  gcd : Bool
  defs : List He.DefD
def exmL : List (Str × Str × Bool) → Str → Str → Option Bool
  | [], _, _ => none
  | p :: l, c, t => if p.1 = c ∧ p.2.1 = t then some p.2.2 else exmL l c t
def exvL : List (Str × String × Bool) → Str → String → Option Bool
  | [], _, _ => none
  | p :: l, c, t => if p.1 = c ∧ p.2.1 = t then some p.2.2 else exvL l c t
def ModD.gam (m : ModD) (fns : List FnI) : Gam := { io := 0, con := m.con.map (·.2), fns := fns, exm := exmL m.exm, xfl := fun c f => m.xfl.contains (c, f), exv := exvL m.exv }
def ModD.tab (m : ModD) (N : List Str) (fns : List (Str × Nat)) (lv : Nat) : Tab := ⟨N, m.con.map (·.1), fns, m.free, m.gcd, m.exn, m.sup.map fun d => (d.c, d.f), lv, []⟩
def gloB (K : PySem.W.Frag) (x : Str) : Bool := He.eqO (PySem.W.nsIn K mainGlobals x) (some (some (.ref (He.ga K x))))
def excCB (K : PySem.W.Frag) (C : Addr) : Bool :=
  He.eqO (PySem.W.findIn K (.ref C) "__getattribute__") (some (some (.builtin "BaseException.__getattribute__"))) && (He.eqO (PySem.W.findIn K (.ref C) "__getattr__") (some none) &&
  (decide (PySem.W.subIn K (.ref C) (.type "BaseException") = some true) && (PySem.W.hasDictIn K C && (He.eqO (PySem.W.findIn K (.ref C) "__class__") (some (some (.builtin "object.__class__"))) &&
  (He.eqO (PySem.W.specialIn K (.builtin "object.__class__") "__get__") (some (some (.builtin "getset_descriptor.__get__"))) && (decide (PySem.W.takesIn K (.builtin "object.__class__") = some true) && decide (PySem.W.mroIn K C (.type "object") = some true)))))))
theorem excCB_ok {K : PySem.W.Frag} {C : Addr} (h : excCB K C = true) : ExcC K C := by
  obtain ⟨h1, h⟩ := He.ba h
  obtain ⟨h2, h⟩ := He.ba h
  obtain ⟨h3, h⟩ := He.ba h
  obtain ⟨h4, h⟩ := He.ba h
  obtain ⟨h5, h⟩ := He.ba h
  obtain ⟨h6, h⟩ := He.ba h
  obtain ⟨h7, h8⟩ := He.ba h
  exact ⟨He.eqO_ok h1, He.eqO_ok h2, of_decide_eq_true h3, h4, He.eqO_ok h5, He.eqO_ok h6, of_decide_eq_true h7, of_decide_eq_true h8⟩
def conB (K : PySem.W.Frag) (p : Str × D) : Bool := match PySem.W.nsIn K mainGlobals p.1 with
  | some (some u) => repB K p.2 u
  | _ => false
def exmB (K : PySem.W.Frag) (p : Str × Str × Bool) : Bool := gloB K p.1 && (gloB K p.2.1 && (decide (PySem.W.kitOne K (.ref (He.ga K p.1)) (.ref (He.ga K p.2.1)) = some p.2.2) && (decide (PySem.W.exmOne K (.ref (He.ga K p.1)) (.ref (He.ga K p.2.1)) = some p.2.2) && excCB K (He.ga K p.1))))
def exvB (K : PySem.W.Frag) (p : Str × String × Bool) : Bool := gloB K p.1 && (decide (PySem.W.kitOne K (.ref (He.ga K p.1)) (.type p.2.1) = some p.2.2) && excCB K (He.ga K p.1))
def factB (P : Program) (m : ModD) (K : PySem.W.Frag) : Bool :=
  m.con.all (conB K) && ((m.free.all fun x => He.eqO (PySem.W.nsIn K mainGlobals x) (some none)) && (m.exn.all (gloB K) && (m.exm.all (exmB K) &&
  ((m.xfl.all fun p => gloB K p.1 && (xfB K (He.ga K p.1) && He.eqO (PySem.W.findIn K (.ref (He.ga K p.1)) p.2) (some none))) &&
  ((m.exc.all fun x => gloB K x && (He.Fa.exc x).ok K) && ((!m.gcd || He.eqO (PySem.W.nsIn K mainGlobals "gcd") (some (some (.builtin "math.gcd")))) && (m.exv.all (exvB K) && m.sup.all (PySem.SupX.supB P K))))))))
theorem exmL_mem : ∀ {l : List (Str × Str × Bool)} {c t : Str} {b : Bool}, exmL l c t = some b → (c, t, b) ∈ l
  | [], _, _, _, h => by cases h
  | p :: l, c, t, b, h => by
    have h' : (if p.1 = c ∧ p.2.1 = t then some p.2.2 else exmL l c t) = some b := h
    split at h'
    · rename_i q
      obtain ⟨p1, p2, p3⟩ := p
      obtain ⟨rfl, rfl⟩ := q
      cases h'
      exact List.mem_cons_self
    · exact List.mem_cons_of_mem _ (exmL_mem h')
theorem exvL_mem : ∀ {l : List (Str × String × Bool)} {c : Str} {t : String} {b : Bool}, exvL l c t = some b → (c, t, b) ∈ l
  | [], _, _, _, h => by cases h
  | p :: l, c, t, b, h => by
    have h' : (if p.1 = c ∧ p.2.1 = t then some p.2.2 else exvL l c t) = some b := h
    split at h'
    · rename_i q
      obtain ⟨p1, p2, p3⟩ := p
      obtain ⟨rfl, rfl⟩ := q
      cases h'
      exact List.mem_cons_self
    · exact List.mem_cons_of_mem _ (exvL_mem h')
/-! ### the Hook -/
def asP (g : Addr → Option Obj) : Nat → List Addr
  | 0 => [mainGlobals, PySem.cStatics]
  | n + 1 => He.growD g (asP g n)
abbrev AlP : Type := Bool × (List He.FnW × List PySem.SupX.FnS)
def obsK (P : Program) (m : ModD) (K : PySem.W.Frag) : AlP := (factB P m K && m.defs.all fun d => d.ok K && gloB K d.at_.1, (m.defs.map fun d => He.fnW K d.at_, m.sup.map fun d => PySem.SupX.fnS K (d.c, some "__init__")))
def valK (m : ModD) : AlP := (true, (m.defs.map He.DefD.val, m.sup.map PySem.SupX.SupD.val))
def SaysP (P : Program) (m : ModD) (K : PySem.W.Frag) : Prop := obsK P m K = valK m
def obsP (n : Nat) (P : Program) (m : ModD) (g : Addr → Option Obj) : AlP := obsK P m (He.frG g (asP g n))
def hookP (n : Nat) (P : Program) (m : ModD) : PySem.W.Hook where
  α := AlP
  obs := fun s => obsP n P m s.heap.get?
  val := fun _ => valK m
  says := fun _ h => ∃ K : PySem.W.Frag, K.In h ∧ SaysP P m K
  of := fun _ _ e => ⟨_, He.frG_in, e⟩
  keeps := fun _ _ _ ⟨K, hK, c⟩ k => ⟨K, PySem.W.Frag.In.keeps hK k, c⟩
theorem obsP_eq {n : Nat} {P : Program} {m : ModD} {g : Addr → Option Obj} {s : Shared} (h : ∀ a, g a = s.heap.get? a) : obsP n P m g = (hookP n P m).obs s := by
  have e : g = s.heap.get? := funext h
  rw [e] <;> rfl
section
variable {P : Program} {m : ModD} {K : PySem.W.Frag} {h : Heap} {mg : Str → Option Value}
theorem SaysP.fact (c : SaysP P m K) : factB P m K = true := (He.ba (show (factB P m K && m.defs.all fun d => d.ok K && gloB K d.at_.1) = true from congrArg (fun z : AlP => z.1) c)).1
theorem SaysP.def_ (c : SaysP P m K) (i : Nat) {d : He.DefD} (hd : m.defs[i]? = some d) : ∃ fd, FunD K d.name d.qual d.params d.body d.scope (d.dvs K) (d.kws K) (He.fAd K d.at_) fd := by
  have c2 := (He.ba (show (factB P m K && m.defs.all fun d => d.ok K && gloB K d.at_.1) = true from congrArg (fun z : AlP => z.1) c)).2
  have e : m.defs.map (fun d => He.fnW K d.at_) = m.defs.map He.DefD.val := congrArg (fun z : AlP => z.2.1) c
  have e2 : (m.defs.map fun d => He.fnW K d.at_)[i]? = (m.defs.map He.DefD.val)[i]? := by rw [e]
  rw [List.getElem?_map, List.getElem?_map, hd] at e2
  exact He.DefD.funD (Option.some.inj e2) (He.ba (List.all_eq_true.mp c2 d (List.mem_of_getElem? hd))).1
theorem SaysP.glo (c : SaysP P m K) {d : He.DefD} (hd : d ∈ m.defs) : gloB K d.at_.1 = true := by
  have c2 := (He.ba (show (factB P m K && m.defs.all fun d => d.ok K && gloB K d.at_.1) = true from congrArg (fun z : AlP => z.1) c)).2
  exact (He.ba (List.all_eq_true.mp c2 d hd)).2
theorem gloB_ok (X : K.In h) (G : h.Ns mainGlobals mg) {x : Str} (q : gloB K x = true) : mg x = some (.ref (He.ga K x)) := PySem.W.mg_of X G (He.eqO_ok q)
theorem SaysP.mod (c : SaysP P m K) (X : K.In h) (G : h.Ns mainGlobals mg) (hs : ∀ d ∈ m.sup, d.Ok) (N : List Str) (fns : List (Str × Nat)) (lv : Nat) (gs : List FnI) : ModX P K mg (m.tab N fns lv) m.exc (m.gam gs) := by
  obtain ⟨f1, q⟩ := He.ba c.fact
  obtain ⟨f2, q⟩ := He.ba q
  obtain ⟨f3, q⟩ := He.ba q
  obtain ⟨f4, q⟩ := He.ba q
  obtain ⟨f5, q⟩ := He.ba q
  obtain ⟨f6, q⟩ := He.ba q
  obtain ⟨f7, q⟩ := He.ba q
  obtain ⟨f9, f8⟩ := He.ba q
  refine ⟨fun j d x e1 e2 => ?_, fun x hx => ?_, fun x hx => ?_, fun a t b e => ?_, fun a f e => ?_, fun a n b e => ?_, fun p hp => ?_, fun x hx => ?_, fun hg => ?_⟩
  · have e1' : (m.con.map (·.2))[j]? = some d := e1
    have e2' : (m.con.map (·.1))[j]? = some x := e2
    rw [List.getElem?_map] at e1' e2'
    cases z : m.con[j]? with
    | none => rw [z] at e1'; cases e1'
    | some p =>
      rw [z] at e1' e2'
      obtain ⟨p1, p2⟩ := p
      cases e1'
      cases e2'
      have f := List.all_eq_true.mp f1 _ (List.mem_of_getElem? z)
      have f' : (match PySem.W.nsIn K mainGlobals p1 with
        | some (some u) => repB K p2 u
        | _ => false) = true := f
      cases y : PySem.W.nsIn K mainGlobals p1 with
      | none => rw [y] at f'; cases f'
      | some o =>
        rw [y] at f'
        cases o with
        | none => cases f'
        | some u =>
          obtain ⟨v, rv, rep⟩ := repB_ok (mg := mg) f'
          exact ⟨v, u, PySem.W.mg_of X G y, rv, rep⟩
  · exact PySem.W.mg_none_of X G (He.eqO_ok (List.all_eq_true.mp f2 x hx))
  · exact ⟨_, gloB_ok X G (List.all_eq_true.mp f3 x hx)⟩
  · obtain ⟨g1, g⟩ := He.ba (List.all_eq_true.mp f4 _ (exmL_mem e))
    obtain ⟨g2, g⟩ := He.ba g
    obtain ⟨g3, g⟩ := He.ba g
    obtain ⟨g4, g5⟩ := He.ba g
    exact ⟨_, _, gloB_ok X G g1, gloB_ok X G g2, of_decide_eq_true g3, of_decide_eq_true g4, excCB_ok g5⟩
  · obtain ⟨g1, g⟩ := He.ba (List.all_eq_true.mp f5 _ (List.contains_iff_mem.mp e))
    obtain ⟨g2, g3⟩ := He.ba g
    exact ⟨_, gloB_ok X G g1, xfB_ok g2, He.eqO_ok g3⟩
  · obtain ⟨g1, g⟩ := He.ba (List.all_eq_true.mp f9 _ (exvL_mem e))
    obtain ⟨g2, g3⟩ := He.ba g
    exact ⟨_, gloB_ok X G g1, of_decide_eq_true g2, excCB_ok g3⟩
  · obtain ⟨d, hd, rfl⟩ := List.mem_map.mp (show p ∈ m.sup.map fun d => (d.c, d.f) from hp)
    obtain ⟨i, hi, e⟩ := List.mem_iff_getElem.mp hd
    have e0 : m.sup.map (fun d => PySem.SupX.fnS K (d.c, some "__init__")) = m.sup.map PySem.SupX.SupD.val := congrArg (fun z : AlP => z.2.2) c
    have e2 : (m.sup.map (fun d => PySem.SupX.fnS K (d.c, some "__init__")))[i]? = (m.sup.map PySem.SupX.SupD.val)[i]? := by rw [e0]
    rw [List.getElem?_map, List.getElem?_map, List.getElem?_eq_getElem hi, e] at e2
    exact PySem.SupX.sup_of X G (Option.some.inj e2) (List.all_eq_true.mp f8 d hd) (hs d hd)
  · obtain ⟨g1, g⟩ := He.ba (List.all_eq_true.mp f6 x hx)
    obtain ⟨k1, k2, k3, k4⟩ := He.exc_ok g
    exact ⟨_, gloB_ok X G g1, k1, k2, k3, k4⟩
  · have hg' : m.gcd = true := hg
    rw [hg'] at f7
    exact PySem.W.mg_of X G (He.eqO_ok (by simpa using f7))
end
/-- nothing leaves -/
theorem ok_none {P : Program} {w : World} {K : PySem.W.Frag} {mg : Str → Option Value} {base : Heap} {k : Nat} {f : Addr} {fd : FuncData} {ps : List Str} {sp : Sp} (F : FnOk P w K mg base (L2.CX P w) k f fd ps sp) :
    FnOk P w K mg base L2.CX0 k f fd ps (fun vs H Q _ => sp vs H Q (fun _ _ _ => False)) :=
  ⟨fun vs H Q E q => F.len _ _ _ _ q, fun A outer s H args us vs Q E hr he hb hv hs => codeAny_mono (F.run A outer s H args us vs Q (fun _ _ _ => False) hr he hb hv hs) fun r s' z => by
    cases r with
    | ok fl => cases fl <;> exact z
    | error e =>
      obtain ⟨_, _, _, _, _, _, _, _, _, _, _, _, q⟩ := (show L2.CX P w outer H s (fun _ _ _ => False) e s' from z)
      exact q.elim⟩
end PD

/-! PD20 -/
set_option Elab.async false
set_option linter.all false
set_option maxRecDepth 100000
set_option maxHeartbeats 4000000
/-! PD: the chain of a module's defs, and the law's end. -/
namespace PD
open PySem PySem.Spec PyProof.Rows L2
structure EnvK (P : Program) (m : ModD) (K : PySem.W.Frag) (mg : Str → Option Value) : Prop where
  mod : ∀ (N : List Str) (fns : List (Str × Nat)) (lv : Nat) (gs : List FnI), ModX P K mg (m.tab N fns lv) m.exc (m.gam gs)
  fun_ : ∀ (i : Nat) (d : He.DefD), m.defs[i]? = some d → ∃ fd, FunD K d.name d.qual d.params d.body d.scope (d.dvs K) (d.kws K) (He.fAd K d.at_) fd
  glo : ∀ d ∈ m.defs, mg d.at_.1 = some (.ref (He.ga K d.at_.1))
theorem SaysP.env {P : Program} {m : ModD} {K : PySem.W.Frag} {h : Heap} {mg : Str → Option Value} (c : SaysP P m K) (X : K.In h) (G : h.Ns mainGlobals mg) (hs : ∀ d ∈ m.sup, d.Ok) : EnvK P m K mg :=
  ⟨fun N fns lv gs => c.mod X G hs N fns lv gs, fun i d hd => c.def_ i hd, fun d hd => gloB_ok X G (c.glo hd)⟩
inductive FnsH (R : RC) (P : Program) (w : World) (base : Heap) (k : Nat) : List (Str × Nat) → List FnI → Prop
  | nil : FnsH R P w base k [] []
  | cons {x : Str} {n : Nat} {fi : FnI} {l : List (Str × Nat)} {gs : List FnI} : FnH R P w base k x n fi → FnsH R P w base k l gs → FnsH R P w base k ((x, n) :: l) (fi :: gs)
theorem FnsH.at {R : RC} {P : Program} {w : World} {base : Heap} {k : Nat} {l : List (Str × Nat)} {gs : List FnI} (h : FnsH R P w base k l gs) : ∀ (j : Nat) (fi : FnI) (y : Str) (n : Nat), gs[j]? = some fi → l[j]? = some (y, n) → FnH R P w base k y n fi := by
  induction h with
  | nil => intro j fi y n e; cases j <;> cases e
  | cons h t ih =>
    intro j fi y n e1 e2
    cases j with
    | zero =>
      simp at e1 e2
      obtain ⟨rfl, rfl⟩ := e2
      subst e1
      exact h
    | succ j => exact ih j fi y n (by simpa using e1) (by simpa using e2)
theorem FnH.mono {R : RC} {P : Program} {w : World} {base : Heap} {j k : Nat} {x : Str} {n : Nat} {fi : FnI} (h : FnH R P w base j x n fi) (l : j ≤ k) : FnH R P w base k x n fi := by
  obtain ⟨f, fd, ps, ds, dvs, h1, h2, h3, h4, h5, h6, h7⟩ := h
  exact ⟨f, fd, ps, ds, dvs, h1, h2, h3, h4, h5.mono l, h6, h7⟩
section
variable {P : Program} {m : ModD} {K : PySem.W.Frag} {mg : Str → Option Value} {w : World} {base : Heap}
theorem fn_make (E : EnvK P m K mg) {x : Str} {prm : Arguments} {bdy : List Stmt} {scp : Scope} (i : Nat) (hd : m.defs[i]? = some ⟨(x, none), x, x, prm, bdy, scp, [], []⟩) {N ps : List Str} {fns : List (Str × Nat)} {gs : List FnI} {lv nn : Nat} {b : Sts} (muts : List Bool)
    (S : FnScope N ps scp) (hn : nn = N.length) (hc : chkSs (m.tab N fns lv) m.exc scp true b bdy = true)
    (hb : ∀ (kV doc pm : Value) (an : Option Addr) (cdv ct : Value) (us : List Value), us.length = ps.length → bindArgs (PySem.W.fnOf x x prm bdy scp .none kV doc pm an cdv ct) ⟨us, []⟩ = pure (ps.zip us))
    (hf : FnsH ⟨K, mg⟩ P w base lv fns gs) : FnH ⟨K, mg⟩ P w base (lv + 1) x ps.length ⟨muts, [], runDef (m.gam gs) ⟨nn, b⟩⟩ := by
  obtain ⟨fd, F⟩ := E.fun_ i _ hd
  exact ⟨_, fd, ps, [], [], E.glo _ (List.mem_of_getElem? hd), F.kp, F.bindsN hb, .nil, def_ok F S (E.mod N fns lv gs) rfl hn hc hf.at (fun _ _ _ _ _ _ h => nomatch h), rfl, fun F => .nil⟩
theorem law_make (E : EnvK P m K mg) {x : Str} {prm : Arguments} {bdy : List Stmt} {scp : Scope} (i : Nat) (hd : m.defs[i]? = some ⟨(x, none), x, x, prm, bdy, scp, [], []⟩) {N : List Str} {y : Str} {fns : List (Str × Nat)} {gs : List FnI} {lv nn : Nat} {b : Sts}
    (S : FnScope N [y] scp) (hn : nn = N.length) (hc : chkSs (m.tab N fns lv) m.exc scp true b bdy = true)
    (hb : ∀ (kV doc pm : Value) (an : Option Addr) (cdv ct : Value) (us : List Value), us.length = [y].length → bindArgs (PySem.W.fnOf x x prm bdy scp .none kV doc pm an cdv ct) ⟨us, []⟩ = pure ([y].zip us))
    (hf : ∀ base : Heap, FnsH ⟨K, mg⟩ P w base lv fns gs) : ∃ fd : FuncData, mg x = some (.ref (He.ga K x)) ∧ (∀ (s : Shared) (v : Value), BindsTo s fd ⟨[v], []⟩ [(y, v)]) ∧
      ∀ base : Heap, FnOk P w K mg base L2.CX0 (lv + 1) (He.ga K x) fd [y] (fun vs H Q _ => spOf ⟨K, mg⟩ 1 (runDef (m.gam gs) ⟨nn, b⟩) vs H Q (fun _ _ _ => False)) := by
  obtain ⟨fd, F⟩ := E.fun_ i _ hd
  exact ⟨fd, E.glo _ (List.mem_of_getElem? hd), fun s v => F.bindsA hb s [v] rfl, fun base => ok_none (def_ok F S (E.mod N fns lv gs) rfl hn hc (hf base).at (fun _ _ _ _ _ _ h => nomatch h))⟩
end
theorem rep_ints {R : RC} {F : Hp} : ∀ ns : List Int, RepL R F (ns.map V.int) (ns.map D.int)
  | [] => .nil
  | n :: ns => .cons (.int n) (rep_ints ns)
/-- THE END of a law -/
theorem walk_ofP {l : PySem.W.OpenLaw} {k n0 : Nat} {q : Program} {loose : List Str} {XP : (Str → Option Value) → Heap → Prop} {m : ModD} {d : DefRec} {y : Str} {f : List Arg → FRes}
    (hn : l.most = some 63) (hdf : d.params.defaults = []) (hr : Room k callerA) (hs : ∀ d ∈ m.sup, d.Ok)
    (F : ∀ (w : World) (mg : Str → Option Value) (K : PySem.W.Frag), EnvK l.prog m K mg → ∃ fd : FuncData, mg d.name = some (.ref (He.ga K d.name)) ∧ (∀ (s : Shared) (v : Value), BindsTo s fd ⟨[v], []⟩ [(y, v)]) ∧
      ∀ base : Heap, FnOk l.prog w K mg base L2.CX0 k (He.ga K d.name) fd [y] (fun vs H Q _ => spOf ⟨K, mg⟩ 1 f vs H Q (fun _ _ _ => False)))
    (plain : ∀ ns : List Int, ns.length ≤ 63 → (∀ z ∈ ns, Builtin.Int.intBits z ≤ 1048576) → f [.fz (.lst (ns.map D.int))] = .ok (.bl true) []) :
    PySem.W.WalkO q loose XP (hookP n0 l.prog m).says l.row.toRowW d [] (fun f vs => PySem.call f vs) := by
  refine Att.attach_callB hn hdf fun w s₀ s₁ mg mb fa o pm cd doc a vs ns G Y ho hd hcd hmg hobj hints hlen hbits hg => ?_
  obtain ⟨K, KX, c⟩ := Y
  have Gg := G.T.g
  obtain ⟨fd, hm, hb, hF⟩ := F w mg K (c.env KX Gg hs)
  have e := hm.symm.trans hmg
  cases e
  refine law_call KX Gg G.T.b G.T.builtins G.T.nolimit hg hobj hints (Nat.le_trans hlen (by rw [sizeLine_eq]; decide)) hr (fun base _ _ => hF base) hb (fun H hO hS => ?_) fun H e s' z => z
  refine ⟨H, [.fz (.lst (ns.map D.int))], [], rfl, Le.refl _, .fz (.lst hS (rep_ints ns)) .nil, List.nodup_nil, ?_⟩
  rw [plain ns hlen hbits]
  intro x F' H' _ r
  cases r
  rfl
end PD

/-! PD21 -/
set_option Elab.async false
set_option linter.all false
set_option maxRecDepth 100000
set_option maxHeartbeats 4000000
/-! PD: defs with defaults. -/
namespace PD
open PySem PySem.Spec PyProof.Rows L2
section
variable {P : Program} {m : ModD} {K : PySem.W.Frag} {mg : Str → Option Value} {w : World} {base : Heap}
/-- a def with defaults, called with its first n values: the defaults behind the first j fill up -/
theorem fn_make_d (E : EnvK P m K mg) {x : Str} {prm : Arguments} {bdy : List Stmt} {scp : Scope} {dfl : List He.Dv} (i : Nat) (hd : m.defs[i]? = some ⟨(x, none), x, x, prm, bdy, scp, dfl, []⟩) {N ps : List Str} {fns : List (Str × Nat)} {gs : List FnI} {lv nn : Nat} {b : Sts} (muts : List Bool) (n j : Nat) (ds : List D)
    (S : FnScope N ps scp) (hn : nn = N.length) (hc : chkSs (m.tab N fns lv) m.exc scp true b bdy = true) (hne : dfl ≠ []) (hlen : n + (dfl.length - j) = ps.length)
    (hb : ∀ (T : Addr) (kV doc pm : Value) (an : Option Addr) (cdv ct : Value) (us its : List Value), us.length = n → its.length = dfl.length →
      ∃ k, bindArgs (PySem.W.fnOf x x prm bdy scp (.ref T) kV doc pm an cdv ct) ⟨us, []⟩ = seqItems? (.ref T) >>= k ∧ k (some its.toArray) = pure (ps.zip (us ++ its.drop j)))
    (hr : ∀ (R : RC) (F : Hp), RepL R F ((dfl.map (He.Dv.v K)).drop j) ds)
    (hf : FnsH ⟨K, mg⟩ P w base lv fns gs) : FnH ⟨K, mg⟩ P w base (lv + 1) x n ⟨muts, ds, runDef (m.gam gs) ⟨nn, b⟩⟩ := by
  obtain ⟨fd, F⟩ := E.fun_ i _ hd
  have l1 : (dfl.map (He.Dv.v K)).length = dfl.length := List.length_map ..
  obtain ⟨us, hv, hbi⟩ := FunD.binds1 F n j (by intro z; exact hne (List.map_eq_nil_iff.mp z)) (by show n + ((dfl.map (He.Dv.v K)).length - j) = _; rw [l1]; exact hlen) (by
    intro T kV doc pm an cdv ct us its h1 h2
    exact hb T kV doc pm an cdv ct us its h1 (h2.trans l1))
  refine ⟨_, fd, ps, us, (dfl.map (He.Dv.v K)).drop j, E.glo _ (List.mem_of_getElem? hd), F.kp, hbi, hv, def_ok F S (E.mod N fns lv gs) rfl hn hc hf.at (fun _ _ _ _ _ _ h => nomatch h), ?_, fun F => hr _ F⟩
  rw [List.length_drop, l1]
  exact hlen
/-- the same, every value given -/
theorem fn_make_a (E : EnvK P m K mg) {x : Str} {prm : Arguments} {bdy : List Stmt} {scp : Scope} {dfl : List He.Dv} (i : Nat) (hd : m.defs[i]? = some ⟨(x, none), x, x, prm, bdy, scp, dfl, []⟩) {N ps : List Str} {fns : List (Str × Nat)} {gs : List FnI} {lv nn : Nat} {b : Sts} (muts : List Bool)
    (S : FnScope N ps scp) (hn : nn = N.length) (hc : chkSs (m.tab N fns lv) m.exc scp true b bdy = true) (hne : dfl ≠ [])
    (hb : ∀ (T : Addr) (kV doc pm : Value) (an : Option Addr) (cdv ct : Value) (us : List Value), us.length = ps.length → bindArgs (PySem.W.fnOf x x prm bdy scp (.ref T) kV doc pm an cdv ct) ⟨us, []⟩ = pure (ps.zip us))
    (hf : FnsH ⟨K, mg⟩ P w base lv fns gs) : FnH ⟨K, mg⟩ P w base (lv + 1) x ps.length ⟨muts, [], runDef (m.gam gs) ⟨nn, b⟩⟩ := by
  obtain ⟨fd, F⟩ := E.fun_ i _ hd
  refine ⟨_, fd, ps, [], [], E.glo _ (List.mem_of_getElem? hd), F.kp, ?_, .nil, def_ok F S (E.mod N fns lv gs) rfl hn hc hf.at (fun _ _ _ _ _ _ h => nomatch h), rfl, fun F => .nil⟩
  obtain ⟨oc, od, dV, kV, doc, pm, an, cdv, ct, osl, rfl, lk, hcd, hD, hK⟩ := F.ex
  rcases hD with ⟨e, _⟩ | ⟨_, T, o, its, q, rfl, _⟩
  · exact absurd (List.map_eq_nil_iff.mp e) hne
  · exact Binds.all fun us hl => hb T kV doc pm an cdv ct us hl
end
end PD

/-! PD25 -/
set_option Elab.async false
set_option linter.all false
set_option maxRecDepth 100000
set_option maxHeartbeats 4000000
/-! PD: defs with try .. raise .. from; the defs that they try. -/
namespace PD
open PySem PySem.Spec PyProof.Rows L2
def ModD.tabC (m : ModD) (N : List Str) (fns : List (Str × Nat)) (lv : Nat) (cold : List Str) : Tab := { m.tab N fns lv with cold := cold }
theorem FnHN.mono {R : RC} {P : Program} {w : World} {base : Heap} {j k : Nat} {x : Str} {n : Nat} {fi : FnI} (h : FnHN R P w base j x n fi) (l : j ≤ k) : FnHN R P w base k x n fi := by
  obtain ⟨f, fd, ps, ds, dvs, h1, h2, h3, h4, h5, h6, h7⟩ := h
  exact ⟨f, fd, ps, ds, dvs, h1, h2, h3, h4, h5.mono l, h6, h7⟩
section
variable {P : Program} {m : ModD} {K : PySem.W.Frag} {mg : Str → Option Value} {w : World} {base : Heap}
/-- the one cold def, number j of those called -/
theorem fn_make_x (E : EnvK P m K mg) {x : Str} {prm : Arguments} {bdy : List Stmt} {scp : Scope} (i : Nat) (hd : m.defs[i]? = some ⟨(x, none), x, x, prm, bdy, scp, [], []⟩) {N ps : List Str} {fns : List (Str × Nat)} {gs : List FnI} {lv nn : Nat} {b : Sts} (muts : List Bool)
    {y : Str} {ny : Nat} {fy : FnI} (j : Nat) (hj : gs[j]? = some fy) (hu : ∀ (j' : Nat) (n' : Nat), fns[j']? = some (y, n') → j' = j ∧ n' = ny)
    (S : FnScope N ps scp) (hn : nn = N.length) (hc : chkSs (m.tabC N fns lv [y]) m.exc scp true b bdy = true)
    (hb : ∀ (kV doc pm : Value) (an : Option Addr) (cdv ct : Value) (us : List Value), us.length = ps.length → bindArgs (PySem.W.fnOf x x prm bdy scp .none kV doc pm an cdv ct) ⟨us, []⟩ = pure (ps.zip us))
    (hf : FnsH ⟨K, mg⟩ P w base lv fns gs) (hy : FnHN ⟨K, mg⟩ P w base lv y ny fy) : FnH ⟨K, mg⟩ P w base (lv + 1) x ps.length ⟨muts, [], runDef (m.gam gs) ⟨nn, b⟩⟩ := by
  obtain ⟨fd, F⟩ := E.fun_ i _ hd
  have M := E.mod N fns lv gs
  refine ⟨_, fd, ps, [], [], E.glo _ (List.mem_of_getElem? hd), F.kp, F.bindsN hb, .nil, def_ok (T := m.tabC N fns lv [y]) F S ⟨M.con, M.free, M.exn, M.exm, M.xf, M.exv, M.raf, M.exc_, M.gcd⟩ rfl hn hc hf.at (fun j' fi z n e1 e2 e3 => ?_), rfl, fun F => .nil⟩
  have ez : z = y := by
    have e3' : z ∈ [y] := e3
    simpa using e3'
  subst ez
  obtain ⟨rfl, rfl⟩ := hu j' n e2
  have e1' : gs[j']? = some fi := e1
  rw [hj] at e1'
  cases e1'
  exact hy
/-- a def that only raises where a test says so -/
theorem fnN_make (E : EnvK P m K mg) {x : Str} {prm : Arguments} {bdy : List Stmt} {scp : Scope} (i : Nat) (hd : m.defs[i]? = some ⟨(x, none), x, x, prm, bdy, scp, [], []⟩) {N ps : List Str} {fns : List (Str × Nat)} {gs : List FnI} {lv nn : Nat} (muts : List Bool)
    {c : Ex} {cl : Str} {ec : Expr} {p1 p2 p3 p4 p5 : Pos} {msg : Str} {kk : Nat} (hbody : bdy = [.If ec [.Raise (some (.Call (.Name cl p1) [.Constant (.str msg) kk p2] [] p3)) none p4] [] p5]) (hpur : c.pur = true)
    (S : FnScope N ps scp) (hn : nn = N.length) (hc : chkSs (m.tab N fns lv) m.exc scp true (.cons (.if_ c (.cons (.rais cl) .nil) .nil) .nil) bdy = true)
    (hb : ∀ (kV doc pm : Value) (an : Option Addr) (cdv ct : Value) (us : List Value), us.length = ps.length → bindArgs (PySem.W.fnOf x x prm bdy scp .none kV doc pm an cdv ct) ⟨us, []⟩ = pure (ps.zip us))
    (hf : FnsH ⟨K, mg⟩ P w base lv fns gs) : FnHN ⟨K, mg⟩ P w base (lv + 1) x ps.length ⟨muts, [], runDef (m.gam gs) ⟨nn, .cons (.if_ c (.cons (.rais cl) .nil) .nil) .nil⟩⟩ := by
  obtain ⟨fd, F⟩ := E.fun_ i _ hd
  exact ⟨_, fd, ps, [], [], E.glo _ (List.mem_of_getElem? hd), F.kp, F.bindsN hb, .nil, guard_ok hbody hpur F S (E.mod N fns lv gs) rfl hn hc hf.at, rfl, fun F => .nil⟩
end
end PD

/-! K04Data -/
set_option Elab.async false
set_option linter.all false
set_option maxRecDepth 100000
set_option maxHeartbeats 0
/-! law_k04_whole_texts: the data of its defs (printed by gen.py). -/
namespace K04
open PySem PD L2

def top (i : Nat) : Stmt := PySem.Challenge.pw_trueruns_k04_whole_texts.main.body.getD i (.Pass ⟨0, 0, 0, 0⟩)
def sub (s : Stmt) (j : Nat) : Stmt := match s with
  | .ClassDef (body := b) .. => b.getD j (.Pass ⟨0, 0, 0, 0⟩)
  | _ => .Pass ⟨0, 0, 0, 0⟩
def mk (i : Nat) (n : Str) : He.DefD := ⟨(n, none), n, n, defArgs (top i), defBody (top i), defScope (top i), [], []⟩
def sup_BadText : PySem.SupX.SupD := ⟨"BadText", "place", "BadText.__init__", defArgs (sub (top 6) 0), defBody (sub (top 6) 0), defScope (sub (top 6) 0)⟩
def sup_TooLarge : PySem.SupX.SupD := ⟨"TooLarge", "what", "TooLarge.__init__", defArgs (sub (top 7) 0), defBody (sub (top 7) 0), defScope (sub (top 7) 0)⟩
def con : List (Str × D) := [("ZERO", .tup [.int (0), .int (1)]), ("MOST_DEGREE", .int (40)), ("FIGURES", .str "0123456789"), ("MOST_FIGURES", .int (400)), ("MOST_SIZE", .int (30))]
def mkd (i : Nat) (n : Str) (l : List He.Dv) : He.DefD := ⟨(n, none), n, n, defArgs (top i), defBody (top i), defScope (top i), l, []⟩
def defs : List He.DefD := [mk 14 "number_text", mk 15 "numbers_text", mk 16 "poly_text", mk 17 "matrix_text", mk 18 "figures_end", mk 19 "check_lowest", mk 20 "scan_number", mk 21 "scan_numbers", mk 22 "scan_poly", mk 23 "scan_matrix", mk 24 "check_text", mk 25 "read_number", mk 26 "read_poly", mk 27 "read_matrix", mk 29 "_law_well", mk 30 "_law_pull", mk 31 "_law_gcd", mk 32 "_law_frac", mk 33 "_law_whole", mk 34 "_law_is_frac", mk 35 "_law_is_row", mk 36 "_law_number", mk 37 "_law_trim", mk 38 "_law_written", mk 39 "_law_line", mk 40 "_law_is_figure", mk 41 "_law_run", mk 42 "_law_scan", mk 43 "_law_numbers", mk 44 "_law_poly_due", mk 45 "_law_matrix_due", mk 46 "_law_due", mk 47 "_law_asked", mk 48 "_law_is_matrix", mk 49 "_law_read", mk 50 "_law_bent", mk 51 "_law_edges", mk 52 "_law_great", mk 53 "law"]
def md : ModD := { con := con, free := ["abs", "bool", "int", "isinstance", "len", "range", "str", "super", "tuple"], exn := ["BadNumber", "BadPoly", "BadMatrix", "BadText", "RunsError", "TooLarge"], exc := ["BadNumber"], exm := ([("BadNumber", "BadMatrix", false), ("BadNumber", "BadNumber", true), ("BadNumber", "BadPoly", false), ("BadNumber", "BadText", false), ("BadNumber", "RunsError", true), ("BadNumber", "TooLarge", false), ("BadText", "BadMatrix", false), ("BadText", "BadNumber", false), ("BadText", "BadPoly", false), ("BadText", "BadText", true), ("BadText", "RunsError", true), ("BadText", "TooLarge", false), ("TooLarge", "BadMatrix", false), ("TooLarge", "BadNumber", false), ("TooLarge", "BadPoly", false), ("TooLarge", "BadText", false), ("TooLarge", "RunsError", true), ("TooLarge", "TooLarge", true)] : List (Str × Str × Bool)), xfl := [("BadText", "place"), ("TooLarge", "what")], exv := [], sup := [sup_BadText, sup_TooLarge], gcd := true, defs := defs }
def N_number_text : List Str := ["x"]
def b_number_text : Sts := (.cons (.ret (.ife (.cmp .eq (.idx (.var 0) (.lit (.int (1)))) (.lit (.int (1)))) (.fst (.idx (.var 0) (.lit (.int (0))))) (.fst3 (.idx (.var 0) (.lit (.int (0)))) "/" (.idx (.var 0) (.lit (.int (1))))))) .nil)
def t_number_text : List (Str × Nat) := []
noncomputable def g_number_text : List FnI := []
noncomputable def f_number_text : List PD.Arg → FRes := runDef (md.gam g_number_text) ⟨1, b_number_text⟩
def N_figures_end : List Str := ["text", "start", "k"]
def b_figures_end : Sts := (.cons (.if_ (.or_ (.cmp .ge (.var 1) (.bfn .len (.cons (.var 0) .nil))) (.cmp .nin (.idx (.var 0) (.var 1)) (.glo 2))) (.cons (.raisf "BadText" "place" (.var 1)) .nil) .nil) (.cons (.asg (.nm 2) (.bin .add (.var 1) (.lit (.int (1))))) (.cons (.whl (.and_ (.cmp .ne (.idx (.var 0) (.var 1)) (.lit (.str "0"))) (.and_ (.cmp .lt (.var 2) (.bfn .len (.cons (.var 0) .nil))) (.cmp .inn (.idx (.var 0) (.var 2)) (.glo 2)))) (.cons (.asg (.nm 2) (.bin .add (.var 2) (.lit (.int (1))))) .nil)) (.cons (.ret (.var 2)) .nil))))
def t_figures_end : List (Str × Nat) := []
noncomputable def g_figures_end : List FnI := []
noncomputable def f_figures_end : List PD.Arg → FRes := runDef (md.gam g_figures_end) ⟨3, b_figures_end⟩
def N_check_lowest : List Str := ["p", "q"]
def b_check_lowest : Sts := (.cons (.if_ (.or_ (.cmp .eq (.var 1) (.lit (.int (1)))) (.cmp .ne (.bfn .gcd (.cons (.var 0) (.cons (.var 1) .nil))) (.lit (.int (1))))) (.cons (.rais "BadNumber") .nil) .nil) .nil)
def t_check_lowest : List (Str × Nat) := []
noncomputable def g_check_lowest : List FnI := []
noncomputable def f_check_lowest : List PD.Arg → FRes := runDef (md.gam g_check_lowest) ⟨2, b_check_lowest⟩
def N_check_text : List Str := ["thing"]
def b_check_text : Sts := (.cons (.if_ (.not_ (.isi (.var 0) [.ty "str"] false)) (.cons (.raisf "BadText" "place" (.lit (.int (0)))) .nil) .nil) (.cons (.ret (.var 0)) .nil))
def t_check_text : List (Str × Nat) := []
noncomputable def g_check_text : List FnI := []
noncomputable def f_check_text : List PD.Arg → FRes := runDef (md.gam g_check_text) ⟨1, b_check_text⟩
def N_law_well : List Str := ["script", "rows", "spot", "cell", "mixed", "turn"]
def lp0_law_well : Sts := (.cons (.asg (.nm 4) (.bin .mod (.bfn .int (.cons (.bin .add (.bin .add (.bin .add (.bin .mul (.var 4) (.var 4)) (.bin .mul (.lit (.int (40014))) (.var 5))) (.var 2)) (.lit (.int (1)))) .nil)) (.lit (.int (2147483563))))) (.cons (.app 1 (.bin .fdv (.var 4) (.lit (.int (7))))) .nil))
def lp1_law_well : Sts := (.cons (.if_ (.cmp .gt (.var 3) (.lit (.int (0)))) (.cons (.app 1 (.bin .mod (.bfn .int (.cons (.var 3) .nil)) (.lit (.int (60))))) (.cons (.asg (.nm 3) (.bin .fdv (.var 3) (.lit (.int (60))))) .nil)) .nil) .nil)
def lp2_law_well : Sts := (.cons (.if_ (.cmp .lt (.var 2) (.bfn .len (.cons (.var 0) .nil))) (.cons (.asg (.nm 3) (.bfn .int (.cons (.idx (.var 0) (.var 2)) .nil))) (.cons (.if_ (.cmp .lt (.var 3) (.lit (.int (0)))) (.cons (.asg (.nm 3) (.bin .sub (.lit (.int (2))) (.bin .mul (.lit (.int (3))) (.var 3)))) .nil) .nil) (.cons (.if_ (.cmp .lt (.var 3) (.bin .pow (.lit (.int (10))) (.lit (.int (18))))) (.cons (.asg (.nm 4) (.bin .mod (.bfn .int (.cons (.bin .add (.bin .add (.bin .mul (.var 3) (.lit (.int (16807)))) (.bin .mul (.var 2) (.lit (.int (7919))))) (.lit (.int (3)))) .nil)) (.lit (.int (2147483647))))) (.cons (.for_ (.nm 5) (.rng1 (.lit (.int (5)))) lp0_law_well) .nil)) (.cons (.for_ (.nm 5) (.rng1 (.lit (.int (50)))) lp1_law_well) .nil)) .nil))) .nil) .nil)
def b_law_well : Sts := (.cons (.asg (.nm 1) (.lst .nil)) (.cons (.for_ (.nm 2) (.rng1 (.lit (.int (63)))) lp2_law_well) (.cons (.retl (.lst (.cons (.lit (.int (0))) (.cons (.var 1) .nil)))) .nil)))
def t_law_well : List (Str × Nat) := []
noncomputable def g_law_well : List FnI := []
noncomputable def f_law_well : List PD.Arg → FRes := runDef (md.gam g_law_well) ⟨6, b_law_well⟩
def N_law_pull : List Str := ["well", "top", "spot", "rows"]
def b_law_pull : Sts := (.cons (.asg (.nm 2) (.idx (.var 0) (.lit (.int (0))))) (.cons (.asg (.nm 3) (.idx (.var 0) (.lit (.int (1))))) (.cons (.six 0 (.lit (.int (0))) (.bin .add (.var 2) (.lit (.int (1))))) (.cons (.if_ (.cmp .ge (.var 2) (.bfn .len (.cons (.var 3) .nil))) (.cons (.ret (.lit (.int (0)))) .nil) .nil) (.cons (.ret (.bin .mod (.bfn .int (.cons (.idx (.var 3) (.var 2)) .nil)) (.var 1))) .nil)))))
def t_law_pull : List (Str × Nat) := []
noncomputable def g_law_pull : List FnI := []
noncomputable def f_law_pull : List PD.Arg → FRes := runDef (md.gam g_law_pull) ⟨4, b_law_pull⟩
def N_law_gcd : List Str := ["one", "two", "big", "small", "turn", "rest"]
def lp0_law_gcd : Sts := (.cons (.if_ (.cmp .eq (.var 3) (.lit (.int (0)))) (.cons (.ret (.var 2)) .nil) .nil) (.cons (.asg (.nm 5) (.bin .mod (.bfn .int (.cons (.var 2) .nil)) (.var 3))) (.cons (.asg (.nm 2) (.var 3)) (.cons (.asg (.nm 3) (.var 5)) .nil))))
def b_law_gcd : Sts := (.cons (.asg (.nm 2) (.bfn .abs (.cons (.var 0) .nil))) (.cons (.asg (.nm 3) (.bfn .abs (.cons (.var 1) .nil))) (.cons (.for_ (.nm 4) (.rng1 (.bin .add (.bin .add (.bin .mul (.lit (.int (2))) (.mth .bitlen (.var 2) .nil)) (.bin .mul (.lit (.int (2))) (.mth .bitlen (.var 3) .nil))) (.lit (.int (10))))) lp0_law_gcd) (.cons (.ret (.var 2)) .nil))))
def t_law_gcd : List (Str × Nat) := []
noncomputable def g_law_gcd : List FnI := []
noncomputable def f_law_gcd : List PD.Arg → FRes := runDef (md.gam g_law_gcd) ⟨6, b_law_gcd⟩
def N_law_whole : List Str := ["told"]
def b_law_whole : Sts := (.cons (.ret (.and_ (.isi (.var 0) [.ty "int"] false) (.not_ (.isi (.var 0) [.ty "bool"] false)))) .nil)
def t_law_whole : List (Str × Nat) := []
noncomputable def g_law_whole : List FnI := []
noncomputable def f_law_whole : List PD.Arg → FRes := runDef (md.gam g_law_whole) ⟨1, b_law_whole⟩
def N_law_trim : List Str := ["row", "size", "turn", "spot"]
def lp0_law_trim : Sts := (.cons (.if_ (.and_ (.cmp .gt (.var 1) (.lit (.int (0)))) (.cmp .eq (.idx (.idx (.var 0) (.bin .sub (.var 1) (.lit (.int (1))))) (.lit (.int (0)))) (.lit (.int (0))))) (.cons (.asg (.nm 1) (.bin .sub (.var 1) (.lit (.int (1))))) .nil) .nil) .nil)
def b_law_trim : Sts := (.cons (.asg (.nm 1) (.bfn .len (.cons (.var 0) .nil))) (.cons (.for_ (.nm 2) (.rng1 (.bfn .len (.cons (.var 0) .nil))) lp0_law_trim) (.cons (.ret (.bfn .tuple (.cons (.lc [3] (.nm 3) (.rng1 (.var 1)) (.lit (.bl true)) (.idx (.var 0) (.var 3))) .nil))) .nil)))
def t_law_trim : List (Str × Nat) := []
noncomputable def g_law_trim : List FnI := []
noncomputable def f_law_trim : List PD.Arg → FRes := runDef (md.gam g_law_trim) ⟨4, b_law_trim⟩
def N_law_written : List Str := ["x"]
def b_law_written : Sts := (.cons (.if_ (.cmp .eq (.idx (.var 0) (.lit (.int (1)))) (.lit (.int (1)))) (.cons (.ret (.bfn .str (.cons (.idx (.var 0) (.lit (.int (0)))) .nil))) .nil) .nil) (.cons (.ret (.bin .add (.bin .add (.bfn .str (.cons (.idx (.var 0) (.lit (.int (0)))) .nil)) (.lit (.str "/"))) (.bfn .str (.cons (.idx (.var 0) (.lit (.int (1)))) .nil)))) .nil))
def t_law_written : List (Str × Nat) := []
noncomputable def g_law_written : List FnI := []
noncomputable def f_law_written : List PD.Arg → FRes := runDef (md.gam g_law_written) ⟨1, b_law_written⟩
def N_law_is_figure : List Str := ["text", "spot", "sign"]
def b_law_is_figure : Sts := (.cons (.asg (.nm 2) (.slc (.var 0) (.var 1) (.bin .add (.var 1) (.lit (.int (1)))))) (.cons (.ret (.and_ (.cmp .eq (.bfn .len (.cons (.var 2) .nil)) (.lit (.int (1)))) (.cmp .inn (.var 2) (.lit (.str "0123456789"))))) .nil))
def t_law_is_figure : List (Str × Nat) := []
noncomputable def g_law_is_figure : List FnI := []
noncomputable def f_law_is_figure : List PD.Arg → FRes := runDef (md.gam g_law_is_figure) ⟨3, b_law_is_figure⟩
def N_numbers_text : List Str := ["row", "x"]
def b_numbers_text : Sts := (.cons (.ret (.join (.lit (.str ",")) (.lc [1] (.nm 1) (.seq (.var 0)) (.lit (.bl true)) (.call 0 (.cons (.var 1) .nil))))) .nil)
def t_numbers_text : List (Str × Nat) := [("number_text", 1)]
noncomputable def g_numbers_text : List FnI := [⟨[false], [], f_number_text⟩]
noncomputable def f_numbers_text : List PD.Arg → FRes := runDef (md.gam g_numbers_text) ⟨2, b_numbers_text⟩
def N_scan_number : List Str := ["text", "start", "first", "middle", "end", "p", "q", "e"]
def b_scan_number : Sts := (.cons (.asg (.nm 2) (.var 1)) (.cons (.if_ (.and_ (.cmp .lt (.var 1) (.bfn .len (.cons (.var 0) .nil))) (.cmp .eq (.idx (.var 0) (.var 1)) (.lit (.str "-")))) (.cons (.asg (.nm 2) (.bin .add (.var 1) (.lit (.int (1))))) .nil) .nil) (.cons (.asg (.nm 3) (.call 0 (.cons (.var 0) (.cons (.var 2) .nil)))) (.cons (.if_ (.and_ (.cmp .gt (.var 2) (.var 1)) (.cmp .eq (.idx (.var 0) (.var 2)) (.lit (.str "0")))) (.cons (.raisf "BadText" "place" (.var 2)) .nil) .nil) (.cons (.if_ (.or_ (.cmp .eq (.idx (.var 0) (.var 2)) (.lit (.str "0"))) (.or_ (.cmp .ge (.var 3) (.bfn .len (.cons (.var 0) .nil))) (.cmp .ne (.idx (.var 0) (.var 3)) (.lit (.str "/"))))) (.cons (.if_ (.cmp .gt (.bin .sub (.var 3) (.var 2)) (.glo 3)) (.cons (.raisf "TooLarge" "what" (.lit (.str "figures"))) .nil) .nil) (.cons (.ret (.tup (.cons (.tup (.cons (.bfn .int (.cons (.slc (.var 0) (.var 1) (.var 3)) .nil)) (.cons (.lit (.int (1))) .nil))) (.cons (.var 3) .nil)))) .nil)) .nil) (.cons (.if_ (.cmp .eq (.slc (.var 0) (.bin .add (.var 3) (.lit (.int (1)))) (.bin .add (.var 3) (.lit (.int (2))))) (.lit (.str "0"))) (.cons (.raisf "BadText" "place" (.bin .add (.var 3) (.lit (.int (1))))) .nil) .nil) (.cons (.asg (.nm 4) (.call 0 (.cons (.var 0) (.cons (.bin .add (.var 3) (.lit (.int (1)))) .nil)))) (.cons (.if_ (.or_ (.cmp .gt (.bin .sub (.var 3) (.var 2)) (.glo 3)) (.cmp .gt (.bin .sub (.bin .sub (.var 4) (.var 3)) (.lit (.int (1)))) (.glo 3))) (.cons (.raisf "TooLarge" "what" (.lit (.str "figures"))) .nil) .nil) (.cons (.asg (.nm 5) (.bfn .int (.cons (.slc (.var 0) (.var 1) (.var 3)) .nil))) (.cons (.asg (.nm 6) (.bfn .int (.cons (.slc (.var 0) (.bin .add (.var 3) (.lit (.int (1)))) (.var 4)) .nil))) (.cons (.tryx 1 (.cons (.var 5) (.cons (.var 6) .nil)) "BadNumber" 7 "BadText" "place" (.bin .sub (.var 4) (.lit (.int (1))))) (.cons (.ret (.tup (.cons (.tup (.cons (.var 5) (.cons (.var 6) .nil))) (.cons (.var 4) .nil)))) .nil))))))))))))
def t_scan_number : List (Str × Nat) := [("figures_end", 2), ("check_lowest", 2)]
noncomputable def g_scan_number : List FnI := [⟨[false, false], [], f_figures_end⟩, ⟨[false, false], [], f_check_lowest⟩]
noncomputable def f_scan_number : List PD.Arg → FRes := runDef (md.gam g_scan_number) ⟨8, b_scan_number⟩
def N_law_frac : List Str := ["top", "bottom", "shared"]
def b_law_frac : Sts := (.cons (.if_ (.cmp .lt (.var 1) (.lit (.int (0)))) (.cons (.asg (.nm 0) (.neg (.var 0))) (.cons (.asg (.nm 1) (.neg (.var 1))) .nil)) .nil) (.cons (.asg (.nm 2) (.call 0 (.cons (.var 0) (.cons (.var 1) .nil)))) (.cons (.ret (.tup (.cons (.bin .fdv (.var 0) (.var 2)) (.cons (.bin .fdv (.var 1) (.var 2)) .nil)))) .nil)))
def t_law_frac : List (Str × Nat) := [("_law_gcd", 2)]
noncomputable def g_law_frac : List FnI := [⟨[false, false], [], f_law_gcd⟩]
noncomputable def f_law_frac : List PD.Arg → FRes := runDef (md.gam g_law_frac) ⟨3, b_law_frac⟩
def N_law_is_frac : List Str := ["told"]
def b_law_is_frac : Sts := (.cons (.if_ (.or_ (.not_ (.isi (.var 0) [.ty "tuple"] false)) (.cmp .ne (.bfn .len (.cons (.var 0) .nil)) (.lit (.int (2))))) (.cons (.ret (.lit (.bl false))) .nil) .nil) (.cons (.if_ (.or_ (.not_ (.tru (.call 0 (.cons (.idx (.var 0) (.lit (.int (0)))) .nil)))) (.not_ (.tru (.call 0 (.cons (.idx (.var 0) (.lit (.int (1)))) .nil))))) (.cons (.ret (.lit (.bl false))) .nil) .nil) (.cons (.ret (.and_ (.cmp .ge (.idx (.var 0) (.lit (.int (1)))) (.lit (.int (1)))) (.cmp .eq (.call 1 (.cons (.idx (.var 0) (.lit (.int (0)))) (.cons (.idx (.var 0) (.lit (.int (1)))) .nil))) (.lit (.int (1)))))) .nil)))
def t_law_is_frac : List (Str × Nat) := [("_law_whole", 1), ("_law_gcd", 2)]
noncomputable def g_law_is_frac : List FnI := [⟨[false], [], f_law_whole⟩, ⟨[false, false], [], f_law_gcd⟩]
noncomputable def f_law_is_frac : List PD.Arg → FRes := runDef (md.gam g_law_is_frac) ⟨1, b_law_is_frac⟩
def N_law_line : List Str := ["row", "x"]
def b_law_line : Sts := (.cons (.ret (.join (.lit (.str ",")) (.lc [1] (.nm 1) (.seq (.var 0)) (.lit (.bl true)) (.call 0 (.cons (.var 1) .nil))))) .nil)
def t_law_line : List (Str × Nat) := [("_law_written", 1)]
noncomputable def g_law_line : List FnI := [⟨[false], [], f_law_written⟩]
noncomputable def f_law_line : List PD.Arg → FRes := runDef (md.gam g_law_line) ⟨2, b_law_line⟩
def N_law_run : List Str := ["text", "spot", "end", "turn"]
def lp0_law_run : Sts := (.cons (.if_ (.not_ (.tru (.call 0 (.cons (.var 0) (.cons (.var 2) .nil))))) (.cons (.ret (.var 2)) .nil) .nil) (.cons (.asg (.nm 2) (.bin .add (.var 2) (.lit (.int (1))))) .nil))
def b_law_run : Sts := (.cons (.asg (.nm 2) (.var 1)) (.cons (.for_ (.nm 3) (.rng1 (.bfn .len (.cons (.var 0) .nil))) lp0_law_run) (.cons (.ret (.var 2)) .nil)))
def t_law_run : List (Str × Nat) := [("_law_is_figure", 2)]
noncomputable def g_law_run : List FnI := [⟨[false, false], [], f_law_is_figure⟩]
noncomputable def f_law_run : List PD.Arg → FRes := runDef (md.gam g_law_run) ⟨4, b_law_run⟩
def N_law_bent : List Str := ["well", "text", "signs", "place", "sign", "word"]
def b_law_bent : Sts := (.cons (.asg (.nm 2) (.lit (.str "0123456789-/,; +|.
"))) (.cons (.asg (.nm 3) (.bin .mod (.bfn .int (.cons (.bin .add (.bin .mul (.call 0 (.cons (.var 0) (.cons (.lit (.int (60))) .nil))) (.lit (.int (60)))) (.call 0 (.cons (.var 0) (.cons (.lit (.int (60))) .nil)))) .nil)) (.bin .add (.bfn .len (.cons (.var 1) .nil)) (.lit (.int (1)))))) (.cons (.asg (.nm 4) (.idx (.var 2) (.call 0 (.cons (.var 0) (.cons (.bfn .len (.cons (.var 2) .nil)) .nil))))) (.cons (.asg (.nm 5) (.call 0 (.cons (.var 0) (.cons (.lit (.int (3))) .nil)))) (.cons (.if_ (.cmp .eq (.var 5) (.lit (.int (0)))) (.cons (.ret (.bin .add (.bin .add (.slc (.var 1) .none_ (.var 3)) (.var 4)) (.slc (.var 1) (.var 3) .none_))) .nil) .nil) (.cons (.if_ (.cmp .eq (.var 5) (.lit (.int (1)))) (.cons (.ret (.bin .add (.slc (.var 1) .none_ (.var 3)) (.slc (.var 1) (.bin .add (.var 3) (.lit (.int (1)))) .none_))) .nil) .nil) (.cons (.ret (.bin .add (.bin .add (.slc (.var 1) .none_ (.var 3)) (.var 4)) (.slc (.var 1) (.bin .add (.var 3) (.lit (.int (1)))) .none_))) .nil)))))))
def t_law_bent : List (Str × Nat) := [("_law_pull", 2)]
noncomputable def g_law_bent : List FnI := [⟨[true, false], [], f_law_pull⟩]
noncomputable def f_law_bent : List PD.Arg → FRes := runDef (md.gam g_law_bent) ⟨6, b_law_bent⟩
def N_poly_text : List Str := ["p"]
def b_poly_text : Sts := (.cons (.ret (.ife (.cmp .gt (.bfn .len (.cons (.var 0) .nil)) (.lit (.int (0)))) (.call 0 (.cons (.var 0) .nil)) (.lit (.str "0")))) .nil)
def t_poly_text : List (Str × Nat) := [("numbers_text", 1)]
noncomputable def g_poly_text : List FnI := [⟨[false], [], f_numbers_text⟩]
noncomputable def f_poly_text : List PD.Arg → FRes := runDef (md.gam g_poly_text) ⟨1, b_poly_text⟩
def N_matrix_text : List Str := ["m", "line"]
def b_matrix_text : Sts := (.cons (.ret (.join (.lit (.str ";")) (.lc [1] (.nm 1) (.seq (.var 0)) (.lit (.bl true)) (.call 0 (.cons (.var 1) .nil))))) .nil)
def t_matrix_text : List (Str × Nat) := [("numbers_text", 1)]
noncomputable def g_matrix_text : List FnI := [⟨[false], [], f_numbers_text⟩]
noncomputable def f_matrix_text : List PD.Arg → FRes := runDef (md.gam g_matrix_text) ⟨2, b_matrix_text⟩
def N_scan_numbers : List Str := ["text", "start", "x", "end", "made"]
def b_scan_numbers : Sts := (.cons (.asg (.tp [2, 3]) (.call 0 (.cons (.var 0) (.cons (.var 1) .nil)))) (.cons (.asg (.nm 4) (.lst (.cons (.var 2) .nil))) (.cons (.whl (.and_ (.cmp .lt (.var 3) (.bfn .len (.cons (.var 0) .nil))) (.cmp .eq (.idx (.var 0) (.var 3)) (.lit (.str ",")))) (.cons (.asg (.tp [2, 3]) (.call 0 (.cons (.var 0) (.cons (.bin .add (.var 3) (.lit (.int (1)))) .nil)))) (.cons (.app 4 (.var 2)) .nil))) (.cons (.ret (.tup (.cons (.bfn .tuple (.cons (.var 4) .nil)) (.cons (.var 3) .nil)))) .nil))))
def t_scan_numbers : List (Str × Nat) := [("scan_number", 2)]
noncomputable def g_scan_numbers : List FnI := [⟨[false, false], [], f_scan_number⟩]
noncomputable def f_scan_numbers : List PD.Arg → FRes := runDef (md.gam g_scan_numbers) ⟨5, b_scan_numbers⟩
def N_read_number : List Str := ["text", "x", "end"]
def b_read_number : Sts := (.cons (.asg (.tp [1, 2]) (.call 0 (.cons (.call 1 (.cons (.var 0) .nil)) (.cons (.lit (.int (0))) .nil)))) (.cons (.if_ (.cmp .lt (.var 2) (.bfn .len (.cons (.var 0) .nil))) (.cons (.raisf "BadText" "place" (.var 2)) .nil) .nil) (.cons (.ret (.var 1)) .nil)))
def t_read_number : List (Str × Nat) := [("scan_number", 2), ("check_text", 1)]
noncomputable def g_read_number : List FnI := [⟨[false, false], [], f_scan_number⟩, ⟨[false], [], f_check_text⟩]
noncomputable def f_read_number : List PD.Arg → FRes := runDef (md.gam g_read_number) ⟨3, b_read_number⟩
def N_law_is_row : List Str := ["told", "one"]
def lp0_law_is_row : Sts := (.cons (.if_ (.not_ (.tru (.call 0 (.cons (.var 1) .nil)))) (.cons (.ret (.lit (.bl false))) .nil) .nil) .nil)
def b_law_is_row : Sts := (.cons (.if_ (.not_ (.isi (.var 0) [.ty "tuple"] false)) (.cons (.ret (.lit (.bl false))) .nil) .nil) (.cons (.for_ (.nm 1) (.seq (.var 0)) lp0_law_is_row) (.cons (.ret (.lit (.bl true))) .nil)))
def t_law_is_row : List (Str × Nat) := [("_law_is_frac", 1)]
noncomputable def g_law_is_row : List FnI := [⟨[false], [], f_law_is_frac⟩]
noncomputable def f_law_is_row : List PD.Arg → FRes := runDef (md.gam g_law_is_row) ⟨2, b_law_is_row⟩
def N_law_number : List Str := ["well", "word", "top"]
def b_law_number : Sts := (.cons (.asg (.nm 1) (.call 0 (.cons (.var 0) (.cons (.lit (.int (12))) .nil)))) (.cons (.asg (.nm 2) (.idx (.lst (.cons (.lit (.int (1))) (.cons (.lit (.int (2))) (.cons (.lit (.int (0))) (.cons (.neg (.lit (.int (1)))) (.cons (.lit (.int (3))) (.cons (.neg (.lit (.int (2)))) (.cons (.lit (.int (5))) (.cons (.lit (.int (1))) (.cons (.neg (.lit (.int (3)))) (.cons (.lit (.int (7))) (.cons (.neg (.lit (.int (1)))) (.cons (.lit (.int (4))) .nil))))))))))))) (.call 0 (.cons (.var 0) (.cons (.lit (.int (12))) .nil))))) (.cons (.if_ (.cmp .lt (.var 1) (.lit (.int (5)))) (.cons (.ret (.tup (.cons (.var 2) (.cons (.lit (.int (1))) .nil)))) .nil) .nil) (.cons (.if_ (.cmp .lt (.var 1) (.lit (.int (8)))) (.cons (.ret (.call 1 (.cons (.var 2) (.cons (.lit (.int (2))) .nil)))) .nil) .nil) (.cons (.if_ (.cmp .lt (.var 1) (.lit (.int (10)))) (.cons (.ret (.call 1 (.cons (.var 2) (.cons (.bin .add (.lit (.int (3))) (.call 0 (.cons (.var 0) (.cons (.lit (.int (5))) .nil)))) .nil)))) .nil) .nil) (.cons (.if_ (.cmp .eq (.var 1) (.lit (.int (10)))) (.cons (.ret (.call 1 (.cons (.bin .add (.bin .mul (.var 2) (.lit (.int (60)))) (.call 0 (.cons (.var 0) (.cons (.lit (.int (60))) .nil)))) (.cons (.bin .add (.lit (.int (1))) (.call 0 (.cons (.var 0) (.cons (.lit (.int (60))) .nil)))) .nil)))) .nil) .nil) (.cons (.ret (.call 1 (.cons (.bin .add (.bin .mul (.var 2) (.bin .pow (.lit (.int (10))) (.lit (.int (20))))) (.lit (.int (1)))) (.cons (.bin .add (.bin .pow (.lit (.int (10))) (.lit (.int (19)))) (.bin .mul (.lit (.int (7))) (.call 0 (.cons (.var 0) (.cons (.lit (.int (60))) .nil))))) .nil)))) .nil)))))))
def t_law_number : List (Str × Nat) := [("_law_pull", 2), ("_law_frac", 2)]
noncomputable def g_law_number : List FnI := [⟨[true, false], [], f_law_pull⟩, ⟨[false, false], [], f_law_frac⟩]
noncomputable def f_law_number : List PD.Arg → FRes := runDef (md.gam g_law_number) ⟨3, b_law_number⟩
def N_law_scan : List Str := ["text", "start", "spot", "negative", "end", "last", "low", "top", "bottom"]
def b_law_scan : Sts := (.cons (.asg (.nm 2) (.var 1)) (.cons (.asg (.nm 3) (.cmp .eq (.slc (.var 0) (.var 2) (.bin .add (.var 2) (.lit (.int (1))))) (.lit (.str "-")))) (.cons (.if_ (.tru (.var 3)) (.cons (.asg (.nm 2) (.bin .add (.var 2) (.lit (.int (1))))) .nil) .nil) (.cons (.if_ (.not_ (.tru (.call 0 (.cons (.var 0) (.cons (.var 2) .nil))))) (.cons (.ret (.tup (.cons (.lit (.str "bad")) (.cons (.var 2) (.cons (.lit (.int (0))) .nil))))) .nil) .nil) (.cons (.if_ (.cmp .eq (.idx (.var 0) (.var 2)) (.lit (.str "0"))) (.cons (.if_ (.tru (.var 3)) (.cons (.ret (.tup (.cons (.lit (.str "bad")) (.cons (.var 2) (.cons (.lit (.int (0))) .nil))))) .nil) .nil) (.cons (.ret (.tup (.cons (.lit (.str "told")) (.cons (.tup (.cons (.lit (.int (0))) (.cons (.lit (.int (1))) .nil))) (.cons (.bin .add (.var 2) (.lit (.int (1)))) .nil))))) .nil)) .nil) (.cons (.asg (.nm 4) (.call 1 (.cons (.var 0) (.cons (.var 2) .nil)))) (.cons (.asg (.nm 5) (.var 4)) (.cons (.asg (.nm 6) (.lit (.str "1"))) (.cons (.if_ (.cmp .eq (.slc (.var 0) (.var 4) (.bin .add (.var 4) (.lit (.int (1))))) (.lit (.str "/"))) (.cons (.if_ (.or_ (.not_ (.tru (.call 0 (.cons (.var 0) (.cons (.bin .add (.var 4) (.lit (.int (1)))) .nil))))) (.cmp .eq (.idx (.var 0) (.bin .add (.var 4) (.lit (.int (1))))) (.lit (.str "0")))) (.cons (.ret (.tup (.cons (.lit (.str "bad")) (.cons (.bin .add (.var 4) (.lit (.int (1)))) (.cons (.lit (.int (0))) .nil))))) .nil) .nil) (.cons (.asg (.nm 5) (.call 1 (.cons (.var 0) (.cons (.bin .add (.var 4) (.lit (.int (1)))) .nil)))) (.cons (.asg (.nm 6) (.slc (.var 0) (.bin .add (.var 4) (.lit (.int (1)))) (.var 5))) .nil))) .nil) (.cons (.if_ (.or_ (.cmp .gt (.bin .sub (.var 4) (.var 2)) (.lit (.int (400)))) (.cmp .gt (.bfn .len (.cons (.var 6) .nil)) (.lit (.int (400))))) (.cons (.ret (.tup (.cons (.lit (.str "large")) (.cons (.lit (.str "figures")) (.cons (.lit (.int (0))) .nil))))) .nil) .nil) (.cons (.asg (.nm 7) (.bfn .int (.cons (.slc (.var 0) (.var 2) (.var 4)) .nil))) (.cons (.asg (.nm 8) (.bfn .int (.cons (.var 6) .nil))) (.cons (.if_ (.and_ (.cmp .gt (.var 5) (.var 4)) (.or_ (.cmp .eq (.var 8) (.lit (.int (1)))) (.cmp .gt (.call 2 (.cons (.var 7) (.cons (.var 8) .nil))) (.lit (.int (1)))))) (.cons (.ret (.tup (.cons (.lit (.str "bad")) (.cons (.bin .sub (.var 5) (.lit (.int (1)))) (.cons (.lit (.int (0))) .nil))))) .nil) .nil) (.cons (.if_ (.tru (.var 3)) (.cons (.asg (.nm 7) (.neg (.var 7))) .nil) .nil) (.cons (.ret (.tup (.cons (.lit (.str "told")) (.cons (.tup (.cons (.var 7) (.cons (.var 8) .nil))) (.cons (.var 5) .nil))))) .nil)))))))))))))))
def t_law_scan : List (Str × Nat) := [("_law_is_figure", 2), ("_law_run", 2), ("_law_gcd", 2)]
noncomputable def g_law_scan : List FnI := [⟨[false, false], [], f_law_is_figure⟩, ⟨[false, false], [], f_law_run⟩, ⟨[false, false], [], f_law_gcd⟩]
noncomputable def f_law_scan : List PD.Arg → FRes := runDef (md.gam g_law_scan) ⟨9, b_law_scan⟩
def N_scan_poly : List Str := ["text", "start", "made", "end"]
def b_scan_poly : Sts := (.cons (.asg (.tp [2, 3]) (.call 0 (.cons (.var 0) (.cons (.var 1) .nil)))) (.cons (.if_ (.and_ (.cmp .eq (.bfn .len (.cons (.var 2) .nil)) (.lit (.int (1)))) (.cmp .eq (.idx (.var 2) (.lit (.int (0)))) (.glo 0))) (.cons (.ret (.tup (.cons (.tup .nil) (.cons (.var 3) .nil)))) .nil) .nil) (.cons (.if_ (.cmp .eq (.idx (.var 2) (.neg (.lit (.int (1))))) (.glo 0)) (.cons (.raisf "BadText" "place" (.bin .sub (.var 3) (.lit (.int (1))))) .nil) .nil) (.cons (.if_ (.cmp .gt (.bfn .len (.cons (.var 2) .nil)) (.bin .add (.glo 1) (.lit (.int (1))))) (.cons (.raisf "TooLarge" "what" (.lit (.str "degree"))) .nil) .nil) (.cons (.ret (.tup (.cons (.var 2) (.cons (.var 3) .nil)))) .nil)))))
def t_scan_poly : List (Str × Nat) := [("scan_numbers", 2)]
noncomputable def g_scan_poly : List FnI := [⟨[false, false], [], f_scan_numbers⟩]
noncomputable def f_scan_poly : List PD.Arg → FRes := runDef (md.gam g_scan_poly) ⟨4, b_scan_poly⟩
def N_scan_matrix : List Str := ["text", "start", "line", "end", "size", "made"]
def b_scan_matrix : Sts := (.cons (.asg (.tp [2, 3]) (.call 0 (.cons (.var 0) (.cons (.var 1) .nil)))) (.cons (.asg (.nm 4) (.bfn .len (.cons (.var 2) .nil))) (.cons (.asg (.nm 5) (.lst (.cons (.var 2) .nil))) (.cons (.whl (.and_ (.cmp .lt (.var 3) (.bfn .len (.cons (.var 0) .nil))) (.cmp .eq (.idx (.var 0) (.var 3)) (.lit (.str ";")))) (.cons (.if_ (.cmp .eq (.bfn .len (.cons (.var 5) .nil)) (.var 4)) (.cons (.raisf "BadText" "place" (.var 3)) .nil) .nil) (.cons (.asg (.tp [2, 3]) (.call 0 (.cons (.var 0) (.cons (.bin .add (.var 3) (.lit (.int (1)))) .nil)))) (.cons (.if_ (.cmp .ne (.bfn .len (.cons (.var 2) .nil)) (.var 4)) (.cons (.raisf "BadText" "place" (.var 3)) .nil) .nil) (.cons (.app 5 (.var 2)) .nil))))) (.cons (.if_ (.cmp .lt (.bfn .len (.cons (.var 5) .nil)) (.var 4)) (.cons (.raisf "BadText" "place" (.var 3)) .nil) .nil) (.cons (.if_ (.cmp .gt (.var 4) (.glo 4)) (.cons (.raisf "TooLarge" "what" (.lit (.str "size"))) .nil) .nil) (.cons (.ret (.tup (.cons (.bfn .tuple (.cons (.var 5) .nil)) (.cons (.var 3) .nil)))) .nil)))))))
def t_scan_matrix : List (Str × Nat) := [("scan_numbers", 2)]
noncomputable def g_scan_matrix : List FnI := [⟨[false, false], [], f_scan_numbers⟩]
noncomputable def f_scan_matrix : List PD.Arg → FRes := runDef (md.gam g_scan_matrix) ⟨6, b_scan_matrix⟩
def N_law_numbers : List Str := ["text", "start", "found", "spot", "turn", "got"]
def lp0_law_numbers : Sts := (.cons (.asg (.nm 5) (.call 0 (.cons (.var 0) (.cons (.var 3) .nil)))) (.cons (.if_ (.cmp .ne (.idx (.var 5) (.lit (.int (0)))) (.lit (.str "told"))) (.cons (.ret (.var 5)) .nil) .nil) (.cons (.app 2 (.idx (.var 5) (.lit (.int (1))))) (.cons (.asg (.nm 3) (.idx (.var 5) (.lit (.int (2))))) (.cons (.if_ (.cmp .ne (.slc (.var 0) (.var 3) (.bin .add (.var 3) (.lit (.int (1))))) (.lit (.str ","))) (.cons (.ret (.tup (.cons (.lit (.str "told")) (.cons (.bfn .tuple (.cons (.var 2) .nil)) (.cons (.var 3) .nil))))) .nil) .nil) (.cons (.asg (.nm 3) (.bin .add (.var 3) (.lit (.int (1))))) .nil))))))
def b_law_numbers : Sts := (.cons (.asg (.nm 2) (.lst .nil)) (.cons (.asg (.nm 3) (.var 1)) (.cons (.for_ (.nm 4) (.rng1 (.bin .add (.bfn .len (.cons (.var 0) .nil)) (.lit (.int (1))))) lp0_law_numbers) (.cons (.ret (.tup (.cons (.lit (.str "bad")) (.cons (.lit (.int (0))) (.cons (.lit (.int (0))) .nil))))) .nil))))
def t_law_numbers : List (Str × Nat) := [("_law_scan", 2)]
noncomputable def g_law_numbers : List FnI := [⟨[false, false], [], f_law_scan⟩]
noncomputable def f_law_numbers : List PD.Arg → FRes := runDef (md.gam g_law_numbers) ⟨6, b_law_numbers⟩
def N_law_is_matrix : List Str := ["told", "row"]
def lp0_law_is_matrix : Sts := (.cons (.if_ (.not_ (.tru (.call 0 (.cons (.var 1) .nil)))) (.cons (.ret (.lit (.bl false))) .nil) .nil) .nil)
def b_law_is_matrix : Sts := (.cons (.if_ (.not_ (.isi (.var 0) [.ty "tuple"] false)) (.cons (.ret (.lit (.bl false))) .nil) .nil) (.cons (.for_ (.nm 1) (.seq (.var 0)) lp0_law_is_matrix) (.cons (.ret (.lit (.bl true))) .nil)))
def t_law_is_matrix : List (Str × Nat) := [("_law_is_row", 1)]
noncomputable def g_law_is_matrix : List FnI := [⟨[false], [], f_law_is_row⟩]
noncomputable def f_law_is_matrix : List PD.Arg → FRes := runDef (md.gam g_law_is_matrix) ⟨2, b_law_is_matrix⟩
def N_read_poly : List Str := ["text", "p", "end"]
def b_read_poly : Sts := (.cons (.asg (.tp [1, 2]) (.call 0 (.cons (.call 1 (.cons (.var 0) .nil)) (.cons (.lit (.int (0))) .nil)))) (.cons (.if_ (.cmp .lt (.var 2) (.bfn .len (.cons (.var 0) .nil))) (.cons (.raisf "BadText" "place" (.var 2)) .nil) .nil) (.cons (.ret (.var 1)) .nil)))
def t_read_poly : List (Str × Nat) := [("scan_poly", 2), ("check_text", 1)]
noncomputable def g_read_poly : List FnI := [⟨[false, false], [], f_scan_poly⟩, ⟨[false], [], f_check_text⟩]
noncomputable def f_read_poly : List PD.Arg → FRes := runDef (md.gam g_read_poly) ⟨3, b_read_poly⟩
def N_read_matrix : List Str := ["text", "m", "end"]
def b_read_matrix : Sts := (.cons (.asg (.tp [1, 2]) (.call 0 (.cons (.call 1 (.cons (.var 0) .nil)) (.cons (.lit (.int (0))) .nil)))) (.cons (.if_ (.cmp .lt (.var 2) (.bfn .len (.cons (.var 0) .nil))) (.cons (.raisf "BadText" "place" (.var 2)) .nil) .nil) (.cons (.ret (.var 1)) .nil)))
def t_read_matrix : List (Str × Nat) := [("scan_matrix", 2), ("check_text", 1)]
noncomputable def g_read_matrix : List FnI := [⟨[false, false], [], f_scan_matrix⟩, ⟨[false], [], f_check_text⟩]
noncomputable def f_read_matrix : List PD.Arg → FRes := runDef (md.gam g_read_matrix) ⟨3, b_read_matrix⟩
def N_law_poly_due : List Str := ["text", "got", "row"]
def b_law_poly_due : Sts := (.cons (.asg (.nm 1) (.call 0 (.cons (.var 0) (.cons (.lit (.int (0))) .nil)))) (.cons (.if_ (.cmp .ne (.idx (.var 1) (.lit (.int (0)))) (.lit (.str "told"))) (.cons (.ret (.var 1)) .nil) .nil) (.cons (.asg (.nm 2) (.idx (.var 1) (.lit (.int (1))))) (.cons (.if_ (.and_ (.cmp .gt (.bfn .len (.cons (.var 2) .nil)) (.lit (.int (1)))) (.cmp .eq (.idx (.idx (.var 2) (.bin .sub (.bfn .len (.cons (.var 2) .nil)) (.lit (.int (1))))) (.lit (.int (0)))) (.lit (.int (0))))) (.cons (.ret (.tup (.cons (.lit (.str "bad")) (.cons (.bin .sub (.idx (.var 1) (.lit (.int (2)))) (.lit (.int (1)))) (.cons (.lit (.int (0))) .nil))))) .nil) .nil) (.cons (.if_ (.cmp .gt (.bfn .len (.cons (.var 2) .nil)) (.lit (.int (41)))) (.cons (.ret (.tup (.cons (.lit (.str "large")) (.cons (.lit (.str "degree")) (.cons (.lit (.int (0))) .nil))))) .nil) .nil) (.cons (.ret (.tup (.cons (.lit (.str "told")) (.cons (.call 1 (.cons (.var 2) .nil)) (.cons (.idx (.var 1) (.lit (.int (2)))) .nil))))) .nil))))))
def t_law_poly_due : List (Str × Nat) := [("_law_numbers", 2), ("_law_trim", 1)]
noncomputable def g_law_poly_due : List FnI := [⟨[false, false], [], f_law_numbers⟩, ⟨[false], [], f_law_trim⟩]
noncomputable def f_law_poly_due : List PD.Arg → FRes := runDef (md.gam g_law_poly_due) ⟨3, b_law_poly_due⟩
def N_law_matrix_due : List Str := ["text", "got", "size", "rows", "turn", "spot"]
def lp0_law_matrix_due : Sts := (.cons (.asg (.nm 5) (.idx (.var 1) (.lit (.int (2))))) (.cons (.if_ (.cmp .eq (.slc (.var 0) (.var 5) (.bin .add (.var 5) (.lit (.int (1))))) (.lit (.str ";"))) (.cons (.if_ (.cmp .eq (.bfn .len (.cons (.var 3) .nil)) (.var 2)) (.cons (.ret (.tup (.cons (.lit (.str "bad")) (.cons (.var 5) (.cons (.lit (.int (0))) .nil))))) .nil) .nil) (.cons (.asg (.nm 1) (.call 0 (.cons (.var 0) (.cons (.bin .add (.var 5) (.lit (.int (1)))) .nil)))) (.cons (.if_ (.cmp .ne (.idx (.var 1) (.lit (.int (0)))) (.lit (.str "told"))) (.cons (.ret (.var 1)) .nil) .nil) (.cons (.if_ (.cmp .ne (.bfn .len (.cons (.idx (.var 1) (.lit (.int (1)))) .nil)) (.var 2)) (.cons (.ret (.tup (.cons (.lit (.str "bad")) (.cons (.idx (.var 1) (.lit (.int (2)))) (.cons (.lit (.int (0))) .nil))))) .nil) .nil) (.cons (.app 3 (.idx (.var 1) (.lit (.int (1))))) .nil))))) .nil) .nil))
def b_law_matrix_due : Sts := (.cons (.asg (.nm 1) (.call 0 (.cons (.var 0) (.cons (.lit (.int (0))) .nil)))) (.cons (.if_ (.cmp .ne (.idx (.var 1) (.lit (.int (0)))) (.lit (.str "told"))) (.cons (.ret (.var 1)) .nil) .nil) (.cons (.asg (.nm 2) (.bfn .len (.cons (.idx (.var 1) (.lit (.int (1)))) .nil))) (.cons (.asg (.nm 3) (.lst (.cons (.idx (.var 1) (.lit (.int (1)))) .nil))) (.cons (.for_ (.nm 4) (.rng1 (.bfn .len (.cons (.var 0) .nil))) lp0_law_matrix_due) (.cons (.if_ (.cmp .lt (.bfn .len (.cons (.var 3) .nil)) (.var 2)) (.cons (.ret (.tup (.cons (.lit (.str "bad")) (.cons (.idx (.var 1) (.lit (.int (2)))) (.cons (.lit (.int (0))) .nil))))) .nil) .nil) (.cons (.if_ (.cmp .gt (.var 2) (.lit (.int (30)))) (.cons (.ret (.tup (.cons (.lit (.str "large")) (.cons (.lit (.str "size")) (.cons (.lit (.int (0))) .nil))))) .nil) .nil) (.cons (.ret (.tup (.cons (.lit (.str "told")) (.cons (.bfn .tuple (.cons (.var 3) .nil)) (.cons (.idx (.var 1) (.lit (.int (2)))) .nil))))) .nil))))))))
def t_law_matrix_due : List (Str × Nat) := [("_law_numbers", 2)]
noncomputable def g_law_matrix_due : List FnI := [⟨[false, false], [], f_law_numbers⟩]
noncomputable def f_law_matrix_due : List PD.Arg → FRes := runDef (md.gam g_law_matrix_due) ⟨6, b_law_matrix_due⟩
def N_law_due : List Str := ["door", "text", "got"]
def b_law_due : Sts := (.cons (.if_ (.not_ (.isi (.var 1) [.ty "str"] false)) (.cons (.ret (.tup (.cons (.lit (.str "bad")) (.cons (.lit (.int (0))) (.cons (.lit (.int (0))) .nil))))) .nil) .nil) (.cons (.if_ (.cmp .eq (.var 0) (.lit (.int (0)))) (.cons (.asg (.nm 2) (.call 0 (.cons (.var 1) (.cons (.lit (.int (0))) .nil)))) .nil) (.cons (.if_ (.cmp .eq (.var 0) (.lit (.int (1)))) (.cons (.asg (.nm 2) (.call 1 (.cons (.var 1) .nil))) .nil) (.cons (.asg (.nm 2) (.call 2 (.cons (.var 1) .nil))) .nil)) .nil)) (.cons (.if_ (.and_ (.cmp .eq (.idx (.var 2) (.lit (.int (0)))) (.lit (.str "told"))) (.cmp .lt (.idx (.var 2) (.lit (.int (2)))) (.bfn .len (.cons (.var 1) .nil)))) (.cons (.ret (.tup (.cons (.lit (.str "bad")) (.cons (.idx (.var 2) (.lit (.int (2)))) (.cons (.lit (.int (0))) .nil))))) .nil) .nil) (.cons (.ret (.var 2)) .nil))))
def t_law_due : List (Str × Nat) := [("_law_scan", 2), ("_law_poly_due", 1), ("_law_matrix_due", 1)]
noncomputable def g_law_due : List FnI := [⟨[false, false], [], f_law_scan⟩, ⟨[false], [], f_law_poly_due⟩, ⟨[false], [], f_law_matrix_due⟩]
noncomputable def f_law_due : List PD.Arg → FRes := runDef (md.gam g_law_due) ⟨3, b_law_due⟩
def N_law_asked : List Str := ["door", "text", "asked", "fault"]
def b_law_asked : Sts := (.cons (.asg (.nm 2) (.tup (.cons (.lit (.str "odd")) (.cons (.lit (.int (0))) .nil)))) (.cons (.try_ (.cons (.if_ (.cmp .eq (.var 0) (.lit (.int (0)))) (.cons (.asg (.nm 2) (.tup (.cons (.lit (.str "told")) (.cons (.call 0 (.cons (.var 1) .nil)) .nil)))) .nil) (.cons (.if_ (.cmp .eq (.var 0) (.lit (.int (1)))) (.cons (.asg (.nm 2) (.tup (.cons (.lit (.str "told")) (.cons (.call 1 (.cons (.var 1) .nil)) .nil)))) .nil) (.cons (.asg (.nm 2) (.tup (.cons (.lit (.str "told")) (.cons (.call 2 (.cons (.var 1) .nil)) .nil)))) .nil)) .nil)) .nil) (.cons ["BadNumber", "BadPoly", "BadMatrix"] true none (.cons (.asg (.nm 2) (.tup (.cons (.lit (.str "odd")) (.cons (.lit (.int (0))) .nil)))) .nil) (.cons ["BadText"] false (some 3) (.cons (.asg (.nm 2) (.tup (.cons (.lit (.str "bad")) (.cons (.xfld 3 "place") (.cons (.and_ (.isx 3 ["RunsError"] false) (.not_ (.isx 3 ["TooLarge"] false))) .nil))))) .nil) (.cons ["TooLarge"] false (some 3) (.cons (.asg (.nm 2) (.tup (.cons (.lit (.str "large")) (.cons (.xfld 3 "what") (.cons (.isx 3 ["RunsError"] false) .nil))))) .nil) .nil)))) (.cons (.ret (.var 2)) .nil)))
def t_law_asked : List (Str × Nat) := [("read_number", 1), ("read_poly", 1), ("read_matrix", 1)]
noncomputable def g_law_asked : List FnI := [⟨[false], [], f_read_number⟩, ⟨[false], [], f_read_poly⟩, ⟨[false], [], f_read_matrix⟩]
noncomputable def f_law_asked : List PD.Arg → FRes := runDef (md.gam g_law_asked) ⟨4, b_law_asked⟩
def N_law_read : List Str := ["door", "text", "due", "asked"]
def b_law_read : Sts := (.cons (.asg (.nm 2) (.call 0 (.cons (.var 0) (.cons (.var 1) .nil)))) (.cons (.asg (.nm 3) (.call 1 (.cons (.var 0) (.cons (.var 1) .nil)))) (.cons (.if_ (.cmp .ne (.idx (.var 3) (.lit (.int (0)))) (.idx (.var 2) (.lit (.int (0))))) (.cons (.ret (.lit (.bl false))) .nil) .nil) (.cons (.if_ (.cmp .eq (.idx (.var 2) (.lit (.int (0)))) (.lit (.str "bad"))) (.cons (.ret (.and_ (.call 2 (.cons (.idx (.var 3) (.lit (.int (1)))) .nil)) (.and_ (.cmp .eq (.idx (.var 3) (.lit (.int (1)))) (.idx (.var 2) (.lit (.int (1))))) (.cmp .is_ (.idx (.var 3) (.lit (.int (2)))) (.lit (.bl true)))))) .nil) .nil) (.cons (.if_ (.cmp .eq (.idx (.var 2) (.lit (.int (0)))) (.lit (.str "large"))) (.cons (.ret (.and_ (.isi (.idx (.var 3) (.lit (.int (1)))) [.ty "str"] false) (.and_ (.cmp .eq (.idx (.var 3) (.lit (.int (1)))) (.idx (.var 2) (.lit (.int (1))))) (.cmp .is_ (.idx (.var 3) (.lit (.int (2)))) (.lit (.bl true)))))) .nil) .nil) (.cons (.if_ (.cmp .eq (.var 0) (.lit (.int (0)))) (.cons (.ret (.and_ (.call 3 (.cons (.idx (.var 3) (.lit (.int (1)))) .nil)) (.cmp .eq (.idx (.var 3) (.lit (.int (1)))) (.idx (.var 2) (.lit (.int (1))))))) .nil) .nil) (.cons (.if_ (.cmp .eq (.var 0) (.lit (.int (1)))) (.cons (.ret (.and_ (.call 4 (.cons (.idx (.var 3) (.lit (.int (1)))) .nil)) (.cmp .eq (.idx (.var 3) (.lit (.int (1)))) (.idx (.var 2) (.lit (.int (1))))))) .nil) .nil) (.cons (.ret (.and_ (.call 5 (.cons (.idx (.var 3) (.lit (.int (1)))) .nil)) (.cmp .eq (.idx (.var 3) (.lit (.int (1)))) (.idx (.var 2) (.lit (.int (1))))))) .nil))))))))
def t_law_read : List (Str × Nat) := [("_law_due", 2), ("_law_asked", 2), ("_law_whole", 1), ("_law_is_frac", 1), ("_law_is_row", 1), ("_law_is_matrix", 1)]
noncomputable def g_law_read : List FnI := [⟨[false, false], [], f_law_due⟩, ⟨[false, false], [], f_law_asked⟩, ⟨[false], [], f_law_whole⟩, ⟨[false], [], f_law_is_frac⟩, ⟨[false], [], f_law_is_row⟩, ⟨[false], [], f_law_is_matrix⟩]
noncomputable def f_law_read : List PD.Arg → FRes := runDef (md.gam g_law_read) ⟨4, b_law_read⟩
def N_law_edges : List Str := ["nines", "text", "many", "thing"]
def lp0_law_edges : Sts := (.cons (.if_ (.or_ (.not_ (.tru (.call 0 (.cons (.lit (.int (0))) (.cons (.var 1) .nil))))) (.or_ (.not_ (.tru (.call 0 (.cons (.lit (.int (1))) (.cons (.bin .add (.lit (.str "1,")) (.var 1)) .nil))))) (.not_ (.tru (.call 0 (.cons (.lit (.int (2))) (.cons (.var 1) .nil))))))) (.cons (.ret (.lit (.bl false))) .nil) .nil) .nil)
def lp1_law_edges : Sts := (.cons (.if_ (.or_ (.not_ (.tru (.call 0 (.cons (.lit (.int (0))) (.cons (.var 1) .nil))))) (.or_ (.not_ (.tru (.call 0 (.cons (.lit (.int (1))) (.cons (.var 1) .nil))))) (.not_ (.tru (.call 0 (.cons (.lit (.int (2))) (.cons (.var 1) .nil))))))) (.cons (.ret (.lit (.bl false))) .nil) .nil) .nil)
def lp2_law_edges : Sts := (.cons (.if_ (.or_ (.not_ (.tru (.call 0 (.cons (.lit (.int (2))) (.cons (.var 1) .nil))))) (.not_ (.tru (.call 0 (.cons (.lit (.int (1))) (.cons (.var 1) .nil)))))) (.cons (.ret (.lit (.bl false))) .nil) .nil) .nil)
def lp3_law_edges : Sts := (.cons (.if_ (.or_ (.not_ (.tru (.call 0 (.cons (.lit (.int (0))) (.cons (.var 3) .nil))))) (.or_ (.not_ (.tru (.call 0 (.cons (.lit (.int (1))) (.cons (.var 3) .nil))))) (.not_ (.tru (.call 0 (.cons (.lit (.int (2))) (.cons (.var 3) .nil))))))) (.cons (.ret (.lit (.bl false))) .nil) .nil) .nil)
def b_law_edges : Sts := (.cons (.asg (.nm 0) (.bin .mul (.lit (.str "9")) (.lit (.int (400))))) (.cons (.for_ (.nm 1) (.seq (.tup (.cons (.var 0) (.cons (.bin .add (.lit (.str "-")) (.var 0)) (.cons (.bin .add (.var 0) (.lit (.str "9"))) (.cons (.bin .add (.var 0) (.lit (.str "9x"))) (.cons (.bin .add (.lit (.str "1/")) (.var 0)) (.cons (.bin .add (.bin .add (.lit (.str "1/")) (.var 0)) (.lit (.str "9"))) (.cons (.bin .add (.bin .add (.lit (.str "2/")) (.var 0)) (.lit (.str "9/"))) (.cons (.lit (.str "-")) .nil)))))))))) lp0_law_edges) (.cons (.for_ (.nm 1) (.seq (.tup (.cons (.lit (.str "")) (.cons (.lit (.str "-0")) (.cons (.lit (.str "00")) (.cons (.lit (.str "0/3")) (.cons (.lit (.str "3/01")) (.cons (.lit (.str "2/4")) (.cons (.lit (.str "2/4x")) (.cons (.lit (.str "3/1")) (.cons (.lit (.str "-3/")) (.cons (.lit (.str "7/")) (.cons (.lit (.str "0")) (.cons (.lit (.str "-4/3")) (.cons (.lit (.str "1,0")) (.cons (.lit (.str "0,0")) (.cons (.lit (.str "1,,2")) (.cons (.lit (.str ",1")) .nil)))))))))))))))))) lp1_law_edges) (.cons (.for_ (.nm 1) (.seq (.tup (.cons (.lit (.str "1;2")) (.cons (.lit (.str "1,2;3,4")) (.cons (.lit (.str "1,2;3,4;5,6")) (.cons (.lit (.str "1,2;3")) (.cons (.lit (.str "1,2;3,4,5")) (.cons (.lit (.str "1,2")) (.cons (.lit (.str "0;")) (.cons (.lit (.str "1,0;0,1x")) (.cons (.lit (.str "1,0;2/4")) (.cons (.lit (.str ";1")) .nil)))))))))))) lp2_law_edges) (.cons (.asg (.nm 2) (.bin .mul (.lit (.str "1,")) (.lit (.int (40))))) (.cons (.if_ (.or_ (.not_ (.tru (.call 0 (.cons (.lit (.int (1))) (.cons (.bin .add (.var 2) (.lit (.str "1"))) .nil))))) (.or_ (.not_ (.tru (.call 0 (.cons (.lit (.int (1))) (.cons (.bin .add (.var 2) (.lit (.str "1,1"))) .nil))))) (.not_ (.tru (.call 0 (.cons (.lit (.int (1))) (.cons (.bin .add (.var 2) (.lit (.str "1,0"))) .nil))))))) (.cons (.ret (.lit (.bl false))) .nil) .nil) (.cons (.if_ (.or_ (.not_ (.tru (.call 0 (.cons (.lit (.int (1))) (.cons (.bin .add (.var 2) (.lit (.str "1,1;"))) .nil))))) (.not_ (.tru (.call 0 (.cons (.lit (.int (2))) (.cons (.bin .add (.var 2) (.lit (.str "1"))) .nil)))))) (.cons (.ret (.lit (.bl false))) .nil) .nil) (.cons (.for_ (.nm 3) (.seq (.tup (.cons (.lit (.non)) (.cons (.lit (.int (5))) (.cons (.lst (.cons (.lit (.str "1")) .nil)) (.cons (.tup (.cons (.lit (.str "1")) .nil)) (.cons (.lit (.bl true)) .nil))))))) lp3_law_edges) (.cons (.ret (.lit (.bl true))) .nil)))))))))
def t_law_edges : List (Str × Nat) := [("_law_read", 2)]
noncomputable def g_law_edges : List FnI := [⟨[false, false], [], f_law_read⟩]
noncomputable def f_law_edges : List PD.Arg → FRes := runDef (md.gam g_law_edges) ⟨4, b_law_edges⟩
def N_law_great : List Str := ["more", "line", "spot"]
def b_law_great : Sts := (.cons (.asg (.nm 1) (.join (.lit (.str ",")) (.lc [2] (.nm 2) (.rng1 (.bin .add (.lit (.int (30))) (.var 0))) (.lit (.bl true)) (.lit (.str "1"))))) (.cons (.ret (.call 0 (.cons (.lit (.int (2))) (.cons (.join (.lit (.str ";")) (.lc [2] (.nm 2) (.rng1 (.bin .add (.lit (.int (30))) (.var 0))) (.lit (.bl true)) (.var 1))) .nil)))) .nil))
def t_law_great : List (Str × Nat) := [("_law_read", 2)]
noncomputable def g_law_great : List FnI := [⟨[false, false], [], f_law_read⟩]
noncomputable def f_law_great : List PD.Arg → FRes := runDef (md.gam g_law_great) ⟨3, b_law_great⟩
def N_law : List Str := ["script", "well", "x", "p", "turn", "size", "m", "line", "texts", "row", "told", "door", "text", "again"]
def lp0_law : Sts := (.cons (.if_ (.or_ (.not_ (.isi (.idx (.var 10) (.var 11)) [.ty "str"] false)) (.or_ (.cmp .ne (.idx (.var 10) (.var 11)) (.idx (.var 8) (.var 11))) (.not_ (.tru (.call 9 (.cons (.var 11) (.cons (.idx (.var 10) (.var 11)) .nil))))))) (.cons (.ret (.lit (.bl false))) .nil) .nil) .nil)
def lp1_law : Sts := (.cons (.asg (.nm 12) (.call 11 (.cons (.var 1) (.cons (.var 12) .nil)))) .nil)
def lp2_law : Sts := (.cons (.asg (.nm 11) (.bin .mod (.bfn .int (.cons (.var 4) .nil)) (.lit (.int (3))))) (.cons (.asg (.nm 12) (.idx (.var 8) (.call 3 (.cons (.var 1) (.cons (.lit (.int (3))) .nil))))) (.cons (.if_ (.cmp .lt (.call 3 (.cons (.var 1) (.cons (.lit (.int (3))) .nil))) (.lit (.int (2)))) (.cons (.asg (.nm 12) (.idx (.var 8) (.var 11))) .nil) .nil) (.cons (.for_ (.nm 13) (.rng1 (.bin .add (.lit (.int (1))) (.call 3 (.cons (.var 1) (.cons (.lit (.int (2))) .nil))))) lp1_law) (.cons (.if_ (.not_ (.tru (.call 9 (.cons (.var 11) (.cons (.var 12) .nil))))) (.cons (.ret (.lit (.bl false))) .nil) .nil) .nil)))))
def b_law : Sts := (.cons (.asg (.nm 1) (.call 0 (.cons (.var 0) .nil))) (.cons (.asg (.nm 2) (.call 1 (.cons (.var 1) .nil))) (.cons (.asg (.nm 3) (.call 2 (.cons (.lc [4] (.nm 4) (.rng1 (.call 3 (.cons (.var 1) (.cons (.lit (.int (7))) .nil)))) (.lit (.bl true)) (.call 1 (.cons (.var 1) .nil))) .nil))) (.cons (.asg (.nm 5) (.bin .add (.lit (.int (1))) (.call 3 (.cons (.var 1) (.cons (.lit (.int (3))) .nil))))) (.cons (.asg (.nm 6) (.bfn .tuple (.cons (.lc [7] (.nm 7) (.rng1 (.var 5)) (.lit (.bl true)) (.bfn .tuple (.cons (.lc [4] (.nm 4) (.rng1 (.var 5)) (.lit (.bl true)) (.call 1 (.cons (.var 1) .nil))) .nil))) .nil))) (.cons (.asg (.nm 8) (.lst (.cons (.call 4 (.cons (.var 2) .nil)) (.cons (.call 5 (.cons (.var 3) .nil)) (.cons (.join (.lit (.str ";")) (.lc [9] (.nm 9) (.seq (.var 6)) (.lit (.bl true)) (.call 5 (.cons (.var 9) .nil)))) .nil))))) (.cons (.if_ (.cmp .eq (.bfn .len (.cons (.var 3) .nil)) (.lit (.int (0)))) (.cons (.six 8 (.lit (.int (1))) (.lit (.str "0"))) .nil) .nil) (.cons (.asg (.nm 10) (.lst (.cons (.call 6 (.cons (.var 2) .nil)) (.cons (.call 7 (.cons (.var 3) .nil)) (.cons (.call 8 (.cons (.var 6) .nil)) .nil))))) (.cons (.for_ (.nm 11) (.rng1 (.lit (.int (3)))) lp0_law) (.cons (.if_ (.or_ (.cmp .ne (.idx (.call 10 (.cons (.lit (.int (0))) (.cons (.idx (.var 8) (.lit (.int (0)))) .nil))) (.lit (.int (1)))) (.var 2)) (.or_ (.cmp .ne (.idx (.call 10 (.cons (.lit (.int (1))) (.cons (.idx (.var 8) (.lit (.int (1)))) .nil))) (.lit (.int (1)))) (.var 3)) (.cmp .ne (.idx (.call 10 (.cons (.lit (.int (2))) (.cons (.idx (.var 8) (.lit (.int (2)))) .nil))) (.lit (.int (1)))) (.var 6)))) (.cons (.ret (.lit (.bl false))) .nil) .nil) (.cons (.for_ (.nm 4) (.rng1 (.lit (.int (6)))) lp2_law) (.cons (.if_ (.and_ (.cmp .eq (.call 3 (.cons (.var 1) (.cons (.lit (.int (12))) .nil))) (.lit (.int (11)))) (.or_ (.not_ (.tru (.call 12 (.cons (.lit (.int (0))) .nil)))) (.not_ (.tru (.call 12 (.cons (.lit (.int (1))) .nil)))))) (.cons (.ret (.lit (.bl false))) .nil) .nil) (.cons (.ret (.call0 13)) .nil)))))))))))))
def t_law : List (Str × Nat) := [("_law_well", 1), ("_law_number", 1), ("_law_trim", 1), ("_law_pull", 2), ("_law_written", 1), ("_law_line", 1), ("number_text", 1), ("poly_text", 1), ("matrix_text", 1), ("_law_read", 2), ("_law_due", 2), ("_law_bent", 2), ("_law_great", 1), ("_law_edges", 0)]
noncomputable def g_law : List FnI := [⟨[false], [], f_law_well⟩, ⟨[true], [], f_law_number⟩, ⟨[false], [], f_law_trim⟩, ⟨[true, false], [], f_law_pull⟩, ⟨[false], [], f_law_written⟩, ⟨[false], [], f_law_line⟩, ⟨[false], [], f_number_text⟩, ⟨[false], [], f_poly_text⟩, ⟨[false], [], f_matrix_text⟩, ⟨[false, false], [], f_law_read⟩, ⟨[false, false], [], f_law_due⟩, ⟨[true, false], [], f_law_bent⟩, ⟨[false], [], f_law_great⟩, ⟨[], [], f_law_edges⟩]
noncomputable def f_law : List PD.Arg → FRes := runDef (md.gam g_law) ⟨14, b_law⟩
end K04

/-! K04Run -/
set_option Elab.async false
set_option linter.all false
set_option maxRecDepth 100000
set_option maxHeartbeats 0
/-! law_k04_whole_texts: the head run. -/
namespace K04
open PySem PySem.Spec PyProof.Rows PD L2

abbrev R : PySem.W.OpenRow := PySem.W.OpenLaw.row PySem.Challenge.rw_trueruns_k04_whole_texts
abbrev hk : PySem.W.Hook := hookP 4 (PySem.Challenge.rw_trueruns_k04_whole_texts).prog md
def ob (s : PySem.W.SharedT) : AlP := obsP 4 (PySem.Challenge.rw_trueruns_k04_whole_texts).prog md (HandSHeadRun.getT s)
theorem ob_eq (s : PySem.W.SharedT) : ob s = hk.obs s.abs := obsP_eq (HandSHeadRun.getT_eq s)
def names : List PySem.Str := (["number_text", "numbers_text", "poly_text", "matrix_text", "figures_end", "check_lowest", "scan_number", "scan_numbers", "scan_poly", "scan_matrix", "check_text", "read_number", "read_poly", "read_matrix", "_law_well", "_law_pull", "_law_gcd", "_law_frac", "_law_whole", "_law_is_frac", "_law_is_row", "_law_number", "_law_trim", "_law_written", "_law_line", "_law_is_figure", "_law_run", "_law_scan", "_law_numbers", "_law_poly_due"] : List PySem.Str) ++ (["_law_matrix_due", "_law_due", "_law_asked", "_law_is_matrix", "_law_read", "_law_bent", "_law_edges", "_law_great", "RunsError", "BadNumber", "BadPoly", "BadMatrix", "BadText", "TooLarge", "ZERO", "MOST_DEGREE", "FIGURES", "MOST_FIGURES", "MOST_SIZE", "gcd"] : List PySem.Str)
theorem run (w : World) : HandSHeadRun.RunEqI R (PySem.W.view R.prog [53]) hk ob 6000 names w := by
  unfold HandSHeadRun.RunEqI
  kernel_rfl
end K04

/-! PE1 -/
set_option Elab.async false
set_option linter.all false
set_option maxRecDepth 100000
set_option maxHeartbeats 4000000
/-! PE: rules that evaluate the small language by simp, from the left, nothing under a binder. -/
namespace PD
open PySem PySem.Spec PyProof.Rows L2
section
variable {α β : Type} {G : Gam} {ρ : Slots} {st : Store} {a : α} {k : α → Store → Res β} {x : XD}
@[simp] theorem Res.bind_ok' : (Res.ok a st).bind k = k a st := by rfl
@[simp] theorem Res.bind_exc' : (Res.exc x st : Res α).bind k = .exc x st := by rfl
@[simp] theorem Res.nox_ok' : (Res.ok a st).nox = .ok a st := by rfl
@[simp] theorem Res.sr_ok' {k : α → Store → SR} : (Res.ok a st).sr ρ k = k a st := by rfl
@[simp] theorem Res.sr_exc' {k : α → Store → SR} : (Res.exc x st : Res α).sr ρ k = .exc x ρ st := by rfl
@[simp] theorem pick_some' {k : α → Res β} : pick (some a) k = k a := by rfl
@[simp] theorem pickS_some' {k : α → SR} : pickS (some a) k = k a := by rfl
@[simp] theorem SR.bind_nx' {k : Slots → Store → SR} : (SR.nx ρ st).bind k = k ρ st := by rfl
@[simp] theorem SR.bind_rt' {d : D} {k : Slots → Store → SR} : (SR.rt d st).bind k = .rt d st := by rfl
@[simp] theorem SR.bind_rtl' {d : List D} {k : Slots → Store → SR} : (SR.rtl d st).bind k = .rtl d st := by rfl
@[simp] theorem SR.bind_bk' {k : Slots → Store → SR} : (SR.bk ρ st).bind k = .bk ρ st := by rfl
@[simp] theorem SR.bind_ct' {k : Slots → Store → SR} : (SR.ct ρ st).bind k = .ct ρ st := by rfl
@[simp] theorem SR.bind_exc' {k : Slots → Store → SR} : (SR.exc x ρ st).bind k = .exc x ρ st := by rfl
@[simp] theorem dr_fz {d : D} : dr st (.fz d) = some d := by rfl
@[simp] theorem dr_loc {n : Nat} : dr st (.loc n) = (st[n]?).map Cont.d := by
  show (match st[n]? with | some c => some c.d | none => none) = _
  cases st[n]? <;> rfl
@[simp] theorem Cont.d_lst {ds : List D} : (Cont.lst ds).d = .lst ds := by rfl
@[simp] theorem Cont.d_fz {d : D} : (Cont.fz d).d = d := by rfl
@[simp] theorem fr_fz {io : Nat} {d : D} : fr io (.fz d) st = .ok d st := by rfl
theorem fr_loc {io n : Nat} {ds : List D} (h : st[n]? = some (.lst ds)) (hi : io ≤ n) : fr io (.loc n) st = .ok (.lst ds) (st.set n (.fz (.lst ds))) := by
  unfold fr
  simp only [h]
  rw [if_pos hi]
  rfl
theorem fr_locf {io n : Nat} {d : D} (h : st[n]? = some (.fz d)) : fr io (.loc n) st = .ok d st := by
  unfold fr
  simp only [h]
@[simp] theorem opRes_d {d : D} : opRes (.d d) st = .ok (.fz d) st := by rfl
@[simp] theorem opRes_l {ds : List D} : opRes (.l ds) st = .ok (.loc st.length) (st ++ [.lst ds]) := by rfl
/-! operations -/
@[simp] theorem bopS_add {i j : Int} : bopS .add (.int i) (.int j) = .d (.int (i + j)) := by rfl
@[simp] theorem bopS_sub {i j : Int} : bopS .sub (.int i) (.int j) = .d (.int (i - j)) := by rfl
theorem bopS_mul {i j : Int} (h : mok i j = true) : bopS .mul (.int i) (.int j) = .d (.int (i * j)) := if_pos h
theorem bopS_mod {i j : Int} (h : j ≠ 0) : bopS .mod (.int i) (.int j) = .d (.int (i.fmod j)) := if_neg h
theorem bopS_fdv {i j : Int} (h : j ≠ 0) (h2 : Builtin.divisionGoesByPylong i j = false) : bopS .fdv (.int i) (.int j) = .d (.int (i.fdiv j)) := if_neg (by rw [h2]; simp [h])
theorem bopS_pow {i j : Int} (h : 0 ≤ j ∧ (i.natAbs.log2 + 1) * j.toNat < 134217000) : bopS .pow (.int i) (.int j) = .d (.int (i ^ j.toNat)) := if_pos h
theorem bopS_addl {xs ys : List D} (h : xs.length + ys.length ≤ LIM) : bopS .add (.lst xs) (.lst ys) = .l (xs ++ ys) := if_pos h
theorem bopS_addt {xs ys : List D} (h : xs.length + ys.length ≤ LIM) : bopS .add (.tup xs) (.tup ys) = .d (.tup (xs ++ ys)) := if_pos h
@[simp] theorem cmpS_eq {d e : D} : cmpS .eq d e = eqS d e := by rfl
@[simp] theorem cmpS_ne {d e : D} : cmpS .ne d e = (eqS d e).map (!·) := by
  show (match eqS d e with | some r => some (!r) | none => none) = _
  cases eqS d e <;> rfl
@[simp] theorem eqS_int {i j : Int} : eqS (.int i) (.int j) = some (i == j) := by rfl
@[simp] theorem eqS_str {i j : Str} : eqS (.str i) (.str j) = some (i == j) := by rfl
@[simp] theorem eqS_bl {i j : Bool} : eqS (.bl i) (.bl j) = some (i == j) := by rfl
@[simp] theorem cmpS_lt {i j : Int} : cmpS .lt (.int i) (.int j) = some (decide (i < j)) := by rfl
@[simp] theorem cmpS_le {i j : Int} : cmpS .le (.int i) (.int j) = some (decide (i ≤ j)) := by rfl
@[simp] theorem cmpS_gt {i j : Int} : cmpS .gt (.int i) (.int j) = some (decide (j < i)) := by rfl
@[simp] theorem cmpS_ge {i j : Int} : cmpS .ge (.int i) (.int j) = some (decide (j ≤ i)) := by rfl
@[simp] theorem cmpS_is {a b : D} : cmpS .is_ a b = isS a b := by rfl
@[simp] theorem cmpS_isn {a b : D} : cmpS .isn a b = (isS a b).map (!·) := by
  show (match isS a b with | some r => some (!r) | none => none) = _
  cases isS a b <;> rfl
/-! expressions -/
def kBin2 (o : Bop) (x : Val) (y : Val) (st : Store) : Res Val := pick (dr st x) fun dx => pick (dr st y) fun dy => opRes (bopS o dx dy) st
def kBin (G : Gam) (ρ : Slots) (o : Bop) (b : Ex) (x : Val) (st : Store) : Res Val := (ev G b ρ st).bind (kBin2 o x)
@[simp] theorem ev_bin {o : Bop} {a b : Ex} : ev G (.bin o a b) ρ st = (ev G a ρ st).bind (kBin G ρ o b) := by rfl
@[simp] theorem kBin_eq {o : Bop} {b : Ex} {x : Val} : kBin G ρ o b x st = (ev G b ρ st).bind (kBin2 o x) := by rfl
@[simp] theorem kBin2_eq {o : Bop} {x y : Val} : kBin2 o x y st = pick (dr st x) fun dx => pick (dr st y) fun dy => opRes (bopS o dx dy) st := by rfl
def kCmp2 (o : Cop) (x : Val) (y : Val) (st : Store) : Res Val := pick (dr st x) fun dx => pick (dr st y) fun dy => pick (cmpS o dx dy) fun r => .ok (.fz (.bl r)) st
def kCmp (G : Gam) (ρ : Slots) (o : Cop) (b : Ex) (x : Val) (st : Store) : Res Val := (ev G b ρ st).bind (kCmp2 o x)
@[simp] theorem ev_cmp {o : Cop} {a b : Ex} : ev G (.cmp o a b) ρ st = (ev G a ρ st).bind (kCmp G ρ o b) := by rfl
@[simp] theorem kCmp_eq {o : Cop} {b : Ex} {x : Val} : kCmp G ρ o b x st = (ev G b ρ st).bind (kCmp2 o x) := by rfl
@[simp] theorem kCmp2_eq {o : Cop} {x y : Val} : kCmp2 o x y st = pick (dr st x) fun dx => pick (dr st y) fun dy => pick (cmpS o dx dy) fun r => .ok (.fz (.bl r)) st := by rfl
@[simp] theorem ev_var {i : Nat} {v : Val} (h : ρ[i]? = some (some v)) : ev G (.var i) ρ st = .ok v st := by
  show (match ρ[i]? with | some (some v) => Res.ok v st | _ => .stuck) = _
  rw [h]
@[simp] theorem ev_lit {d : D} : ev G (.lit d) ρ st = .ok (.fz d) st := by rfl
@[simp] theorem ev_none : ev G .none_ ρ st = .ok (.fz .non) st := by rfl
@[simp] theorem ev_glo {j : Nat} : ev G (.glo j) ρ st = pick G.con[j]? fun d => .ok (.fz d) st := by rfl
def kNeg (x : Val) (st : Store) : Res Val := match x with
  | .fz (.int i) => .ok (.fz (.int (-i))) st
  | _ => .stuck
@[simp] theorem ev_neg {a : Ex} : ev G (.neg a) ρ st = (ev G a ρ st).bind kNeg := by rfl
@[simp] theorem kNeg_eq {i : Int} : kNeg (.fz (.int i)) st = .ok (.fz (.int (-i))) st := by rfl
def kNot (x : Val) (st : Store) : Res Val := match x with
  | .fz (.bl b) => .ok (.fz (.bl (!b))) st
  | _ => .stuck
@[simp] theorem ev_not {a : Ex} : ev G (.not_ a) ρ st = (ev G a ρ st).bind kNot := by rfl
@[simp] theorem kNot_eq {b : Bool} : kNot (.fz (.bl b)) st = .ok (.fz (.bl (!b))) st := by rfl
def kAnd (G : Gam) (ρ : Slots) (b : Ex) (x : Val) (st : Store) : Res Val := match x with
  | .fz (.bl true) => ev G b ρ st
  | .fz (.bl false) => .ok (.fz (.bl false)) st
  | _ => .stuck
@[simp] theorem ev_and {a b : Ex} : ev G (.and_ a b) ρ st = (ev G a ρ st).bind (kAnd G ρ b) := by rfl
@[simp] theorem kAnd_eq {b : Ex} {t : Bool} : kAnd G ρ b (.fz (.bl t)) st = if t = true then ev G b ρ st else .ok (.fz (.bl false)) st := by cases t <;> rfl
def kOr (G : Gam) (ρ : Slots) (b : Ex) (x : Val) (st : Store) : Res Val := match x with
  | .fz (.bl true) => .ok (.fz (.bl true)) st
  | .fz (.bl false) => ev G b ρ st
  | _ => .stuck
@[simp] theorem ev_or {a b : Ex} : ev G (.or_ a b) ρ st = (ev G a ρ st).bind (kOr G ρ b) := by rfl
@[simp] theorem kOr_eq {b : Ex} {t : Bool} : kOr G ρ b (.fz (.bl t)) st = if t = true then .ok (.fz (.bl true)) st else ev G b ρ st := by cases t <;> rfl
def kIfe (G : Gam) (ρ : Slots) (a b : Ex) (x : Val) (st : Store) : Res Val := match x with
  | .fz (.bl true) => ev G a ρ st
  | .fz (.bl false) => ev G b ρ st
  | _ => .stuck
@[simp] theorem ev_ife {c a b : Ex} : ev G (.ife c a b) ρ st = (ev G c ρ st).bind (kIfe G ρ a b) := by rfl
@[simp] theorem kIfe_eq {a b : Ex} {t : Bool} : kIfe G ρ a b (.fz (.bl t)) st = if t = true then ev G a ρ st else ev G b ρ st := by cases t <;> rfl
def kTru (x : Val) (st : Store) : Res Val := pick (dr st x) fun d => pick (truS d) fun r => .ok (.fz (.bl r)) st
@[simp] theorem ev_tru {a : Ex} : ev G (.tru a) ρ st = (ev G a ρ st).bind kTru := by rfl
@[simp] theorem kTru_eq {x : Val} : kTru x st = pick (dr st x) fun d => pick (truS d) fun r => .ok (.fz (.bl r)) st := by rfl
@[simp] theorem truS_bl {b : Bool} : truS (.bl b) = some b := by rfl
@[simp] theorem truS_int {i : Int} : truS (.int i) = some (i != 0) := by rfl
def kEvs2 (v : Val) (vs : List Val) (st : Store) : Res (List Val) := .ok (v :: vs) st
def kEvs (G : Gam) (ρ : Slots) (es : Exs) (v : Val) (st : Store) : Res (List Val) := (evs G es ρ st).bind (kEvs2 v)
@[simp] theorem evs_nil : evs G .nil ρ st = .ok [] st := by rfl
@[simp] theorem evs_cons {e : Ex} {es : Exs} : evs G (.cons e es) ρ st = (ev G e ρ st).bind (kEvs G ρ es) := by rfl
@[simp] theorem kEvs_eq {es : Exs} {v : Val} : kEvs G ρ es v st = (evs G es ρ st).bind (kEvs2 v) := by rfl
@[simp] theorem kEvs2_eq {v : Val} {vs : List Val} : kEvs2 v vs st = .ok (v :: vs) st := by rfl
def kFrs2 (d : D) (ds : List D) (st : Store) : Res (List D) := .ok (d :: ds) st
def kFrs (io : Nat) (vs : List Val) (d : D) (st : Store) : Res (List D) := (PD.frs io vs st).bind (kFrs2 d)
@[simp] theorem frs_nil {io : Nat} : PD.frs io [] st = .ok [] st := by rfl
@[simp] theorem frs_cons {io : Nat} {v : Val} {vs : List Val} : PD.frs io (v :: vs) st = (fr io v st).bind (kFrs io vs) := by rfl
@[simp] theorem kFrs_eq {io : Nat} {vs : List Val} {d : D} : kFrs io vs d st = (PD.frs io vs st).bind (kFrs2 d) := by rfl
@[simp] theorem kFrs2_eq {d : D} {ds : List D} : kFrs2 d ds st = .ok (d :: ds) st := by rfl
def kTup2 (ds : List D) (st : Store) : Res Val := if ds.length ≤ LIM then .ok (.fz (.tup ds)) st else .stuck
def kTup (io : Nat) (vs : List Val) (st : Store) : Res Val := (PD.frs io vs st).bind kTup2
@[simp] theorem ev_tup {es : Exs} : ev G (.tup es) ρ st = (evs G es ρ st).bind (kTup G.io) := by rfl
@[simp] theorem kTup_eq {io : Nat} {vs : List Val} : kTup io vs st = (PD.frs io vs st).bind kTup2 := by rfl
theorem kTup2_eq {ds : List D} (h : ds.length ≤ LIM) : kTup2 ds st = .ok (.fz (.tup ds)) st := if_pos h
@[simp] theorem kTup2_1 {a : D} : kTup2 [a] st = .ok (.fz (.tup [a])) st := by rfl
@[simp] theorem kTup2_0 : kTup2 [] st = .ok (.fz (.tup [])) st := by rfl
@[simp] theorem kTup2_2 {a b : D} : kTup2 [a, b] st = .ok (.fz (.tup [a, b])) st := by rfl
@[simp] theorem kTup2_3 {a b c : D} : kTup2 [a, b, c] st = .ok (.fz (.tup [a, b, c])) st := by rfl
def kLst2 (ds : List D) (st : Store) : Res Val := if ds.length ≤ LIM then .ok (.loc st.length) (st ++ [.lst ds]) else .stuck
def kLst (io : Nat) (vs : List Val) (st : Store) : Res Val := (PD.frs io vs st).bind kLst2
@[simp] theorem ev_lst {es : Exs} : ev G (.lst es) ρ st = (evs G es ρ st).bind (kLst G.io) := by rfl
@[simp] theorem kLst_eq {io : Nat} {vs : List Val} : kLst io vs st = (PD.frs io vs st).bind kLst2 := by rfl
theorem kLst2_eq {ds : List D} (h : ds.length ≤ LIM) : kLst2 ds st = .ok (.loc st.length) (st ++ [.lst ds]) := if_pos h
@[simp] theorem kLst2_0 : kLst2 [] st = .ok (.loc st.length) (st ++ [.lst []]) := by rfl
@[simp] theorem kLst2_1 {a : D} : kLst2 [a] st = .ok (.loc st.length) (st ++ [.lst [a]]) := by rfl
@[simp] theorem kLst2_2 {a b : D} : kLst2 [a, b] st = .ok (.loc st.length) (st ++ [.lst [a, b]]) := by rfl
def kIdx2 (x y : Val) (st : Store) : Res Val := pick (dr st x) fun dx => pick (dr st y) fun dy => pick (idxS dx dy) fun d => .ok (.fz d) st
def kIdx (G : Gam) (ρ : Slots) (i : Ex) (x : Val) (st : Store) : Res Val := (ev G i ρ st).bind (kIdx2 x)
@[simp] theorem ev_idx {a i : Ex} : ev G (.idx a i) ρ st = (ev G a ρ st).bind (kIdx G ρ i) := by rfl
@[simp] theorem kIdx_eq {i : Ex} {x : Val} : kIdx G ρ i x st = (ev G i ρ st).bind (kIdx2 x) := by rfl
@[simp] theorem kIdx2_eq {x y : Val} : kIdx2 x y st = pick (dr st x) fun dx => pick (dr st y) fun dy => pick (idxS dx dy) fun d => .ok (.fz d) st := by rfl
theorem ixN_nat {n k : Nat} (h : k < n) : ixN n (k : Int) = some k := by
  unfold ixN
  rw [if_pos (by omega), if_pos (by omega)]
  simp
theorem atI_nat {xs : List D} {k : Nat} (h : k < xs.length) : atI xs (k : Int) = some xs[k] := by
  unfold atI
  rw [ixN_nat h]
  simp [h]
theorem idx_lst {ds : List D} {k : Nat} {i : Int} (hi : i = k) (h : k < ds.length) : idxS (.lst ds) (.int i) = some ds[k] := by
  subst hi
  exact atI_nat h
theorem idx_tup {ds : List D} {k : Nat} {i : Int} (hi : i = k) (h : k < ds.length) : idxS (.tup ds) (.int i) = some ds[k] := by
  subst hi
  exact atI_nat h
@[simp] theorem idx_tup0 {a : D} {ds : List D} : idxS (.tup (a :: ds)) (.int 0) = some a := idx_tup (k := 0) rfl (by simp)
@[simp] theorem idx_tup1 {a b : D} {ds : List D} : idxS (.tup (a :: b :: ds)) (.int 1) = some b := idx_tup (k := 1) rfl (by simp)
@[simp] theorem idx_lst0 {a : D} {ds : List D} : idxS (.lst (a :: ds)) (.int 0) = some a := idx_lst (k := 0) rfl (by simp)
@[simp] theorem idx_lst1 {a b : D} {ds : List D} : idxS (.lst (a :: b :: ds)) (.int 1) = some b := idx_lst (k := 1) rfl (by simp)
def kCall (io : Nat) (fi : FnI) (vs : List Val) (st : Store) : Res Val := callS io fi vs st
@[simp] theorem ev_call {j : Nat} {es : Exs} : ev G (.call j es) ρ st = pick G.fns[j]? fun fi => (evs G es ρ st).bind (kCall G.io fi) := by rfl
def kBfn (f : Bfn) (vs : List Val) (st : Store) : Res Val := pick (vs.mapM (dr st)) fun ds => opRes (bfnS f ds) st
@[simp] theorem ev_bfn {f : Bfn} {es : Exs} : ev G (.bfn f es) ρ st = (evs G es ρ st).bind (kBfn f) := by rfl
@[simp] theorem kBfn_eq {f : Bfn} {vs : List Val} : kBfn f vs st = pick (vs.mapM (dr st)) fun ds => opRes (bfnS f ds) st := by rfl

@[simp] theorem bfn_lenl {ds : List D} : bfnS .len [.lst ds] = .d (.int ds.length) := by rfl
@[simp] theorem bfn_lent {ds : List D} : bfnS .len [.tup ds] = .d (.int ds.length) := by rfl
@[simp] theorem bfn_abs {i : Int} : bfnS .abs [.int i] = .d (.int (if i < 0 then -i else i)) := by rfl
@[simp] theorem bfn_min {i j : Int} : bfnS .min2 [.int i, .int j] = .d (.int (if j < i then j else i)) := by rfl
@[simp] theorem bfn_max {i j : Int} : bfnS .max2 [.int i, .int j] = .d (.int (if j > i then j else i)) := by rfl
@[simp] theorem bfn_int {i : Int} : bfnS .int [.int i] = .d (.int i) := by rfl
@[simp] theorem bfn_intb {b : Bool} : bfnS .int [.bl b] = .d (.int (if b then 1 else 0)) := by rfl
@[simp] theorem bfn_tupl {ds : List D} : bfnS .tuple [.lst ds] = .d (.tup ds) := by rfl
@[simp] theorem bfn_tupt {ds : List D} : bfnS .tuple [.tup ds] = .d (.tup ds) := by rfl
@[simp] theorem bfn_lstl {ds : List D} : bfnS .list [.lst ds] = .l ds := by rfl
@[simp] theorem bfn_lstt {ds : List D} : bfnS .list [.tup ds] = .l ds := by rfl
@[simp] theorem bfn_gcd {i j : Int} : bfnS .gcd [.int i, .int j] = .d (.int ((Nat.gcd i.natAbs j.natAbs : Nat) : Int)) := by rfl
def kMth2 (m : Mth) (x : Val) (vs : List Val) (st : Store) : Res Val := pick (dr st x) fun d => pick (vs.mapM (dr st)) fun ds => opRes (mthS m d ds) st
def kMth (G : Gam) (ρ : Slots) (m : Mth) (es : Exs) (x : Val) (st : Store) : Res Val := (evs G es ρ st).bind (kMth2 m x)
@[simp] theorem ev_mth {m : Mth} {a : Ex} {es : Exs} : ev G (.mth m a es) ρ st = (ev G a ρ st).bind (kMth G ρ m es) := by rfl
@[simp] theorem kMth_eq {m : Mth} {es : Exs} {x : Val} : kMth G ρ m es x st = (evs G es ρ st).bind (kMth2 m x) := by rfl
@[simp] theorem kMth2_eq {m : Mth} {x : Val} {vs : List Val} : kMth2 m x vs st = pick (dr st x) fun d => pick (vs.mapM (dr st)) fun ds => opRes (mthS m d ds) st := by rfl
@[simp] theorem mth_bitlen {i : Int} : mthS .bitlen (.int i) [] = .d (.int (Builtin.Int.intBits i : Nat)) := by rfl
def kIsi (ex : Str → Str → Option Bool) (ts : List TyN) (x : Val) (st : Store) : Res Val := pick (dr st x) fun d => pick (isiS ex d ts) fun r => .ok (.fz (.bl r)) st
@[simp] theorem ev_isi {a : Ex} {ts : List TyN} {tp : Bool} : ev G (.isi a ts tp) ρ st = (ev G a ρ st).bind (kIsi G.exm ts) := by rfl
@[simp] theorem kIsi_eq {ex : Str → Str → Option Bool} {ts : List TyN} {x : Val} : kIsi ex ts x st = pick (dr st x) fun d => pick (isiS ex d ts) fun r => .ok (.fz (.bl r)) st := by rfl
theorem ev_isx {i : Nat} {ts : List Str} {tp : Bool} {y : XD} (h : ρ[i]? = some (some (.exn y))) : ev G (.isx i ts tp) ρ st = pick (isxS G.exm y.cls ts) fun r => .ok (.fz (.bl r)) st := by
  show (match ρ[i]? with
    | some (some (.exn x)) => pick (isxS G.exm x.cls ts) fun r => Res.ok (Val.fz (D.bl r)) st
    | _ => .stuck) = _
  rw [h]
theorem ev_isv {i : Nat} {n : String} {y : XD} (h : ρ[i]? = some (some (.exn y))) : ev G (.isv i n) ρ st = pick (G.exv y.cls n) fun r => .ok (.fz (.bl r)) st := by
  show (match ρ[i]? with
    | some (some (.exn x)) => pick (G.exv x.cls n) fun r => Res.ok (Val.fz (D.bl r)) st
    | _ => .stuck) = _
  rw [h]
theorem ev_xfld {i : Nat} {f : Str} {y : XD} (h : ρ[i]? = some (some (.exn y))) (h2 : G.xfl y.cls f = true) : ev G (.xfld i f) ρ st = pick (y.fs.lookup f) fun d => .ok (.fz d) st := by
  show (match ρ[i]? with
    | some (some (.exn x)) => if G.xfl x.cls f = true then pick (x.fs.lookup f) fun d => Res.ok (Val.fz d) st else .stuck
    | _ => .stuck) = _
  rw [h]
  exact if_pos h2
def kSlc3 (x : Val) (bl : Option Int) (bh : Option Int) (st : Store) : Res Val := pick (dr st x) fun dx => opRes (slcS dx bl bh) st
def kBnd (b : Bool) (l : Val) (st : Store) : Res (Option Int) := pick (bndV b l) fun b => .ok b st
def kSlc2 (G : Gam) (ρ : Slots) (hi : Ex) (x : Val) (bl : Option Int) (st : Store) : Res Val := ((ev G hi ρ st).bind (kBnd hi.isNone)).bind (kSlc3 x bl)
def kSlc (G : Gam) (ρ : Slots) (lo hi : Ex) (x : Val) (st : Store) : Res Val := ((ev G lo ρ st).bind (kBnd lo.isNone)).bind (kSlc2 G ρ hi x)
@[simp] theorem ev_slc {a lo hi : Ex} : ev G (.slc a lo hi) ρ st = (ev G a ρ st).bind (kSlc G ρ lo hi) := by rfl
@[simp] theorem kSlc_eq {lo hi : Ex} {x : Val} : kSlc G ρ lo hi x st = ((ev G lo ρ st).bind (kBnd lo.isNone)).bind (kSlc2 G ρ hi x) := by rfl
@[simp] theorem kSlc2_eq {hi : Ex} {x : Val} {bl : Option Int} : kSlc2 G ρ hi x bl st = ((ev G hi ρ st).bind (kBnd hi.isNone)).bind (kSlc3 x bl) := by rfl
@[simp] theorem kSlc3_eq {x : Val} {bl bh : Option Int} : kSlc3 x bl bh st = pick (dr st x) fun dx => opRes (slcS dx bl bh) st := by rfl
@[simp] theorem kBnd_eq {b : Bool} {l : Val} : kBnd b l st = pick (bndV b l) fun b => .ok b st := by rfl
@[simp] theorem bndV_n {v : Val} : bndV true v = some none := by unfold bndV; cases v <;> rfl
@[simp] theorem bndV_i {i : Int} : bndV false (.fz (.int i)) = some (some i) := by rfl
@[simp] theorem isNone_n : Ex.isNone .none_ = true := by rfl
@[simp] theorem isNone_v {i : Nat} : Ex.isNone (.var i) = false := by rfl
@[simp] theorem isNone_l {d : D} : Ex.isNone (.lit d) = false := by rfl
@[simp] theorem isNone_b {o : Bop} {a b : Ex} : Ex.isNone (.bin o a b) = false := by rfl
@[simp] theorem isNone_c {j : Nat} {es : Exs} : Ex.isNone (.call j es) = false := by rfl
@[simp] theorem slc_lst {ds : List D} {a b : Option Int} : slcS (.lst ds) a b = .l (cutD ds a b) := by rfl
@[simp] theorem slc_tup {ds : List D} {a b : Option Int} : slcS (.tup ds) a b = .d (.tup (cutD ds a b)) := by rfl
/-! ### calls -/
def kRes (ns : List Nat) (st : Store) : FRes → Res Val
  | .ok d cs => pick (putBack ns cs st) fun st => .ok (.fz d) st
  | .okl ds cs => pick (putBack ns cs st) fun st => .ok (.loc st.length) (st ++ [.lst ds])
  | .exc x cs => pick (putBack ns cs st) fun st => .exc x st
  | .stuck => .stuck
def kCal2 (fi : FnI) (as : List (Sum D Nat)) (st : Store) : Res Val := if noDup (locsA as) then
    pick (mkA st as) fun args => kRes (locsA as) st (fi.f (args ++ fi.dfl.map .fz))
  else .stuck
theorem callS_eq {io : Nat} {fi : FnI} {vs : List Val} : callS io fi vs st = (PD.frA io fi.muts vs st).bind (kCal2 fi) := by
  have e : (fun (as : List (Sum D Nat)) (st : Store) => if noDup (locsA as) then
      pick (mkA st as) fun args => match fi.f (args ++ fi.dfl.map .fz) with
        | .ok d cs => pick (putBack (locsA as) cs st) fun st => Res.ok (Val.fz d) st
        | .okl ds cs => pick (putBack (locsA as) cs st) fun st => .ok (.loc st.length) (st ++ [.lst ds])
        | .exc x cs => pick (putBack (locsA as) cs st) fun st => .exc x st
        | .stuck => .stuck
      else .stuck) = kCal2 fi := by
    funext as st
    have e2 : (fun args => match fi.f (args ++ fi.dfl.map .fz) with
        | .ok d cs => pick (putBack (locsA as) cs st) fun st => Res.ok (Val.fz d) st
        | .okl ds cs => pick (putBack (locsA as) cs st) fun st => .ok (.loc st.length) (st ++ [.lst ds])
        | .exc x cs => pick (putBack (locsA as) cs st) fun st => .exc x st
        | .stuck => .stuck) = fun args => kRes (locsA as) st (fi.f (args ++ fi.dfl.map .fz)) := by
      funext args
      cases fi.f (args ++ fi.dfl.map .fz) <;> rfl
    simp only [e2]
    rfl
  rw [← e]
  rfl
@[simp] theorem kCall_eq {io : Nat} {fi : FnI} {vs : List Val} : kCall io fi vs st = (PD.frA io fi.muts vs st).bind (kCal2 fi) := callS_eq
def kFa (io : Nat) (ms : List Bool) (vs : List Val) (d : D) (st : Store) : Res (List (Sum D Nat)) := (PD.frA io ms vs st).bind fun as st => .ok (.inl d :: as) st
def kFa2 (d : Sum D Nat) (as : List (Sum D Nat)) (st : Store) : Res (List (Sum D Nat)) := .ok (d :: as) st
@[simp] theorem frA_nil {io : Nat} {ms : List Bool} : PD.frA io ms [] st = .ok [] st := by
  cases ms with
  | nil => rfl
  | cons m ms => cases m <;> rfl
@[simp] theorem frA_nc {io : Nat} {v : Val} {vs : List Val} : PD.frA io [] (v :: vs) st = (fr io v st).bind (kFa io [] vs) := by rfl
@[simp] theorem frA_fc {io : Nat} {ms : List Bool} {v : Val} {vs : List Val} : PD.frA io (false :: ms) (v :: vs) st = (fr io v st).bind (kFa io ms vs) := by rfl
@[simp] theorem frA_tc {io n : Nat} {ms : List Bool} {vs : List Val} : PD.frA io (true :: ms) (.loc n :: vs) st = (PD.frA io ms vs st).bind (kFa2 (.inr n)) := by rfl
@[simp] theorem kFa_eq {io : Nat} {ms : List Bool} {vs : List Val} {d : D} : kFa io ms vs d st = (PD.frA io ms vs st).bind (kFa2 (.inl d)) := by rfl
@[simp] theorem kFa2_eq {d : Sum D Nat} {as : List (Sum D Nat)} : kFa2 d as st = .ok (d :: as) st := by rfl
@[simp] theorem kCal2_1 {muts : List Bool} {f : List PD.Arg → FRes} {a : D} : kCal2 ⟨muts, [], f⟩ [.inl a] st = kRes [] st (f [.fz a]) := by rfl
@[simp] theorem kCal2_2 {muts : List Bool} {f : List PD.Arg → FRes} {a b : D} : kCal2 ⟨muts, [], f⟩ [.inl a, .inl b] st = kRes [] st (f [.fz a, .fz b]) := by rfl
@[simp] theorem kCal2_3 {muts : List Bool} {f : List PD.Arg → FRes} {a b c : D} : kCal2 ⟨muts, [], f⟩ [.inl a, .inl b, .inl c] st = kRes [] st (f [.fz a, .fz b, .fz c]) := by rfl
@[simp] theorem kCal2_4 {muts : List Bool} {f : List PD.Arg → FRes} {a b c d : D} : kCal2 ⟨muts, [], f⟩ [.inl a, .inl b, .inl c, .inl d] st = kRes [] st (f [.fz a, .fz b, .fz c, .fz d]) := by rfl
theorem kCal2_m {muts : List Bool} {f : List PD.Arg → FRes} {n : Nat} {ds : List D} (h : st[n]? = some (.lst ds)) : kCal2 ⟨muts, [], f⟩ [.inr n] st = kRes [n] st (f [.mu (.lst ds)]) := by
  unfold kCal2
  simp [locsA, noDup, mkA, h, Cont.live]
theorem kCal2_m1 {muts : List Bool} {f : List PD.Arg → FRes} {n : Nat} {ds : List D} {a : D} (h : st[n]? = some (.lst ds)) : kCal2 ⟨muts, [], f⟩ [.inr n, .inl a] st = kRes [n] st (f [.mu (.lst ds), .fz a]) := by
  unfold kCal2
  simp [locsA, noDup, mkA, h, Cont.live]
@[simp] theorem kRes_ok {d : D} : kRes [] st (.ok d []) = .ok (.fz d) st := by rfl
@[simp] theorem kRes_okl {ds : List D} : kRes [] st (.okl ds []) = .ok (.loc st.length) (st ++ [.lst ds]) := by rfl
@[simp] theorem kRes_exc : kRes [] st (.exc x []) = .exc x st := by rfl
@[simp] theorem kRes_okm {n : Nat} {d : D} {ds : List D} : kRes [n] st (.ok d [.lst ds]) = .ok (.fz d) (st.set n (.lst ds)) := by rfl
@[simp] theorem kRes_excm {n : Nat} {ds : List D} : kRes [n] st (.exc x [.lst ds]) = .exc x (st.set n (.lst ds)) := by rfl
/-! ### statements -/
noncomputable def kSeq (G : Gam) (ss : Sts) (ρ : Slots) (st : Store) : SR := exs G ss ρ st
@[simp] theorem exs_nil : exs G .nil ρ st = .nx ρ st := by rfl
@[simp] theorem exs_cons {s : St} {ss : Sts} : exs G (.cons s ss) ρ st = (ex G s ρ st).bind (kSeq G ss) := by rfl
@[simp] theorem kSeq_eq {ss : Sts} : kSeq G ss ρ st = exs G ss ρ st := by rfl
def kAsg (ρ : Slots) (t : Tg) (v : Val) (st : Store) : SR := pickS (asgT t v ρ st) fun ρ => .nx ρ st
@[simp] theorem ex_asg {t : Tg} {e : Ex} : ex G (.asg t e) ρ st = (ev G e ρ st).sr ρ (kAsg ρ t) := by rfl
@[simp] theorem kAsg_nm {i : Nat} {v : Val} : kAsg ρ (.nm i) v st = .nx (ρ.set i (some v)) st := by rfl
@[simp] theorem kAsg_tp {is : List Nat} {ds : List D} : kAsg ρ (.tp is) (.fz (.tup ds)) st = pickS (setAll is ds ρ) fun ρ => .nx ρ st := by rfl
@[simp] theorem setAll_nil : setAll [] [] ρ = some ρ := by rfl
@[simp] theorem setAll_cons {i : Nat} {is : List Nat} {d : D} {ds : List D} : setAll (i :: is) (d :: ds) ρ = setAll is ds (ρ.set i (some (.fz d))) := by rfl
noncomputable def kIf (G : Gam) (ρ : Slots) (a b : Sts) (x : Val) (st : Store) : SR := match x with
  | .fz (.bl true) => exs G a ρ st
  | .fz (.bl false) => exs G b ρ st
  | _ => .stuck
@[simp] theorem ex_if {c : Ex} {a b : Sts} : ex G (.if_ c a b) ρ st = (ev G c ρ st).sr ρ (kIf G ρ a b) := by rfl
@[simp] theorem kIf_eq {a b : Sts} {t : Bool} : kIf G ρ a b (.fz (.bl t)) st = if t = true then exs G a ρ st else exs G b ρ st := by cases t <;> rfl
def kRet2 (d : D) (st : Store) : SR := .rt d st
def kRet (io : Nat) (ρ : Slots) (v : Val) (st : Store) : SR := (fr io v st).sr ρ kRet2
@[simp] theorem ex_ret {e : Ex} : ex G (.ret e) ρ st = (ev G e ρ st).sr ρ (kRet G.io ρ) := by rfl
@[simp] theorem kRet_eq {io : Nat} {v : Val} : kRet io ρ v st = (fr io v st).sr ρ kRet2 := by rfl
@[simp] theorem kRet2_eq {d : D} : kRet2 d st = .rt d st := by rfl
@[simp] theorem ex_retn : ex G .retn ρ st = .rt .non st := by rfl
@[simp] theorem ex_pass : ex G .pass ρ st = .nx ρ st := by rfl
@[simp] theorem ex_rais {c : Str} : ex G (.rais c) ρ st = .exc ⟨c, []⟩ ρ st := by rfl
def kRf2 (ρ : Slots) (c f : Str) (d : D) (st : Store) : SR := .exc ⟨c, [(f, d)]⟩ ρ st
def kRf (io : Nat) (ρ : Slots) (c f : Str) (v : Val) (st : Store) : SR := (fr io v st).sr ρ (kRf2 ρ c f)
@[simp] theorem ex_raisf {c f : Str} {e : Ex} : ex G (.raisf c f e) ρ st = (ev G e ρ st).sr ρ (kRf G.io ρ c f) := by rfl
@[simp] theorem kRf_eq {io : Nat} {c f : Str} {v : Val} : kRf io ρ c f v st = (fr io v st).sr ρ (kRf2 ρ c f) := by rfl
@[simp] theorem kRf2_eq {c f : Str} {d : D} : kRf2 ρ c f d st = .exc ⟨c, [(f, d)]⟩ ρ st := by rfl
def kExp (ρ : Slots) (v : Val) (st : Store) : SR := .nx ρ st
@[simp] theorem ex_exp {e : Ex} : ex G (.exp e) ρ st = (ev G e ρ st).sr ρ (kExp ρ) := by rfl
@[simp] theorem kExp_eq {v : Val} : kExp ρ v st = .nx ρ st := by rfl
def kApp2 (ρ : Slots) (n : Nat) (d : D) (st : Store) : SR := match st[n]? with
  | some (.lst ds) => if ds.length < LIM then .nx ρ (st.set n (.lst (ds ++ [d]))) else .stuck
  | _ => .stuck
def kApp (io : Nat) (ρ : Slots) (n : Nat) (v : Val) (st : Store) : SR := (fr io v st).sr ρ (kApp2 ρ n)
theorem ex_app {i n : Nat} {e : Ex} {ds : List D} (h : ρ[i]? = some (some (.loc n))) (h2 : st[n]? = some (.lst ds)) : ex G (.app i e) ρ st = (ev G e ρ st).sr ρ (kApp G.io ρ n) := by
  show (match ρ[i]? with
    | some (some (.loc n)) => (match st[n]? with
      | some (.lst _) => (ev G e ρ st).sr ρ fun v st => (fr G.io v st).sr ρ fun d st => (match st[n]? with
        | some (.lst ds) => if ds.length < LIM then SR.nx ρ (st.set n (.lst (ds ++ [d]))) else .stuck
        | _ => .stuck)
      | _ => .stuck)
    | _ => .stuck) = _
  simp only [h, h2]
  rfl
@[simp] theorem kApp_eq {io n : Nat} {v : Val} : kApp io ρ n v st = (fr io v st).sr ρ (kApp2 ρ n) := by rfl
theorem kApp2_eq {n : Nat} {ds : List D} {d : D} (h : st[n]? = some (.lst ds)) (h2 : ds.length < LIM) : kApp2 ρ n d st = .nx ρ (st.set n (.lst (ds ++ [d]))) := by
  unfold kApp2
  simp only [h]
  rw [if_pos h2]
def kSix3 (ρ : Slots) (n : Nat) (y : Val) (d : D) (st : Store) : SR := match dr st y, st[n]? with
  | some (.int j), some (.lst ds) => pickS (ixN ds.length j) fun m => .nx ρ (st.set n (.lst (ds.set m d)))
  | _, _ => .stuck
def kSix2 (io : Nat) (ρ : Slots) (n : Nat) (v y : Val) (st : Store) : SR := (fr io v st).sr ρ (kSix3 ρ n y)
def kSix (G : Gam) (ρ : Slots) (i : Nat) (k : Ex) (v : Val) (st : Store) : SR := match ρ[i]? with
  | some (some (.loc n)) => (ev G k ρ st).sr ρ (kSix2 G.io ρ n v)
  | _ => .stuck
@[simp] theorem ex_six {i : Nat} {k e : Ex} : ex G (.six i k e) ρ st = (ev G e ρ st).sr ρ (kSix G ρ i k) := by rfl
theorem kSix_eq {i n : Nat} {k : Ex} {v : Val} (h : ρ[i]? = some (some (.loc n))) : kSix G ρ i k v st = (ev G k ρ st).sr ρ (kSix2 G.io ρ n v) := by
  unfold kSix
  simp only [h]
@[simp] theorem kSix2_eq {io n : Nat} {v y : Val} : kSix2 io ρ n v y st = (fr io v st).sr ρ (kSix3 ρ n y) := by rfl
theorem kSix3_eq {n m : Nat} {j : Int} {d : D} {ds : List D} (h : st[n]? = some (.lst ds)) (h2 : j = m) (h3 : m < ds.length) : kSix3 ρ n (.fz (.int j)) d st = .nx ρ (st.set n (.lst (ds.set m d))) := by
  subst h2
  unfold kSix3
  simp only [h, dr_fz]
  rw [ixN_nat h3]
  rfl
noncomputable def fBody (G : Gam) (t : Tg) (b : Sts) (d : D) (ρ : Slots) (st : Store) : SR := pickS (asgT t (.fz d) ρ st) fun ρ => exs G b ρ st
noncomputable def kFor (G : Gam) (ρ : Slots) (t : Tg) (b : Sts) (I : Iter) (st : Store) : SR := pickS (I.size st) fun n => forLoop I (fBody G t b) n 0 ρ st
@[simp] theorem ex_for {t : Tg} {it : It} {b : Sts} : ex G (.for_ t it b) ρ st = (evI G it ρ st).sr ρ (kFor G ρ t b) := by rfl
theorem kFor_eq {t : Tg} {b : Sts} {I : Iter} {n : Nat} (h : I.size st = some n) : kFor G ρ t b I st = forLoop I (fBody G t b) n 0 ρ st := by
  unfold kFor
  rw [h]
  rfl
@[simp] theorem kFor_rng {t : Tg} {b : Sts} {lo : Int} {n : Nat} : kFor G ρ t b (.rng lo n) st = forLoop (.rng lo n) (fBody G t b) n 0 ρ st := by rfl
@[simp] theorem kFor_tup {t : Tg} {b : Sts} {ds : List D} : kFor G ρ t b (.tup ds) st = forLoop (.tup ds) (fBody G t b) ds.length 0 ρ st := by rfl
@[simp] theorem kFor_lst {t : Tg} {b : Sts} {ds : List D} : kFor G ρ t b (.lst (.fz (.lst ds))) st = forLoop (.lst (.fz (.lst ds))) (fBody G t b) ds.length 0 ρ st := by rfl
@[simp] theorem size_rng {lo : Int} {n : Nat} : Iter.size st (.rng lo n) = some n := by rfl
@[simp] theorem at_rng {lo : Int} {n i : Nat} : Iter.at st i (.rng lo n) = some (.int (lo + i)) := by rfl
@[simp] theorem size_tup {ds : List D} : Iter.size st (.tup ds) = some ds.length := by rfl
@[simp] theorem at_tup {ds : List D} {i : Nat} : Iter.at st i (.tup ds) = ds[i]? := by rfl
@[simp] theorem size_lst {ds : List D} : Iter.size st (.lst (.fz (.lst ds))) = some ds.length := by rfl
@[simp] theorem at_lst {ds : List D} {i : Nat} : Iter.at st i (.lst (.fz (.lst ds))) = ds[i]? := by rfl
@[simp] theorem fBody_nm {i : Nat} {b : Sts} {d : D} : fBody G (.nm i) b d ρ st = exs G b (ρ.set i (some (.fz d))) st := by rfl
def kRng (a : D) (y : Val) (st : Store) : Res Iter := pick (dr st y) fun e => pick (rngS a e) fun I => .ok I st
def kRng2 (G : Gam) (ρ : Slots) (b : Ex) (x : Val) (st : Store) : Res Iter := (ev G b ρ st).bind fun y st => pick (dr st x) fun d => pick (dr st y) fun e => pick (rngS d e) fun I => .ok I st
@[simp] theorem evI_rng1 {a : Ex} : evI G (.rng1 a) ρ st = (ev G a ρ st).bind (kRng (.int 0)) := by rfl
@[simp] theorem evI_rng2 {a b : Ex} : evI G (.rng2 a b) ρ st = (ev G a ρ st).bind (kRng2 G ρ b) := by rfl
theorem rngS_eq {i j : Int} (h : rngOk i = true) (h2 : rngOk j = true) : rngS (.int i) (.int j) = some (.rng i (j - i).toNat) := by
  unfold rngS
  simp [h, h2]
theorem kRng_eq {i j : Int} (h : rngOk i = true) (h2 : rngOk j = true) : kRng (.int i) (.fz (.int j)) st = .ok (.rng i (j - i).toNat) st := by
  unfold kRng
  simp [rngS_eq h h2]
theorem kRng2_eq {b : Ex} {i j : Int} (hb : ev G b ρ st = .ok (.fz (.int j)) st) (h : rngOk i = true) (h2 : rngOk j = true) : kRng2 G ρ b (.fz (.int i)) st = .ok (.rng i (j - i).toNat) st := by
  unfold kRng2
  simp [hb, rngS_eq h h2]
def kSeqI (x : Val) (st : Store) : Res Iter := pick (dr st x) fun d => pick (seqI x d) fun I => .ok I st
@[simp] theorem evI_seq {a : Ex} : evI G (.seq a) ρ st = (ev G a ρ st).bind kSeqI := by rfl
@[simp] theorem kSeqI_tup {ds : List D} : kSeqI (.fz (.tup ds)) st = .ok (.tup ds) st := by rfl
@[simp] theorem kSeqI_lst {ds : List D} : kSeqI (.fz (.lst ds)) st = .ok (.lst (.fz (.lst ds))) st := by rfl
noncomputable def kTry (G : Gam) (hs : Hds) : SR → SR
  | .exc x ρ st => exh G hs x ρ st
  | r => r
@[simp] theorem ex_try {b : Sts} {hs : Hds} : ex G (.try_ b hs) ρ st = kTry G hs (exs G b ρ st) := by
  show (match exs G b ρ st with
    | .exc x ρ st => exh G hs x ρ st
    | r => r) = _
  cases exs G b ρ st <;> rfl
@[simp] theorem kTry_nx {hs : Hds} : kTry G hs (.nx ρ st) = .nx ρ st := by rfl
@[simp] theorem kTry_rt {hs : Hds} {d : D} : kTry G hs (.rt d st) = .rt d st := by rfl
@[simp] theorem kTry_exc {hs : Hds} : kTry G hs (.exc x ρ st) = exh G hs x ρ st := by rfl
theorem hit_1 {ex : Str → Str → Option Bool} {c t : Str} {b : Bool} (h : ex c t = some b) : hitS ex c [t] = some b := by
  show (match ex c t, some false with
    | some b, some d => some (b || d)
    | _, _ => none) = _
  rw [h]
  simp
theorem hit_c {ex : Str → Str → Option Bool} {c t : Str} {ts : List Str} {b d : Bool} (h : ex c t = some b) (h2 : hitS ex c ts = some d) : hitS ex c (t :: ts) = some (b || d) := by
  show (match ex c t, hitS ex c ts with
    | some b, some d => some (b || d)
    | _, _ => none) = _
  rw [h, h2]
theorem exh_hit {tp : Bool} {as_ : Option Nat} {b : Sts} {hs : Hds} {cs : List Str} (h : hitS G.exm x.cls cs = some true) : exh G (.cons cs tp as_ b hs) x ρ st = endH as_ (exs G b (begH as_ x ρ) st) := by
  show (match hitS G.exm x.cls cs with
    | some true => endH as_ (exs G b (begH as_ x ρ) st)
    | some false => exh G hs x ρ st
    | none => .stuck) = _
  rw [h]
theorem exh_miss {tp : Bool} {as_ : Option Nat} {b : Sts} {hs : Hds} {cs : List Str} (h : hitS G.exm x.cls cs = some false) : exh G (.cons cs tp as_ b hs) x ρ st = exh G hs x ρ st := by
  show (match hitS G.exm x.cls cs with
    | some true => endH as_ (exs G b (begH as_ x ρ) st)
    | some false => exh G hs x ρ st
    | none => .stuck) = _
  rw [h]
@[simp] theorem gam_fns {m : ModD} {gs : List FnI} : (m.gam gs).fns = gs := by rfl
@[simp] theorem gam_io {m : ModD} {gs : List FnI} : (m.gam gs).io = 0 := by rfl
@[simp] theorem gam_con {m : ModD} {gs : List FnI} : (m.gam gs).con = m.con.map (·.2) := by rfl
@[simp] theorem gam_exm {m : ModD} {gs : List FnI} : (m.gam gs).exm = exmL m.exm := by rfl
/-! ### a def's end, by a name -/
def fin (n : Nat) : SR → FRes
  | .nx _ st => .ok .non (st.take n)
  | .rt d st => .ok d (st.take n)
  | .rtl ds st => .okl ds (st.take n)
  | .exc x _ st => .exc x (st.take n)
  | _ => .stuck
theorem runDef_eq {d : Def} {args : List PD.Arg} : runDef G d args = fin (contsOf args).length (exs { G with io := (contsOf args).length } d.body (slotsOf 0 args ++ List.replicate (d.n - args.length) none) (contsOf args)) := by
  unfold runDef
  generalize exs { G with io := (contsOf args).length } d.body (slotsOf 0 args ++ List.replicate (d.n - args.length) none) (contsOf args) = r
  cases r <;> rfl
@[simp] theorem fin_nx {n : Nat} : fin n (.nx ρ st) = .ok .non (st.take n) := by rfl
@[simp] theorem fin_rt {n : Nat} {d : D} : fin n (.rt d st) = .ok d (st.take n) := by rfl
@[simp] theorem fin_rtl {n : Nat} {ds : List D} : fin n (.rtl ds st) = .okl ds (st.take n) := by rfl
@[simp] theorem fin_exc {n : Nat} : fin n (.exc x ρ st) = .exc x (st.take n) := by rfl
end
end PD

/-! PE2 -/
set_option Elab.async false
set_option linter.all false
set_option maxRecDepth 100000
set_option maxHeartbeats 4000000
/-! PE: loops by an invariant. -/
namespace PD
open PySem PySem.Spec PyProof.Rows L2
/-- every turn goes on -/
theorem for_all {I : Iter} {body : D → Slots → Store → SR} {n : Nat} (Inv : Nat → Slots → Store → Prop)
    (hs : ∀ i ρ st, i ≤ n → Inv i ρ st → I.size st = some n)
    (step : ∀ i ρ st, i < n → Inv i ρ st → ∃ d, I.at st i = some d ∧ ∃ ρ' st', (body d ρ st = .nx ρ' st' ∨ body d ρ st = .ct ρ' st') ∧ Inv (i + 1) ρ' st') :
    ∀ (k i : Nat) (ρ : Slots) (st : Store), i + k = n → Inv i ρ st → ∃ ρ' st', forLoop I body k i ρ st = .nx ρ' st' ∧ Inv n ρ' st'
  | 0, i, ρ, st, e, h => by
    have e' : i = n := by omega
    subst e'
    refine ⟨ρ, st, ?_, h⟩
    show (if I.size st = some i then SR.nx ρ st else .stuck) = _
    rw [if_pos (hs i ρ st (Nat.le_refl _) h)]
  | k + 1, i, ρ, st, e, h => by
    obtain ⟨d, hd, ρ', st', hb, h'⟩ := step i ρ st (by omega) h
    obtain ⟨ρ2, st2, e2, h2⟩ := for_all Inv hs step k (i + 1) ρ' st' (by omega) h'
    refine ⟨ρ2, st2, ?_, h2⟩
    show (if I.size st = some (i + (k + 1)) then pickS (I.at st i) fun d => match body d ρ st with
      | .nx ρ' st' => forLoop I body k (i + 1) ρ' st'
      | .ct ρ' st' => forLoop I body k (i + 1) ρ' st'
      | .bk ρ' st' => .nx ρ' st'
      | r => r else .stuck) = _
    rw [if_pos (by rw [e]; exact hs i ρ st (by omega) h), hd]
    rcases hb with hb | hb <;> (simp only [pickS, hb]; exact e2)
/-- a turn may leave: by a return, or an exception -/
theorem for_out {I : Iter} {body : D → Slots → Store → SR} {n : Nat} (Inv : Nat → Slots → Store → Prop) (Out : SR → Prop)
    (hs : ∀ i ρ st, i ≤ n → Inv i ρ st → I.size st = some n)
    (step : ∀ i ρ st, i < n → Inv i ρ st → ∃ d, I.at st i = some d ∧ ((∃ ρ' st', (body d ρ st = .nx ρ' st' ∨ body d ρ st = .ct ρ' st') ∧ Inv (i + 1) ρ' st') ∨ ((∃ x s, body d ρ st = .rt x s) ∧ Out (body d ρ st)))) :
    ∀ (k i : Nat) (ρ : Slots) (st : Store), i + k = n → Inv i ρ st → (∃ ρ' st', forLoop I body k i ρ st = .nx ρ' st' ∧ Inv n ρ' st') ∨ Out (forLoop I body k i ρ st)
  | 0, i, ρ, st, e, h => by
    have e' : i = n := by omega
    subst e'
    refine .inl ⟨ρ, st, ?_, h⟩
    show (if I.size st = some i then SR.nx ρ st else .stuck) = _
    rw [if_pos (hs i ρ st (Nat.le_refl _) h)]
  | k + 1, i, ρ, st, e, h => by
    obtain ⟨d, hd, hb⟩ := step i ρ st (by omega) h
    have e0 : forLoop I body (k + 1) i ρ st = (match body d ρ st with
      | .nx ρ' st' => forLoop I body k (i + 1) ρ' st'
      | .ct ρ' st' => forLoop I body k (i + 1) ρ' st'
      | .bk ρ' st' => .nx ρ' st'
      | r => r) := by
      show (if I.size st = some (i + (k + 1)) then pickS (I.at st i) fun d => match body d ρ st with
        | .nx ρ' st' => forLoop I body k (i + 1) ρ' st'
        | .ct ρ' st' => forLoop I body k (i + 1) ρ' st'
        | .bk ρ' st' => .nx ρ' st'
        | r => r else .stuck) = _
      rw [if_pos (by rw [e]; exact hs i ρ st (by omega) h), hd]
      rfl
    rcases hb with ⟨ρ', st', hb, h'⟩ | ⟨⟨x, s, hb⟩, ho⟩
    · rw [e0]
      rcases hb with hb | hb <;> (simp only [hb]; exact for_out Inv Out hs step k (i + 1) ρ' st' (by omega) h')
    · right
      rw [e0]
      rw [hb] at ho ⊢
      exact ho
/-- a list comprehension, every element kept -/
theorem lc_all {I : Iter} {body : D → Store → Res (List D)} {n : Nat} (Inv : Nat → List D → Store → Prop)
    (hs : ∀ i acc st, i ≤ n → Inv i acc st → I.size st = some n)
    (step : ∀ i acc st, i < n → Inv i acc st → ∃ d, I.at st i = some d ∧ ∃ ds st', body d st = .ok ds st' ∧ Inv (i + 1) (acc ++ ds) st') :
    ∀ (k i : Nat) (acc : List D) (st : Store), i + k = n → Inv i acc st → ∃ acc' st', lcLoop I body k i acc st = .ok acc' st' ∧ Inv n acc' st'
  | 0, i, acc, st, e, h => by
    have e' : i = n := by omega
    subst e'
    refine ⟨acc, st, ?_, h⟩
    show (if I.size st = some i then Res.ok acc st else .stuck) = _
    rw [if_pos (hs i acc st (Nat.le_refl _) h)]
  | k + 1, i, acc, st, e, h => by
    obtain ⟨d, hd, ds, st', hb, h'⟩ := step i acc st (by omega) h
    obtain ⟨acc2, st2, e2, h2⟩ := lc_all Inv hs step k (i + 1) (acc ++ ds) st' (by omega) h'
    refine ⟨acc2, st2, ?_, h2⟩
    show (if I.size st = some (i + (k + 1)) then pick (I.at st i) fun d => (body d st).bind fun ds st' => lcLoop I body k (i + 1) (acc ++ ds) st' else .stuck) = _
    rw [if_pos (by rw [e]; exact hs i acc st (by omega) h), hd]
    show (body d st).bind _ = _
    rw [hb]
    exact e2
/-! ### the walked list comprehension -/
def lBody (G : Gam) (own : List Nat) (tg : Tg) (c elt : Ex) (ρ : Slots) (d : D) (st : Store) : Res (List D) :=
  pick (asgT tg (.fz d) (wipeS ρ own) st) fun ρ' => (ev G c ρ' st).nox.bind fun b st => lcTurn b ((ev G elt ρ' st).nox.bind fun v st => lcPut G.io v st) (.ok [] st)
def kLc (G : Gam) (ρ : Slots) (own : List Nat) (tg : Tg) (c elt : Ex) (I : Iter) (st : Store) : Res Val := pick (I.size st) fun n => if n ≤ LIM then (lcLoop I (lBody G own tg c elt ρ) n 0 [] st).bind lcEnd else .stuck
@[simp] theorem ev_lc {G : Gam} {ρ : Slots} {st : Store} {own : List Nat} {tg : Tg} {it : It} {c elt : Ex} : ev G (.lc own tg it c elt) ρ st = (evI G it ρ st).bind (kLc G ρ own tg c elt) := by rfl
theorem kLc_eq {G : Gam} {ρ : Slots} {st : Store} {own : List Nat} {tg : Tg} {c elt : Ex} {I : Iter} {n : Nat} (h : I.size st = some n) (h2 : n ≤ LIM) : kLc G ρ own tg c elt I st = (lcLoop I (lBody G own tg c elt ρ) n 0 [] st).bind lcEnd := by
  unfold kLc
  rw [h]
  exact if_pos h2
@[simp] theorem lcEnd_eq {ds : List D} {st : Store} : lcEnd ds st = .ok (.loc st.length) (st ++ [.lst ds]) := by rfl
/-- an element without a test -/
theorem lBody_1 {G : Gam} {ρ : Slots} {st st' : Store} {own : List Nat} {i : Nat} {elt : Ex} {d e : D} (h : ev G elt ((wipeS ρ own).set i (some (.fz d))) st = .ok (.fz e) st') : lBody G own (.nm i) (.lit (.bl true)) elt ρ d st = .ok [e] st' := by
  show (((ev G elt ((wipeS ρ own).set i (some (.fz d))) st).nox.bind fun v st => lcPut G.io v st)) = _
  rw [h] <;> rfl
end PD

/-! PE3 -/
set_option Elab.async false
set_option linter.all false
set_option maxRecDepth 100000
set_option maxHeartbeats 4000000
/-! PE: kinds, equality of fractions. -/
namespace PD
open PySem PySem.Spec PyProof.Rows L2
theorem isi1 {ex : Str → Str → Option Bool} {d : D} {u n : String} {b : Bool} (h : tyS d = some u) (k : kitB u n = some b) : isiS ex d [.ty n] = some b := by
  show (match (match tyS d with | some u => kitB u n | none => none) with | some true => some true | some false => some false | none => none) = _
  rw [h]
  simp only [k]
  cases b <;> rfl
section
variable {ex : Str → Str → Option Bool} {i : Int} {b : Bool} {s : Str} {ds : List D}
@[simp] theorem isi_ii : isiS ex (.int i) [.ty "int"] = some true := isi1 rfl (by decide +kernel)
@[simp] theorem isi_ib : isiS ex (.int i) [.ty "bool"] = some false := isi1 rfl (by decide +kernel)
@[simp] theorem isi_is : isiS ex (.int i) [.ty "str"] = some false := isi1 rfl (by decide +kernel)
@[simp] theorem isi_it : isiS ex (.int i) [.ty "tuple"] = some false := isi1 rfl (by decide +kernel)
@[simp] theorem isi_bi : isiS ex (.bl b) [.ty "int"] = some true := isi1 rfl (by decide +kernel)
@[simp] theorem isi_bb : isiS ex (.bl b) [.ty "bool"] = some true := isi1 rfl (by decide +kernel)
@[simp] theorem isi_bs : isiS ex (.bl b) [.ty "str"] = some false := isi1 rfl (by decide +kernel)
@[simp] theorem isi_bt : isiS ex (.bl b) [.ty "tuple"] = some false := isi1 rfl (by decide +kernel)
@[simp] theorem isi_ss : isiS ex (.str s) [.ty "str"] = some true := isi1 rfl (by decide +kernel)
@[simp] theorem isi_st : isiS ex (.str s) [.ty "tuple"] = some false := isi1 rfl (by decide +kernel)
@[simp] theorem isi_si : isiS ex (.str s) [.ty "int"] = some false := isi1 rfl (by decide +kernel)
@[simp] theorem isi_tt : isiS ex (.tup ds) [.ty "tuple"] = some true := isi1 rfl (by decide +kernel)
@[simp] theorem isi_ts : isiS ex (.tup ds) [.ty "str"] = some false := isi1 rfl (by decide +kernel)
@[simp] theorem isi_ti : isiS ex (.tup ds) [.ty "int"] = some false := isi1 rfl (by decide +kernel)
@[simp] theorem isi_lt : isiS ex (.lst ds) [.ty "tuple"] = some false := isi1 rfl (by decide +kernel)
@[simp] theorem isi_nt : isiS ex .non [.ty "tuple"] = some false := isi1 rfl (by decide +kernel)
@[simp] theorem isi_ni : isiS ex .non [.ty "int"] = some false := isi1 rfl (by decide +kernel)
end
section
variable {G : Gam} {ρ : Slots} {st : Store}
def kRetl (io : Nat) (v : Val) (st : Store) : SR := match v with
  | .loc n => if io ≤ n then (match st[n]? with
    | some (.lst ds) => .rtl ds st
    | _ => .stuck) else .stuck
  | _ => .stuck
@[simp] theorem ex_retl {e : Ex} : ex G (.retl e) ρ st = (ev G e ρ st).sr ρ (kRetl G.io) := by rfl
theorem kRetl_eq {io n : Nat} {ds : List D} (h : st[n]? = some (.lst ds)) (hi : io ≤ n) : kRetl io (.loc n) st = .rtl ds st := by
  unfold kRetl
  simp only [h]
  rw [if_pos hi]
end
end PD

/-! F1 -/
set_option linter.all false
/-! F1: fractions in plain Lean. -/
namespace FR
/-- the denominator divides M -/
theorem den_mkRat_dvd (n : Int) (d : Nat) (h : d ≠ 0) : (mkRat n d).den ∣ d := by
  rw [Rat.den_mkRat, if_neg h]
  exact Nat.div_dvd_of_dvd (Nat.gcd_dvd_left _ _)
theorem den_iff {x : Rat} {M : Nat} (hM : M ≠ 0) : x.den ∣ M ↔ ∃ a : Int, x = mkRat a M := by
  constructor
  · rintro ⟨c, rfl⟩
    have hc : c ≠ 0 := by intro z; subst z; exact hM (Nat.mul_zero _)
    refine ⟨x.num * c, ?_⟩
    rw [Rat.mkRat_mul_right hc, Rat.mkRat_self]
  · rintro ⟨a, rfl⟩
    exact den_mkRat_dvd a M hM
theorem den_add {x y : Rat} {M : Nat} (hM : M ≠ 0) (hx : x.den ∣ M) (hy : y.den ∣ M) : (x + y).den ∣ M := by
  obtain ⟨a, rfl⟩ := (den_iff hM).mp hx
  obtain ⟨b, rfl⟩ := (den_iff hM).mp hy
  rw [Rat.mkRat_add_mkRat _ _ hM hM]
  have e : mkRat (a * (M : Int) + b * (M : Int)) (M * M) = mkRat (a + b) M := by
    rw [← Int.add_mul, Rat.mkRat_mul_right hM]
  rw [e]
  exact den_mkRat_dvd _ _ hM
theorem den_mul {x y : Rat} {M N : Nat} (hM : M ≠ 0) (hN : N ≠ 0) (hx : x.den ∣ M) (hy : y.den ∣ N) : (x * y).den ∣ M * N := by
  obtain ⟨a, rfl⟩ := (den_iff hM).mp hx
  obtain ⟨b, rfl⟩ := (den_iff hN).mp hy
  rw [Rat.mkRat_mul_mkRat]
  exact den_mkRat_dvd _ _ (Nat.mul_ne_zero hM hN)
theorem den_neg (x : Rat) : (-x).den = x.den := rfl
theorem den_dvd_trans {x : Rat} {M N : Nat} (h : x.den ∣ M) (k : M ∣ N) : x.den ∣ N := Nat.dvd_trans h k
theorem den_le {x : Rat} {M : Nat} (hM : M ≠ 0) (h : x.den ∣ M) : x.den ≤ M := Nat.le_of_dvd (Nat.pos_of_ne_zero hM) h
/-! the numerators -/
theorem num_mkRat_le (n : Int) (d : Nat) (h : d ≠ 0) : (mkRat n d).num.natAbs ≤ n.natAbs := by
  rw [Rat.num_mkRat, if_neg h, Int.natAbs_ediv_of_dvd]
  · exact Nat.div_le_self _ _
  · have : ((d.gcd n.natAbs : Nat) : Int) ∣ n := by
      rw [Int.ofNat_dvd_left]
      exact Nat.gcd_dvd_right _ _
    exact this
theorem num_add (x y : Rat) : (x + y).num.natAbs ≤ x.num.natAbs * y.den + y.num.natAbs * x.den := by
  rw [Rat.add_def']
  refine Nat.le_trans (num_mkRat_le _ _ (Nat.mul_ne_zero x.den_nz y.den_nz)) ?_
  refine Nat.le_trans (Int.natAbs_add_le _ _) ?_
  rw [Int.natAbs_mul, Int.natAbs_mul, Int.natAbs_natCast, Int.natAbs_natCast]
  exact Nat.le_refl _
theorem num_mul (x y : Rat) : (x * y).num.natAbs ≤ x.num.natAbs * y.num.natAbs := by
  rw [Rat.mul_def']
  refine Nat.le_trans (num_mkRat_le _ _ (Nat.mul_ne_zero x.den_nz y.den_nz)) ?_
  rw [Int.natAbs_mul]
  exact Nat.le_refl _
/-- sizes: the numerator below 2^N, the denominator below 2^4400 -/
structure Sz (N : Nat) (x : Rat) : Prop where
  n : x.num.natAbs < 2 ^ N
  d : x.den < 2 ^ 4400
theorem Sz.mono {N M : Nat} {x : Rat} (h : Sz N x) (l : N ≤ M) : Sz M x := ⟨Nat.lt_of_lt_of_le h.n (Nat.pow_le_pow_right (by decide) l), h.d⟩
theorem Sz.neg {N : Nat} {x : Rat} (h : Sz N x) : Sz N (-x) := ⟨by rw [Rat.neg_num, Int.natAbs_neg]; exact h.n, h.d⟩
theorem Sz.add {N : Nat} {x y : Rat} (hx : Sz N x) (hy : Sz N y) (hd : (x + y).den < 2 ^ 4400) : Sz (N + 4401) (x + y) := by
  refine ⟨Nat.lt_of_le_of_lt (num_add x y) ?_, hd⟩
  have h1 : x.num.natAbs * y.den < 2 ^ (N + 4400) := by
    rw [Nat.pow_add]
    exact Nat.mul_lt_mul_of_lt_of_le hx.n (Nat.le_of_lt hy.d) (Nat.two_pow_pos _)
  have h2 : y.num.natAbs * x.den < 2 ^ (N + 4400) := by
    rw [Nat.pow_add]
    exact Nat.mul_lt_mul_of_lt_of_le hy.n (Nat.le_of_lt hx.d) (Nat.two_pow_pos _)
  have h3 : 2 ^ (N + 4401) = 2 ^ (N + 4400) + 2 ^ (N + 4400) := by
    rw [show N + 4401 = N + 4400 + 1 by omega, Nat.pow_succ]; omega
  omega
theorem Sz.mul {N M : Nat} {x y : Rat} (hx : Sz N x) (hy : Sz M y) (hd : (x * y).den < 2 ^ 4400) : Sz (N + M) (x * y) := by
  refine ⟨Nat.lt_of_le_of_lt (num_mul x y) ?_, hd⟩
  rw [Nat.pow_add]
  by_cases h : y.num.natAbs = 0
  · rw [h, Nat.mul_zero, ← Nat.pow_add]; exact Nat.two_pow_pos _
  · exact Nat.mul_lt_mul_of_lt_of_le hx.n (Nat.le_of_lt hy.n) (Nat.two_pow_pos _)
end FR

/-! PE4 -/
set_option Elab.async false
set_option linter.all false
set_option maxRecDepth 100000
set_option maxHeartbeats 4000000
/-! PE4 -/
namespace FR
theorem step_half {B S : Nat} (h : S ≤ B) (h0 : S ≠ 0) : 2 * (S * (B % S)) ≤ B * S := by
  have h1 : B % S < S := Nat.mod_lt _ (by omega)
  have h2 : B % S + S ≤ B := by
    have := Nat.div_add_mod B S
    have hd : 1 ≤ B / S := (Nat.le_div_iff_mul_le (by omega)).mpr (by omega)
    have : S * 1 ≤ S * (B / S) := Nat.mul_le_mul_left _ hd
    omega
  have h3 : 2 * (B % S) ≤ B := by omega
  calc 2 * (S * (B % S)) = S * (2 * (B % S)) := by rw [Nat.mul_left_comm]
    _ ≤ S * B := Nat.mul_le_mul_left _ h3
    _ = B * S := Nat.mul_comm _ _
theorem bits_lt (z : Int) : z.natAbs < 2 ^ (PySem.Builtin.Int.intBits z) := by
  unfold PySem.Builtin.Int.intBits
  split
  · rename_i h
    have : z = 0 := by simpa using h
    subst this
    decide
  · rename_i h
    exact Nat.lt_log2_self
theorem bits_le {z : Int} {N : Nat} (h : z.natAbs < 2 ^ N) : PySem.Builtin.Int.intBits z ≤ N := by
  unfold PySem.Builtin.Int.intBits
  split
  · omega
  · rename_i hz
    have hz' : z.natAbs ≠ 0 := by simpa using hz
    have := (Nat.log2_lt hz').mpr h
    omega
/-- sizes under which the operations work -/
abbrev NB : Nat := 1000000
end FR
/-! PE4: fractions as data, ranges, what is drawn from, stores. -/
namespace PD
open PySem PySem.Spec PyProof.Rows L2 FR
/-- a fraction -/
def frD (x : Rat) : D := .tup [.int x.num, .int (x.den : Int)]
theorem mok_of {i j : Int} {N M : Nat} (hi : i.natAbs < 2 ^ N) (hj : j.natAbs < 2 ^ M) (h : N + M < 134217000) : mok i j = true := by
  refine decide_eq_true ?_
  have h1 : i.natAbs.log2 ≤ N := by
    by_cases z : i.natAbs = 0
    · rw [z]; simp
    · exact Nat.le_of_lt ((Nat.log2_lt z).mpr hi)
  have h2 : j.natAbs.log2 ≤ M := by
    by_cases z : j.natAbs = 0
    · rw [z]; simp
    · exact Nat.le_of_lt ((Nat.log2_lt z).mpr hj)
  omega
theorem pyl_of {x y : Int} (h : y.natAbs < 2 ^ 9000) : Builtin.divisionGoesByPylong x y = false := by
  unfold Builtin.divisionGoesByPylong
  have h1 : (if y == 0 then 0 else y.natAbs.log2 / 30 + 1) ≤ 300 := by
    split
    · omega
    · rename_i z
      have z' : y.natAbs ≠ 0 := by simpa using z
      have := (Nat.log2_lt z').mpr h
      omega
  simp only [Bool.and_eq_false_iff, decide_eq_false_iff_not]
  left
  omega
theorem low_num {p q s : Int} (hq : q ≠ 0) (hs : s = (if q < 0 then -((Nat.gcd p.natAbs q.natAbs : Nat) : Int) else ((Nat.gcd p.natAbs q.natAbs : Nat) : Int))) : p.fdiv s = (Rat.divInt p q).num ∧ q.fdiv s = ((Rat.divInt p q).den : Int) := by
  have hg : (Nat.gcd p.natAbs q.natAbs) ≠ 0 := by
    intro z
    have := Nat.gcd_eq_zero_iff.mp z
    omega
  rw [Rat.num_divInt, Rat.den_divInt, if_neg hq]
  have e : Int.gcd q p = Nat.gcd p.natAbs q.natAbs := by rw [Int.gcd_comm]; rfl
  rw [e]
  generalize hgg : Nat.gcd p.natAbs q.natAbs = g at *
  have dp : (g : Int) ∣ p := by rw [← hgg]; exact Int.ofNat_dvd_left.mpr (Nat.gcd_dvd_left _ _)
  have dq : (g : Int) ∣ q := by rw [← hgg]; exact Int.ofNat_dvd_left.mpr (Nat.gcd_dvd_right _ _)
  obtain ⟨c, rfl⟩ := dp
  obtain ⟨d, rfl⟩ := dq
  have g0 : (g : Int) ≠ 0 := by omega
  by_cases h : (g : Int) * d < 0
  · rw [if_pos h] at hs
    subst hs
    have sg : ((g : Int) * d).sign = -1 := Int.sign_eq_neg_one_of_neg h
    have dneg : d < 0 := by
      rcases Int.lt_or_le d 0 with z | z
      · exact z
      · exact absurd h (Int.not_lt.mpr (show (0 : Int) ≤ (g : Int) * d from Int.mul_nonneg (by omega) z))
    refine ⟨?_, ?_⟩
    · rw [sg, show (g : Int) * c = -(g : Int) * (-c) by rw [Int.neg_mul_neg], Int.mul_fdiv_cancel_left _ (by omega)]
      rw [show (-1 : Int) * (-(g : Int) * -c) = g * (-c) by rw [Int.neg_mul_neg, Int.neg_mul, Int.one_mul, Int.mul_neg], Int.mul_ediv_cancel_left _ g0]
    · rw [show (g : Int) * d = -(g : Int) * (-d) by rw [Int.neg_mul_neg], Int.mul_fdiv_cancel_left _ (by omega)]
      rw [Int.neg_mul_neg, Int.natAbs_mul, Int.natAbs_natCast, Nat.mul_div_cancel_left _ (by omega)]
      omega
  · rw [if_neg h] at hs
    subst hs
    have dpos : 0 < d := by
      rcases Int.lt_or_le 0 d with z | z
      · exact z
      · rcases Int.lt_or_eq_of_le z with z | z
        · exact absurd (Int.mul_neg_of_pos_of_neg (by omega) z) h
        · subst z; exact absurd (Int.mul_zero _) hq
    have sg : ((g : Int) * d).sign = 1 := Int.sign_eq_one_of_pos (Int.mul_pos (by omega) dpos)
    refine ⟨?_, ?_⟩
    · rw [sg, Int.mul_fdiv_cancel_left _ g0, Int.one_mul, Int.mul_ediv_cancel_left _ g0]
    · rw [Int.mul_fdiv_cancel_left _ g0, Int.natAbs_mul, Int.natAbs_natCast, Nat.mul_div_cancel_left _ (by omega)]
      omega
def frP (x : Rat) : PyData := .tuple [.int x.num, .int (x.den : Int)]
theorem pyOf_fr (x : Rat) : pyOf (frD x) = some (frP x) := rfl
theorem pyOfs_fr : ∀ xs : List Rat, pyOfs (xs.map frD) = some (xs.map frP)
  | [] => rfl
  | x :: xs => by
    show (match pyOf (frD x) with
      | some p => (match pyOfs (xs.map frD) with
        | some ps => some (p :: ps)
        | none => none)
      | none => none) = _
    rw [pyOf_fr, pyOfs_fr xs]
    rfl
theorem eqv_fr (x y : Rat) : PyData.eqv (frP x) (frP y) = decide (x = y) := by
  have e : PyData.eqv (frP x) (frP y) = (x.num == y.num && ((x.den : Int) == (y.den : Int) && true)) := by
    simp [frP, PyData.eqv, PyData.eqvAll]
  rw [e]
  by_cases h : x = y
  · subst h; simp
  · rw [decide_eq_false h]
    rw [Bool.and_true, Bool.and_eq_false_iff]
    by_cases h1 : x.num = y.num
    · right
      have h2 : x.den ≠ y.den := fun z => h (Rat.ext h1 z)
      simp; omega
    · left; simpa using h1
theorem eqvAll_fr : ∀ xs ys : List Rat, PyData.eqvAll (xs.map frP) (ys.map frP) = decide (xs = ys)
  | [], [] => by simp [PyData.eqvAll]
  | [], _ :: _ => by simp [PyData.eqvAll]
  | _ :: _, [] => by simp [PyData.eqvAll]
  | x :: xs, y :: ys => by
    have e : PyData.eqvAll ((x :: xs).map frP) ((y :: ys).map frP) = (PyData.eqv (frP x) (frP y) && PyData.eqvAll (xs.map frP) (ys.map frP)) := by
      simp [PyData.eqvAll]
    rw [e, eqv_fr, eqvAll_fr xs ys]
    by_cases h1 : x = y <;> by_cases h2 : xs = ys <;> simp [h1, h2]
theorem lay_fr (x : Rat) : PyData.canLay0 (frP x) = true := by simp [frP, PyData.canLay0, PyData.canLayAll0]
theorem layAll_fr : ∀ xs : List Rat, PyData.canLayAll0 (xs.map frP) = true
  | [] => by simp [PyData.canLayAll0]
  | x :: xs => by simp [PyData.canLayAll0, lay_fr, layAll_fr xs]
theorem depth_fr (x : Rat) : PyData.depth (frP x) = 1 := by simp [frP, PyData.depth, PyData.depthAll]
theorem depthAll_fr : ∀ xs : List Rat, PyData.depthAll (xs.map frP) ≤ 1
  | [] => by simp [PyData.depthAll]
  | x :: xs => by
    have := depthAll_fr xs
    simp [PyData.depthAll, depth_fr]
    omega
theorem shaped_fr (x : Rat) : SeqAt.shaped (frP x) = true := by
  unfold SeqAt.shaped
  rw [lay_fr, depth_fr]
  rfl
theorem shaped_row (xs : List Rat) : SeqAt.shaped (.tuple (xs.map frP)) = true := by
  unfold SeqAt.shaped
  have h1 : PyData.canLay0 (.tuple (xs.map frP)) = true := by rw [PyData.canLay0]; exact layAll_fr xs
  have h2 : PyData.depth (.tuple (xs.map frP)) ≤ 64 := by
    rw [PyData.depth]
    have := depthAll_fr xs
    omega
  rw [h1, decide_eq_true h2]
  rfl
@[simp] theorem eqS_fr (x y : Rat) : eqS (frD x) (frD y) = some (decide (x = y)) := by
  show (match pyOf (frD x), pyOf (frD y) with
    | some p, some q => if SeqAt.shaped p && SeqAt.shaped q then some (PyData.eqv p q) else none
    | _, _ => none) = _
  rw [pyOf_fr, pyOf_fr]
  simp only [shaped_fr, Bool.and_self, if_true, eqv_fr]
theorem eqS_row (xs ys : List Rat) : eqS (.tup (xs.map frD)) (.tup (ys.map frD)) = some (decide (xs = ys)) := by
  have e : ∀ xs : List Rat, pyOf (.tup (xs.map frD)) = some (.tuple (xs.map frP)) := fun xs => by
    show (match pyOfs (xs.map frD) with
      | some ps => some (PyData.tuple ps)
      | none => none) = _
    rw [pyOfs_fr]
  show (match pyOf (.tup (xs.map frD)), pyOf (.tup (ys.map frD)) with
    | some p, some q => if SeqAt.shaped p && SeqAt.shaped q then some (PyData.eqv p q) else none
    | _, _ => none) = _
  rw [e, e]
  simp only [shaped_row, Bool.and_self, if_true]
  rw [PyData.eqv, eqvAll_fr]
def kRngB (x y : Val) (st : Store) : Res Iter := pick (dr st x) fun d => pick (dr st y) fun e => pick (rngS d e) fun I => .ok I st
theorem kRng2_bind {G : Gam} {ρ : Slots} {st : Store} {b : Ex} {x : Val} : kRng2 G ρ b x st = (ev G b ρ st).bind (kRngB x) := by rfl
theorem kRngB_eq {st : Store} {i j : Int} (h : rngOk i = true) (h2 : rngOk j = true) : kRngB (.fz (.int i)) (.fz (.int j)) st = .ok (.rng i (j - i).toNat) st := by
  unfold kRngB
  simp [rngS_eq h h2]
theorem rngOk_nat {k : Nat} (h : k < 2 ^ 60) : rngOk (k : Int) = true := by
  unfold rngOk; simp; omega
/-- what the law draws from -/
def IsWell (ds : List D) : Prop := ∃ (spot : Nat) (rows : List Int), rows.length ≤ 100000 ∧ ds = [.int spot, .lst (rows.map .int)]
theorem isx_1 {ex : Str → Str → Option Bool} {c t : Str} {b : Bool} (h : ex c t = some b) : isxS ex c [t] = some b := by
  show (match ex c t with | some true => some true | some false => some false | none => none) = _
  rw [h]
  cases b <;> rfl
theorem endH_nx {i : Nat} {ρ : Slots} {st : Store} (h : noExn (ρ.set i none) = true) : endH (some i) (.nx ρ st) = .nx (ρ.set i none) st := if_pos h
def frK (io n : Nat) (st : Store) : Option Cont → Res D
  | some (.fz d) => .ok d st
  | some c => if io ≤ n then .ok c.d (st.set n (.fz c.d)) else .stuck
  | none => .stuck
theorem fr_at {io n : Nat} {st : Store} : fr io (.loc n) st = frK io n st st[n]? := by
  unfold fr frK
  rfl
@[simp] theorem frK_fz {io n : Nat} {st : Store} {d : D} : frK io n st (some (.fz d)) = .ok d st := by rfl
@[simp] theorem frK_lst {n : Nat} {st : Store} {ds : List D} : frK 0 n st (some (.lst ds)) = .ok (.lst ds) (st.set n (.fz (.lst ds))) := by rfl

theorem frD_int (v : Int) : D.tup [.int v, .int 1] = frD (v : Rat) := by
  unfold frD
  rw [Rat.num_intCast, Rat.den_intCast]
  rfl
theorem fr0 (x : Rat) : idxS (frD x) (.int 0) = some (.int x.num) := by unfold frD; simp
theorem fr1 (x : Rat) : idxS (frD x) (.int 1) = some (.int (x.den : Int)) := by unfold frD; simp
end PD

/-! PE5 -/
set_option Elab.async false
set_option linter.all false
set_option maxRecDepth 100000
set_option maxHeartbeats 4000000
/-! PE5: while, kinds, lists as freezing arguments. -/
namespace PD
open PySem PySem.Spec PyProof.Rows L2 FR
theorem while_down {c : Slots → Store → Res Val} {body : Slots → Store → SR} (Inv : Nat → Slots → Store → Prop) (Done : Slots → Store → Prop)
    (step : ∀ k ρ st, Inv k ρ st → (c ρ st = .ok (.fz (.bl false)) st ∧ Done ρ st) ∨ (c ρ st = .ok (.fz (.bl true)) st ∧ ∃ k' ρ' st', k' < k ∧ (body ρ st = .nx ρ' st' ∨ body ρ st = .ct ρ' st') ∧ Inv k' ρ' st')) :
    ∀ (k : Nat) (ρ : Slots) (st : Store), Inv k ρ st → ∃ ρ' st', whileS c body ρ st = .nx ρ' st' ∧ Done ρ' st' := by
  have main : ∀ (k : Nat) (ρ : Slots) (st : Store), Inv k ρ st → ∃ n ρ' st', whileN c body n ρ st = some (.nx ρ' st') ∧ Done ρ' st' := by
    intro k
    induction k using Nat.strongRecOn with
    | ind k ih =>
      intro ρ st h
      rcases step k ρ st h with ⟨e, d⟩ | ⟨e, k', ρ', st', lt, hb, h'⟩
      · refine ⟨1, ρ, st, ?_, d⟩
        show (match c ρ st with
          | .ok (.fz (.bl true)) st => (match body ρ st with
            | .nx ρ' st' => whileN c body 0 ρ' st'
            | .ct ρ' st' => whileN c body 0 ρ' st'
            | .bk ρ' st' => some (.nx ρ' st')
            | r => some r)
          | .ok (.fz (.bl false)) st => some (.nx ρ st)
          | .exc x st => some (.exc x ρ st)
          | _ => some .stuck) = _
        rw [e]
      · obtain ⟨n, ρ2, st2, e2, d⟩ := ih k' lt ρ' st' h'
        refine ⟨n + 1, ρ2, st2, ?_, d⟩
        show (match c ρ st with
          | .ok (.fz (.bl true)) st => (match body ρ st with
            | .nx ρ' st' => whileN c body n ρ' st'
            | .ct ρ' st' => whileN c body n ρ' st'
            | .bk ρ' st' => some (.nx ρ' st')
            | r => some r)
          | .ok (.fz (.bl false)) st => some (.nx ρ st)
          | .exc x st => some (.exc x ρ st)
          | _ => some .stuck) = _
        rw [e]
        rcases hb with hb | hb <;> (simp only [hb]; exact e2)
  intro k ρ st h
  obtain ⟨n, ρ', st', e, d⟩ := main k ρ st h
  exact ⟨ρ', st', whileS_eq e, d⟩
@[simp] theorem ex_whl {G : Gam} {ρ : Slots} {st : Store} {c : Ex} {b : Sts} : ex G (.whl c b) ρ st = whileS (ev G c) (exs G b) ρ st := by rfl
section
variable {ex : Str → Str → Option Bool} {ds : List D}
@[simp] theorem isi_li : isiS ex (.lst ds) [.ty "int"] = some false := isi1 rfl (by decide +kernel)
@[simp] theorem isi_ns : isiS ex .non [.ty "str"] = some false := isi1 rfl (by decide +kernel)
@[simp] theorem isi_ls : isiS ex (.lst ds) [.ty "str"] = some false := isi1 rfl (by decide +kernel)
@[simp] theorem isi_sb {s : Str} : isiS ex (.str s) [.ty "bool"] = some false := isi1 rfl (by decide +kernel)
@[simp] theorem isi_tb : isiS ex (.tup ds) [.ty "bool"] = some false := isi1 rfl (by decide +kernel)
end
@[simp] theorem kCal2_1d {st : Store} {muts : List Bool} {f : List PD.Arg → FRes} {a d : D} : kCal2 ⟨muts, [d], f⟩ [.inl a] st = kRes [] st (f [.fz a, .fz d]) := by rfl
@[simp] theorem kCal2_2d {st : Store} {muts : List Bool} {f : List PD.Arg → FRes} {a b d : D} : kCal2 ⟨muts, [d], f⟩ [.inl a, .inl b] st = kRes [] st (f [.fz a, .fz b, .fz d]) := by rfl
@[simp] theorem kTup2_4 {st : Store} {a b c d : D} : kTup2 [a, b, c, d] st = .ok (.fz (.tup [a, b, c, d])) st := by rfl
@[simp] theorem kTup2_5 {st : Store} {a b c d e : D} : kTup2 [a, b, c, d, e] st = .ok (.fz (.tup [a, b, c, d, e])) st := by rfl
@[simp] theorem kTup2_6 {st : Store} {a b c d e f : D} : kTup2 [a, b, c, d, e, f] st = .ok (.fz (.tup [a, b, c, d, e, f])) st := by rfl
@[simp] theorem isS_bb {x y : Bool} : isS (.bl x) (.bl y) = some (x == y) := by rfl
end PD

/-! PE6 -/
set_option Elab.async false
set_option linter.all false
set_option maxRecDepth 100000
set_option maxHeartbeats 4000000
/-! PE6: texts. -/
namespace PD
open PySem PySem.Spec PyProof.Rows L2 FR
/-- a text by its code points -/
def TS (a : List Nat) : Str := ⟨a.toArray⟩
theorem ts_of (s : Str) : s = TS s.cps.toList := by obtain ⟨⟨l⟩⟩ := s; rfl
@[simp] theorem ts_len (a : List Nat) : (TS a).length = a.length := by simp [TS, Str.length]
@[simp] theorem ts_cps (a : List Nat) : (TS a).cps.toList = a := by simp [TS]
theorem ts_inj {a b : List Nat} (h : TS a = TS b) : a = b := by
  have := congrArg (fun s : Str => s.cps.toList) h
  simpa using this
theorem sgn_ts (c : Nat) : sgn c = TS [c] := by rfl
theorem ts_beq (a b : List Nat) : (TS a == TS b) = decide (a = b) := by
  by_cases h : a = b
  · subst h; simp
  · rw [decide_eq_false h]
    have : TS a ≠ TS b := fun z => h (ts_inj z)
    simpa using this
theorem idx_ts {a : List Nat} {k : Nat} {c : Nat} (hl : a.length ≤ LIM) (h : a[k]? = some c) : idxS (.str (TS a)) (.int (k : Int)) = some (.str (TS [c])) := by
  show (if (TS a).length ≤ LIM then (L2.atI (TS a).cps.toList (k : Int)).map fun c => D.str (sgn c) else none) = _
  rw [if_pos (by rw [ts_len]; exact hl), ts_cps, L2.atI_nat h]
  rfl
theorem sIx_nat {n d k : Nat} (hk : k ≤ n) : HT.sIx n d (some (k : Int)) = k := by
  unfold HT.sIx
  have : ¬ ((k : Int) < 0) := by omega
  simp [this]
  omega
theorem sIx_big {n d k : Nat} (hk : n ≤ k) : HT.sIx n d (some (k : Int)) = n := by
  unfold HT.sIx
  have : ¬ ((k : Int) < 0) := by omega
  simp [this]
  omega
/-- the piece from i to j -/
def cutN (a : List Nat) (i j : Nat) : List Nat := (a.drop i).take (j - i)
theorem cut_ts {a : List Nat} {i j : Nat} : cutS (TS a) (some (i : Int)) (some (j : Int)) = TS (cutN a i j) := by
  unfold cutS cutN
  rw [ts_len, ts_cps]
  have e1 : ∀ d k : Nat, HT.sIx a.length d (some (k : Int)) = min k a.length := fun d k => by
    by_cases h : k ≤ a.length
    · rw [sIx_nat h]; omega
    · rw [sIx_big (by omega)]; omega
  rw [e1, e1]
  show TS _ = TS _
  congr 1
  by_cases h : i ≤ a.length
  · rw [Nat.min_eq_left h]
    by_cases h2 : j ≤ a.length
    · rw [Nat.min_eq_left h2]
    · rw [Nat.min_eq_right (show a.length ≤ j by omega), List.take_of_length_le (by rw [List.length_drop]; omega), List.take_of_length_le (by rw [List.length_drop]; omega)]
  · have m : min i a.length = a.length := by omega
    rw [m, List.drop_eq_nil_of_le (Nat.le_refl a.length), List.drop_eq_nil_of_le (show a.length ≤ i by omega)]
    simp
theorem slc_ts {a : List Nat} {i j : Nat} (hl : a.length ≤ LIM) : slcS (.str (TS a)) (some (i : Int)) (some (j : Int)) = .d (.str (TS (cutN a i j))) := by
  show (if (TS a).length ≤ LIM then OpD.d (.str (cutS (TS a) (some (i : Int)) (some (j : Int)))) else .no) = _
  rw [if_pos (by rw [ts_len]; exact hl), cut_ts]
theorem cut_one {a : List Nat} {k : Nat} : cutN a k (k + 1) = (match a[k]? with | some c => [c] | none => []) := by
  unfold cutN
  rw [Nat.add_sub_cancel_left]
  cases h : a[k]? with
  | none =>
    have : a.length ≤ k := List.getElem?_eq_none_iff.mp h
    rw [List.drop_eq_nil_of_le this]; rfl
  | some c =>
    obtain ⟨hk, hc⟩ := List.getElem?_eq_some_iff.mp h
    rw [List.drop_eq_getElem_cons hk, hc]; rfl
theorem len_ts {a : List Nat} (hl : a.length ≤ LIM) : bfnS .len [.str (TS a)] = .d (.int (a.length : Int)) := by
  show (if (TS a).length ≤ LIM then OpD.d (.int ((TS a).length : Int)) else .no) = _
  rw [ts_len, if_pos hl]
theorem in_ts (c : Nat) (b : List Nat) : cmpS .inn (.str (TS [c])) (.str (TS b)) = some (decide (c ∈ b)) := by
  show (match sign? (TS [c]) with
    | some c => some (decide (c ∈ (TS b).cps.toList))
    | none => none) = _
  have : sign? (TS [c]) = some c := rfl
  rw [this, ts_cps]
theorem nin_ts (c : Nat) (b : List Nat) : cmpS .nin (.str (TS [c])) (.str (TS b)) = some (!decide (c ∈ b)) := by
  show (match sign? (TS [c]) with
    | some c => some (!decide (c ∈ (TS b).cps.toList))
    | none => none) = _
  have : sign? (TS [c]) = some c := rfl
  rw [this, ts_cps]
theorem bopS_adds {x y : List Nat} (h : x.length + y.length ≤ LIM) : bopS .add (.str (TS x)) (.str (TS y)) = .d (.str (TS (x ++ y))) := by
  show (if (TS x).length + (TS y).length ≤ LIM then OpD.d (.str (TS x ++ TS y)) else .no) = _
  rw [ts_len, ts_len, if_pos h]
  have : TS x ++ TS y = TS (x ++ y) := by
    show (⟨x.toArray ++ y.toArray⟩ : Str) = ⟨(x ++ y).toArray⟩
    simp
  rw [this]
section
variable {G : Gam} {ρ : Slots} {st : Store}
def kFst1 (x : Val) (st : Store) : Res Val := pick (dr st x) fun d => pick (fmtS d) fun s => .ok (.fz (.str s)) st
@[simp] theorem ev_fst {a : Ex} : ev G (.fst a) ρ st = (ev G a ρ st).bind kFst1 := by rfl
@[simp] theorem kFst1_eq {x : Val} : kFst1 x st = pick (dr st x) fun d => pick (fmtS d) fun s => .ok (.fz (.str s)) st := by rfl
def kFst3b (u : Str) (y : Val) (st : Store) : Res Val := pick (dr st y) fun dy => pick (fmtS dy) fun sy => pick (catS u sy) fun z => .ok (.fz (.str z)) st
def kFst3a (G : Gam) (ρ : Slots) (s : Str) (b : Ex) (x : Val) (st : Store) : Res Val := pick (dr st x) fun dx => pick (fmtS dx) fun sx => pick (cat2S sx s) fun u => (ev G b ρ st).bind (kFst3b u)
@[simp] theorem ev_fst3 {a b : Ex} {s : Str} : ev G (.fst3 a s b) ρ st = (ev G a ρ st).bind (kFst3a G ρ s b) := by rfl
@[simp] theorem kFst3a_eq {s : Str} {b : Ex} {x : Val} : kFst3a G ρ s b x st = pick (dr st x) fun dx => pick (fmtS dx) fun sx => pick (cat2S sx s) fun u => (ev G b ρ st).bind (kFst3b u) := by rfl
@[simp] theorem kFst3b_eq {u : Str} {y : Val} : kFst3b u y st = pick (dr st y) fun dy => pick (fmtS dy) fun sy => pick (catS u sy) fun z => .ok (.fz (.str z)) st := by rfl
def kJoinb (a : Str) (y : Val) (st : Store) : Res Val := pick (dr st y) fun dy => opRes (joinD a dy) st
def kJoina (G : Gam) (ρ : Slots) (b : Ex) (x : Val) (st : Store) : Res Val := pick (dr st x) fun dx => pick (txt? dx) fun a => (ev G b ρ st).bind (kJoinb a)
@[simp] theorem ev_join {a b : Ex} : ev G (.join a b) ρ st = (ev G a ρ st).bind (kJoina G ρ b) := by rfl
@[simp] theorem kJoina_eq {b : Ex} {x : Val} : kJoina G ρ b x st = pick (dr st x) fun dx => pick (txt? dx) fun a => (ev G b ρ st).bind (kJoinb a) := by rfl
@[simp] theorem kJoinb_eq {a : Str} {y : Val} : kJoinb a y st = pick (dr st y) fun dy => opRes (joinD a dy) st := by rfl
@[simp] theorem txt_str {a : Str} : txt? (.str a) = some a := by rfl
/-- try .. raise .. from: all went well -/
theorem ex_tryx_ok {j : Nat} {es : Exs} {c x f : Str} {i : Nat} {e : Ex} {v : Val} {st' : Store} (hp : (es.pur && e.pur) = true) (h : ev G (.call j es) ρ st = .ok v st') : ex G (.tryx j es c i x f e) ρ st = SR.nx ρ st' := by
  show ((if es.pur && e.pur then (match ev G (.call j es) ρ st with
    | .ok _ st => .nx ρ st
    | .exc y st => (match G.exm y.cls c with
      | some true => if noExn (ρ.set i none) = true then (ev G e (ρ.set i (some (.exn y))) st).sr ρ fun v st => (fr G.io v st).sr (ρ.set i none) fun d st => .exc ⟨x, [(f, d)]⟩ (ρ.set i none) st else .stuck
      | some false => .exc y ρ st
      | none => .stuck)
    | .stuck => .stuck) else .stuck) : SR) = _
  rw [if_pos hp, h]
/-- .. it raised, and another is raised -/
theorem ex_tryx_exc {j : Nat} {es : Exs} {c x f : Str} {i : Nat} {e : Ex} {y : XD} {st' : Store} {d : D} (hp : (es.pur && e.pur) = true) (h : ev G (.call j es) ρ st = .exc y st') (hm : G.exm y.cls c = some true) (hn : noExn (ρ.set i none) = true)
    (he : ev G e (ρ.set i (some (.exn y))) st' = .ok (.fz d) st') : ex G (.tryx j es c i x f e) ρ st = .exc ⟨x, [(f, d)]⟩ (ρ.set i none) st' := by
  show ((if es.pur && e.pur then (match ev G (.call j es) ρ st with
    | .ok _ st => .nx ρ st
    | .exc y st => (match G.exm y.cls c with
      | some true => if noExn (ρ.set i none) = true then (ev G e (ρ.set i (some (.exn y))) st).sr ρ fun v st => (fr G.io v st).sr (ρ.set i none) fun d st => .exc ⟨x, [(f, d)]⟩ (ρ.set i none) st else .stuck
      | some false => .exc y ρ st
      | none => .stuck)
    | .stuck => .stuck) else .stuck) : SR) = _
  rw [if_pos hp, h]
  show ((match G.exm y.cls c with
      | some true => if noExn (ρ.set i none) = true then (ev G e (ρ.set i (some (.exn y))) st').sr ρ fun v st => (fr G.io v st).sr (ρ.set i none) fun d st => .exc ⟨x, [(f, d)]⟩ (ρ.set i none) st else .stuck
      | some false => .exc y ρ st'
      | none => .stuck) : SR) = _
  rw [hm]
  show ((if noExn (ρ.set i none) = true then (ev G e (ρ.set i (some (.exn y))) st').sr ρ fun v st => (fr G.io v st).sr (ρ.set i none) fun d st => .exc ⟨x, [(f, d)]⟩ (ρ.set i none) st else .stuck) : SR) = _
  rw [if_pos hn, he]
  rfl
end
end PD

/-! T1 -/
set_option Elab.async false
set_option linter.all false
set_option maxRecDepth 100000
set_option maxHeartbeats 4000000
namespace K04
open PySem PD L2 FR
/-! T1: figures -/
def FIGL : List Nat := [48, 49, 50, 51, 52, 53, 54, 55, 56, 57]
def isF (c : Nat) : Bool := decide (c ∈ FIGL)
theorem fig_ts : (Str.ofString "0123456789") = TS FIGL := by decide +kernel
theorem con2 : (md.con.map (·.2))[2]? = some (.str (TS FIGL)) := by
  show some (D.str _) = some (D.str _)
  rw [← fig_ts]
def figP (a : List Nat) (k : Nat) : Bool := match a[k]? with
  | some c => isF c
  | none => false
/-- behind the figures from k on -/
def runE (a : List Nat) (k : Nat) : Nat := k + ((a.drop k).takeWhile isF).length
theorem run_step (a : List Nat) (k : Nat) : runE a k = if figP a k then runE a (k + 1) else k := by
  unfold runE figP
  cases h : a[k]? with
  | none =>
    have : a.length ≤ k := List.getElem?_eq_none_iff.mp h
    rw [List.drop_eq_nil_of_le this]
    simp
  | some c =>
    obtain ⟨hk, hc⟩ := List.getElem?_eq_some_iff.mp h
    rw [List.drop_eq_getElem_cons hk, hc, List.takeWhile_cons]
    cases hf : isF c with
    | true => simp [hf]; omega
    | false => simp [hf]
theorem run_le (a : List Nat) {k : Nat} (h : k ≤ a.length) : runE a k ≤ a.length := by
  unfold runE
  have h1 : ((a.drop k).takeWhile isF).length ≤ (a.drop k).length := (List.takeWhile_sublist _).length_le
  rw [List.length_drop] at h1
  omega
theorem le_run (a : List Nat) (k : Nat) : k ≤ runE a k := by unfold runE; omega
/-- the program's way: one figure, and more unless it is 0 -/
def figEnd (a : List Nat) (k : Nat) : Option Nat := if figP a k then some (if a[k]? = some 48 then k + 1 else runE a (k + 1)) else none
def badX (k : Nat) : XD := ⟨"BadText", [("place", .int (k : Int))]⟩
abbrev SML (a : List Nat) : Prop := a.length ≤ 100000
theorem sml_lim {a : List Nat} (h : SML a) : a.length ≤ LIM := by
  have : LIM = 16777216 := rfl
  have h' : a.length ≤ 100000 := h
  omega
theorem s0 : Str.ofString "0" = TS [48] := by decide +kernel
theorem figures_end_ok {a : List Nat} {k : Nat} (ha : SML a) : f_figures_end [.fz (.str (TS a)), .fz (.int (k : Int))] = match figEnd a k with
    | some e => .ok (.int (e : Int)) []
    | none => .exc (badX k) [] := by
  have hl := sml_lim ha
  have cc := con2
  rw [show f_figures_end = runDef (md.gam g_figures_end) ⟨3, b_figures_end⟩ from rfl, runDef_eq]
  simp only [b_figures_end, contsOf, slotsOf]
  obtain ⟨G, hG⟩ : ∃ G : Gam, G = { md.gam g_figures_end with io := ([] : List Cont).length } := ⟨_, rfl⟩
  have fns : G.fns = g_figures_end := by rw [hG]; rfl
  have io : G.io = 0 := by rw [hG]; rfl
  have con : G.con = md.con.map (·.2) := by rw [hG]; rfl
  have exq : G.exm = exmL md.exm := by rw [hG]; rfl
  have gq : g_figures_end = g_figures_end := rfl
  rw [← hG]
  rw [← con] at cc
  unfold figEnd figP
  cases h : a[k]? with
  | none =>
    have hk : a.length ≤ k := List.getElem?_eq_none_iff.mp h
    have g : decide ((a.length : Int) ≤ (k : Int)) = true := by simp; omega
    simp [len_ts hl, hk, badX, io]
  | some c =>
    obtain ⟨hk, hc⟩ := List.getElem?_eq_some_iff.mp h
    have g : ¬ a.length ≤ k := by omega
    have ix := idx_ts hl h
    cases hf : isF c with
    | false =>
      have hf' : ¬ c ∈ FIGL := by simpa [isF] using hf
      simp [len_ts hl, g, ix, cc, nin_ts, hf', badX, io, hf]
    | true =>
      have hf' : c ∈ FIGL := by simpa [isF] using hf
      obtain ⟨E, hE⟩ : ∃ E : Nat, E = (if a[k]? = some 48 then k + 1 else runE a (k + 1)) := ⟨_, rfl⟩
      rw [h] at hE
      have beq0 : (TS [c] == Str.ofString "0") = decide (c = 48) := by
        rw [s0, ts_beq]
        by_cases z : c = 48
        · subst z; simp
        · rw [decide_eq_false z, decide_eq_false (by simpa using z)]
      have wh := while_down (c := ev G (.and_ (.cmp .ne (.idx (.var 0) (.var 1)) (.lit (.str "0"))) (.and_ (.cmp .lt (.var 2) (.bfn .len (.cons (.var 0) .nil))) (.cmp .inn (.idx (.var 0) (.var 2)) (.glo 2))))) (body := exs G (.cons (.asg (.nm 2) (.bin .add (.var 2) (.lit (.int (1))))) .nil))
        (fun n ρ st => ∃ j : Nat, st = [] ∧ ρ = [some (.fz (.str (TS a))), some (.fz (.int (k : Int))), some (.fz (.int (j : Int)))] ∧ n = a.length - j ∧ j ≤ a.length ∧ (if c = 48 then j = k + 1 else runE a j = E))
        (fun ρ st => st = [] ∧ ρ = [some (.fz (.str (TS a))), some (.fz (.int (k : Int))), some (.fz (.int (E : Int)))])
        (fun n ρ st ⟨j, e1, e2, en, hj, hc2⟩ => by
          subst e1 e2
          by_cases z : c = 48
          · rw [if_pos z] at hc2
            have : E = k + 1 := by rw [hE, z]; simp
            left
            refine ⟨?_, rfl, by rw [this, hc2]⟩
            have b1 : (TS [c] == Str.ofString "0") = true := by rw [beq0]; exact decide_eq_true z
            simp only [beq_iff_eq] at b1
            simp [ix, b1]
          · rw [if_neg z] at hc2
            have b0 : (TS [c] == Str.ofString "0") = false := by rw [beq0]; exact decide_eq_false z
            cases hd : a[j]? with
            | none =>
              have hk2 : a.length ≤ j := List.getElem?_eq_none_iff.mp hd
              left
              have e3 : runE a j = j := by rw [run_step]; simp [figP, hd]
              refine ⟨?_, rfl, by rw [← hc2, e3]⟩
              have : ¬ j < a.length := by omega
              simp [ix, b0, len_ts hl, this]
            | some d =>
              obtain ⟨hj2, _⟩ := List.getElem?_eq_some_iff.mp hd
              have ij := idx_ts hl hd
              cases hfd : isF d with
              | false =>
                left
                have e3 : runE a j = j := by rw [run_step]; simp [figP, hd, hfd]
                refine ⟨?_, rfl, by rw [← hc2, e3]⟩
                have nd : ¬ d ∈ FIGL := by simpa [isF] using hfd
                simp [ix, b0, len_ts hl, hj2, ij, cc, in_ts, nd]
              | true =>
                right
                have nd : d ∈ FIGL := by simpa [isF] using hfd
                refine ⟨by simp [ix, b0, len_ts hl, hj2, ij, cc, in_ts, nd], a.length - (j + 1), [some (.fz (.str (TS a))), some (.fz (.int (k : Int))), some (.fz (.int ((j : Int) + 1)))], [], by omega, .inl (by simp), j + 1, rfl, by simp, rfl, by omega, ?_⟩
                rw [if_neg z, ← hc2, run_step a j]
                simp [figP, hd, hfd])
        (a.length - (k + 1)) [some (.fz (.str (TS a))), some (.fz (.int (k : Int))), some (.fz (.int ((k : Int) + 1)))] []
        ⟨k + 1, rfl, by simp, rfl, by omega, by
          by_cases z : c = 48
          · rw [if_pos z]
          · rw [if_neg z, hE, if_neg (by simpa using z)]⟩
      obtain ⟨ρ', st', ew, rfl, rfl⟩ := wh
      simp only [hf, if_true]
      rw [← hE]
      simp [len_ts hl, g, ix, cc, nin_ts, hf', io, ew]
end K04

/-! T2 -/
set_option Elab.async false
set_option linter.all false
set_option maxRecDepth 100000
set_option maxHeartbeats 4000000
namespace K04
open PySem PD L2 FR
/-! T2: the numbers of figures -/
theorem isF_iff {c : Nat} : isF c = true ↔ 48 ≤ c ∧ c ≤ 57 := by
  unfold isF FIGL
  simp
  omega
/-- the figures from k on -/
def digs (a : List Nat) (k : Nat) : List Nat := (a.drop k).takeWhile isF
theorem run_digs (a : List Nat) (k : Nat) : runE a k = k + (digs a k).length := rfl
theorem take_while (l : List Nat) : l.take (l.takeWhile isF).length = l.takeWhile isF := by
  induction l with
  | nil => rfl
  | cons c l ih =>
    rw [List.takeWhile_cons]
    cases isF c with
    | true => simp [ih]
    | false => simp
theorem cut_digs (a : List Nat) (k : Nat) : cutN a k (runE a k) = digs a k := by
  unfold cutN runE digs
  rw [Nat.add_sub_cancel_left]
  exact take_while _
theorem digs_all (a : List Nat) (k : Nat) : ∀ c ∈ digs a k, isF c = true := fun c hc => by
  have : ∀ l : List Nat, ∀ c ∈ l.takeWhile isF, isF c = true := by
    intro l
    induction l with
    | nil => intro c h; cases h
    | cons d l ih =>
      intro c h
      rw [List.takeWhile_cons] at h
      cases hd : isF d with
      | true =>
        rw [hd] at h
        simp only [if_true] at h
        rcases List.mem_cons.mp h with rfl | h
        · exact hd
        · exact ih c h
      | false => rw [hd] at h; simp at h
  exact this _ c hc
theorem digs_ne {a : List Nat} {k : Nat} (h : figP a k = true) : digs a k ≠ [] := by
  unfold figP at h
  unfold digs
  cases e : a[k]? with
  | none => rw [e] at h; cases h
  | some c =>
    rw [e] at h
    obtain ⟨hk, hc⟩ := List.getElem?_eq_some_iff.mp e
    rw [List.drop_eq_getElem_cons hk, hc, List.takeWhile_cons, show isF c = true from h]
    simp
def val (ds : List Nat) : Int := ((PySem.NumText.digitsVal ds : Nat) : Int)
theorem int_digs {ds : List Nat} (h : ∀ c ∈ ds, isF c = true) (hne : ds ≠ []) (hl : ds.length ≤ 640) : bfnS .int [.str (TS ds)] = .d (.int (val ds)) := by
  have e : PySem.intText? (TS ds) = some (val ds) := by
    refine intText_digits (x := TS ds) ?_ (by rw [ts_cps]; exact hne) (by rw [ts_len]; omega)
    rw [ts_cps]
    exact fun c hc => isF_iff.mp (h c hc)
  show (match PySem.intText? (TS ds) with
    | some n => if (TS ds).length ≤ 640 then OpD.d (.int n) else .no
    | none => .no) = _
  rw [e]
  show (if (TS ds).length ≤ 640 then OpD.d (.int (val ds)) else .no) = _
  rw [ts_len, if_pos hl]
theorem int_neg {ds : List Nat} (h : ∀ c ∈ ds, isF c = true) (hne : ds ≠ []) (hl : ds.length ≤ 639) : bfnS .int [.str (TS (45 :: ds))] = .d (.int (-val ds)) := by
  have e : PySem.intText? (TS (45 :: ds)) = some (-val ds) := by
    refine intText_neg (x := TS (45 :: ds)) (cs := ds) (by rw [ts_cps]) ?_ hne (by rw [ts_len, List.length_cons]; omega)
    exact fun c hc => isF_iff.mp (h c hc)
  show (match PySem.intText? (TS (45 :: ds)) with
    | some n => if (TS (45 :: ds)).length ≤ 640 then OpD.d (.int n) else .no
    | none => .no) = _
  rw [e]
  show (if (TS (45 :: ds)).length ≤ 640 then OpD.d (.int (-val ds)) else .no) = _
  rw [ts_len, List.length_cons, if_pos (by omega)]
theorem check_lowest_ok {p q : Int} : f_check_lowest [.fz (.int p), .fz (.int q)] = if q = 1 ∨ Nat.gcd p.natAbs q.natAbs ≠ 1 then .exc ⟨"BadNumber", []⟩ [] else .ok .non [] := by
  rw [show f_check_lowest = runDef (md.gam g_check_lowest) ⟨2, b_check_lowest⟩ from rfl, runDef_eq]
  simp only [b_check_lowest, contsOf, slotsOf]
  obtain ⟨G, hG⟩ : ∃ G : Gam, G = { md.gam g_check_lowest with io := ([] : List Cont).length } := ⟨_, rfl⟩
  have fns : G.fns = g_check_lowest := by rw [hG]; rfl
  have io : G.io = 0 := by rw [hG]; rfl
  have con : G.con = md.con.map (·.2) := by rw [hG]; rfl
  have exq : G.exm = exmL md.exm := by rw [hG]; rfl
  have gq : g_check_lowest = g_check_lowest := rfl
  rw [← hG]
  by_cases h1 : q = 1
  · subst h1
    simp [io]
  · have k1 : (q == 1) = false := by simpa using h1
    by_cases h2 : Nat.gcd p.natAbs q.natAbs = 1
    · have k2 : (((Nat.gcd p.natAbs q.natAbs : Nat) : Int) == 1) = true := by rw [h2]; rfl
      simp [io, k1, h1, h2]
    · have k2 : (((Nat.gcd p.natAbs q.natAbs : Nat) : Int) == 1) = false := by simp; omega
      simp [io, k1, h1, h2, k2]
/-- what a reader tells -/
inductive Out (α : Type) where
  | bad (k : Nat) | large (w : Str) | told (v : α) (e : Nat)
/-- a number's sign's place -/
def fst (a : List Nat) (s : Nat) : Nat := if a[s]? = some 45 then s + 1 else s
def scanS (a : List Nat) (s : Nat) : Out (Int × Int) :=
  let f := fst a s
  if figP a f = false then .bad f
  else if a[f]? = some 48 then (if a[s]? = some 45 then .bad f else .told (0, 1) (s + 1))
  else
    let m := runE a f
    let sg : Int := if a[s]? = some 45 then -1 else 1
    if a[m]? = some 47 then
      (if figP a (m + 1) = false ∨ a[m + 1]? = some 48 then .bad (m + 1)
      else
        let e := runE a (m + 1)
        if 400 < m - f ∨ 400 < e - (m + 1) then .large "figures"
        else if val (digs a (m + 1)) = 1 ∨ Nat.gcd (val (digs a f)).natAbs (val (digs a (m + 1))).natAbs ≠ 1 then .bad (e - 1)
        else .told (sg * val (digs a f), val (digs a (m + 1))) e)
    else if 400 < m - f then .large "figures" else .told (sg * val (digs a f), 1) m
end K04

/-! T3 -/
set_option Elab.async false
set_option linter.all false
set_option maxRecDepth 100000
set_option maxHeartbeats 8000000
namespace K04
open PySem PD L2 FR
/-! T3: the program's reader of numbers -/
def r_scan : Sts := (.cons (.asg (.nm 3) (.call 0 (.cons (.var 0) (.cons (.var 2) .nil)))) (.cons (.if_ (.and_ (.cmp .gt (.var 2) (.var 1)) (.cmp .eq (.idx (.var 0) (.var 2)) (.lit (.str "0")))) (.cons (.raisf "BadText" "place" (.var 2)) .nil) .nil) (.cons (.if_ (.or_ (.cmp .eq (.idx (.var 0) (.var 2)) (.lit (.str "0"))) (.or_ (.cmp .ge (.var 3) (.bfn .len (.cons (.var 0) .nil))) (.cmp .ne (.idx (.var 0) (.var 3)) (.lit (.str "/"))))) (.cons (.if_ (.cmp .gt (.bin .sub (.var 3) (.var 2)) (.glo 3)) (.cons (.raisf "TooLarge" "what" (.lit (.str "figures"))) .nil) .nil) (.cons (.ret (.tup (.cons (.tup (.cons (.bfn .int (.cons (.slc (.var 0) (.var 1) (.var 3)) .nil)) (.cons (.lit (.int (1))) .nil))) (.cons (.var 3) .nil)))) .nil)) .nil) (.cons (.if_ (.cmp .eq (.slc (.var 0) (.bin .add (.var 3) (.lit (.int (1)))) (.bin .add (.var 3) (.lit (.int (2))))) (.lit (.str "0"))) (.cons (.raisf "BadText" "place" (.bin .add (.var 3) (.lit (.int (1))))) .nil) .nil) (.cons (.asg (.nm 4) (.call 0 (.cons (.var 0) (.cons (.bin .add (.var 3) (.lit (.int (1)))) .nil)))) (.cons (.if_ (.or_ (.cmp .gt (.bin .sub (.var 3) (.var 2)) (.glo 3)) (.cmp .gt (.bin .sub (.bin .sub (.var 4) (.var 3)) (.lit (.int (1)))) (.glo 3))) (.cons (.raisf "TooLarge" "what" (.lit (.str "figures"))) .nil) .nil) (.cons (.asg (.nm 5) (.bfn .int (.cons (.slc (.var 0) (.var 1) (.var 3)) .nil))) (.cons (.asg (.nm 6) (.bfn .int (.cons (.slc (.var 0) (.bin .add (.var 3) (.lit (.int (1)))) (.var 4)) .nil))) (.cons (.tryx 1 (.cons (.var 5) (.cons (.var 6) .nil)) "BadNumber" 7 "BadText" "place" (.bin .sub (.var 4) (.lit (.int (1))))) (.cons (.ret (.tup (.cons (.tup (.cons (.var 5) (.cons (.var 6) .nil))) (.cons (.var 4) .nil)))) .nil))))))))))
theorem idx_tsi {a : List Nat} {k : Nat} {c : Nat} {i : Int} (hi : i = (k : Int)) (hl : a.length ≤ LIM) (h : a[k]? = some c) : idxS (.str (TS a)) (.int i) = some (.str (TS [c])) := by
  subst hi; exact idx_ts hl h
theorem slc_tsi {a : List Nat} {i j : Nat} {x y : Int} (hx : x = (i : Int)) (hy : y = (j : Int)) (hl : a.length ≤ LIM) : slcS (.str (TS a)) (some x) (some y) = .d (.str (TS (cutN a i j))) := by
  subst hx hy; exact slc_ts hl
theorem fig_i {a : List Nat} {k : Nat} {i : Int} (hi : i = (k : Int)) (ha : SML a) : f_figures_end [.fz (.str (TS a)), .fz (.int i)] = match figEnd a k with
    | some e => .ok (.int (e : Int)) []
    | none => .exc (badX k) [] := by subst hi; exact figures_end_ok ha
theorem ts_one (c d : Nat) : (TS [c] == TS [d]) = decide (c = d) := by
  rw [ts_beq]
  by_cases z : c = d
  · subst z; simp
  · rw [decide_eq_false z, decide_eq_false (by simpa using z)]
theorem sSl : Str.ofString "/" = TS [47] := by decide +kernel
theorem sMi : Str.ofString "-" = TS [45] := by decide +kernel
def outX (o : Out (Int × Int)) : FRes := match o with
  | .bad k => .exc (badX k) []
  | .large w => .exc ⟨"TooLarge", [("what", .str w)]⟩ []
  | .told v e => .ok (.tup [.tup [.int v.1, .int v.2], .int (e : Int)]) []
theorem figEnd_0 {a : List Nat} {k : Nat} (h : figP a k = false) : figEnd a k = none := by unfold figEnd; rw [h]; rfl
theorem figEnd_z {a : List Nat} {k : Nat} (h : a[k]? = some 48) : figEnd a k = some (k + 1) := by
  have : figP a k = true := by unfold figP; rw [h]; rfl
  unfold figEnd
  rw [this, h]; rfl
theorem figEnd_1 {a : List Nat} {k : Nat} (h : figP a k = true) (h0 : a[k]? ≠ some 48) : figEnd a k = some (runE a k) := by
  unfold figEnd
  rw [run_step a k, h, if_neg h0]
  rfl
/-- what the sign makes of the figures -/
theorem int_sg {a : List Nat} {s : Nat} (h : figP a (fst a s) = true) (hl : runE a (fst a s) - fst a s ≤ 400) :
    bfnS .int [.str (TS (cutN a s (runE a (fst a s))))] = .d (.int ((if a[s]? = some 45 then -1 else 1) * val (digs a (fst a s)))) := by
  have e1 := digs_all a (fst a s)
  have e2 := digs_ne h
  have e3 : (digs a (fst a s)).length ≤ 400 := by rw [run_digs] at hl; omega
  unfold fst at *
  by_cases hn : a[s]? = some 45
  · rw [if_pos hn] at *
    have ec : cutN a s (runE a (s + 1)) = 45 :: digs a (s + 1) := by
      obtain ⟨hk, hc⟩ := List.getElem?_eq_some_iff.mp hn
      unfold cutN
      rw [List.drop_eq_getElem_cons hk, hc, run_digs, show s + 1 + (digs a (s + 1)).length - s = (digs a (s + 1)).length + 1 by omega, List.take_succ_cons]
      congr 1
      exact take_while _
    rw [ec, int_neg e1 e2 (by omega), if_pos hn]
    congr 2
    omega
  · rw [if_neg hn] at *
    rw [cut_digs, int_digs e1 e2 (by omega), if_neg hn]
    congr 2
    omega
theorem val48 : val [48] = 0 := by decide +kernel
theorem run_lt {a : List Nat} {k : Nat} (h : figP a k = true) : k < runE a k := by
  rw [run_step, h, if_pos rfl]
  have := le_run a (k + 1)
  omega
theorem fig_lt {a : List Nat} {k : Nat} (h : figP a k = true) : ∃ c, a[k]? = some c ∧ isF c = true := by
  unfold figP at h
  cases e : a[k]? with
  | none => rw [e] at h; cases h
  | some c => rw [e] at h; exact ⟨c, rfl, h⟩
theorem rest_ok {G : Gam} (fns : G.fns = g_scan_number) (io : G.io = 0) (con : G.con = md.con.map (·.2)) (exq : G.exm = exmL md.exm) {a : List Nat} {s f : Nat} (ha : SML a) (hf : f = K04.fst a s) :
    PD.fin 0 (exs G r_scan [some (.fz (.str (TS a))), some (.fz (.int (s : Int))), some (.fz (.int (f : Int))), none, none, none, none, none] []) = outX (scanS a s) := by
  have hl := sml_lim ha
  have c3 : G.con[3]? = some (.int 400) := by rw [con]; rfl
  have gq : g_scan_number = g_scan_number := rfl
  have fe := figures_end_ok (k := f) ha
  unfold scanS
  simp only [r_scan]
  by_cases hp : figP a f = false
  · rw [figEnd_0 hp] at fe
    simp only at fe
    simp [← hf, fns, gq, g_scan_number, io, fe, hp, outX]
  · have hp : figP a f = true := by simpa using hp
    obtain ⟨c, hc, hcf⟩ := fig_lt hp
    have ix := idx_ts hl hc
    have gt : ((s : Int) < (f : Int)) ↔ a[s]? = some 45 := by
      rw [hf]; unfold K04.fst
      by_cases h : a[s]? = some 45
      · rw [if_pos h]; simp [h]; omega
      · rw [if_neg h]; simp [h]
    by_cases hz : a[f]? = some 48
    · rw [figEnd_z hz] at fe
      simp only at fe
      rw [hz] at hc
      cases hc
      by_cases hn : a[s]? = some 45
      · have g : (s : Int) < (f : Int) := gt.mpr hn
        simp [← hf, fns, gq, g_scan_number, io, fe, hp, outX, hz, hn, g, ix, s0, badX]
      · have g : ¬ (s : Int) < (f : Int) := fun z => hn (gt.mp z)
        have fs : f = s := by rw [hf]; unfold K04.fst; rw [if_neg hn]
        have sl : slcS (.str (TS a)) (some (s : Int)) (some ((f : Int) + 1)) = .d (.str (TS [48])) := by
          rw [slc_tsi (i := s) (j := s + 1) rfl (by omega) hl, cut_one, ← fs, hz]
        have iv := int_digs (ds := [48]) (by decide) (by decide) (by decide)
        rw [val48] at iv
        have l4 : ¬ (400 : Int) < (f : Int) + 1 - (f : Int) := by omega
        simp [← hf, fns, gq, g_scan_number, io, fe, hp, outX, hz, hn, g, ix, s0, c3, sl, iv, l4]
        omega
    · have c48 : c ≠ 48 := fun z => hz (by rw [hc, z])
      have b0 : (TS [c] == Str.ofString "0") = false := by rw [s0, ts_one]; exact decide_eq_false c48
      rw [figEnd_1 hp hz] at fe
      simp only at fe
      have isg := int_sg (a := a) (s := s)
      rw [← hf] at isg
      have isg := isg hp
      have hfm := run_lt hp
      have d1 := digs_all a f
      obtain ⟨m, hm⟩ : ∃ m, m = runE a f := ⟨_, rfl⟩
      rw [← hm] at fe isg hfm
      have nP : (if a[s]? = some 45 then (-1 : Int) else 1) * val (digs a f) = (if a[s]? = some 45 then (-1 : Int) else 1) * val (digs a f) := rfl
      obtain ⟨P, hP⟩ : ∃ P : Int, P = (if a[s]? = some 45 then (-1 : Int) else 1) * val (digs a f) := ⟨_, rfl⟩
      have nAbs : P.natAbs = (val (digs a f)).natAbs := by
        rw [hP]
        split <;> simp
      rw [← hP] at isg
      have sm : slcS (.str (TS a)) (some (s : Int)) (some (m : Int)) = .d (.str (TS (cutN a s m))) := slc_ts hl
      have big : ((400 : Int) < (m : Int) - (f : Int)) ↔ 400 < m - f := by omega
      by_cases h47 : a[m]? = some 47
      · have im := idx_ts hl h47
        have bm : (TS [47] == Str.ofString "/") = true := by rw [sSl, ts_one]; rfl
        simp only [beq_iff_eq] at bm
        have i3 : ¬ a.length ≤ m := by have := (List.getElem?_eq_some_iff.mp h47).1; omega
        have s2 : slcS (.str (TS a)) (some ((m : Int) + 1)) (some ((m : Int) + 2)) = .d (.str (TS (cutN a (m + 1) (m + 2)))) := slc_tsi (by omega) (by omega) hl
        have fe2 := fig_i (i := (m : Int) + 1) (k := m + 1) (by omega) ha
        have hX : badX (m + 1) = ⟨"BadText", [("place", .int ((m : Int) + 1))]⟩ := by unfold badX; rw [Int.natCast_add]; rfl
        by_cases h48 : a[m + 1]? = some 48
        · rw [cut_one, h48] at s2
          simp only at s2
          simp [← hf, ← hm, fns, gq, g_scan_number, io, fe, hp, outX, hz, ix, b0, len_ts hl, im, bm, i3, h47, s2, h48, ← s0, hX]
        · have ne0 : (TS (cutN a (m + 1) (m + 2)) == Str.ofString "0") = false := by
            rw [cut_one, s0, ts_beq]
            refine decide_eq_false fun z => h48 ?_
            cases e : a[m + 1]? with
            | none => rw [e] at z; cases z
            | some d => rw [e] at z; cases z; rfl
          by_cases hp2 : figP a (m + 1) = false
          · rw [figEnd_0 hp2] at fe2
            simp only at fe2
            simp [← hf, ← hm, fns, gq, g_scan_number, io, fe, hp, outX, hz, ix, b0, len_ts hl, im, bm, i3, h47, s2, h48, ne0, fe2, hp2, hX]
          · have hp2 : figP a (m + 1) = true := by simpa using hp2
            rw [figEnd_1 hp2 h48] at fe2
            simp only at fe2
            have hme := run_lt hp2
            have q1 := digs_all a (m + 1)
            have q2 := digs_ne hp2
            have q3 : (digs a (m + 1)).length = runE a (m + 1) - (m + 1) := by rw [run_digs]; omega
            have q4 := cut_digs a (m + 1)
            obtain ⟨e, he⟩ : ∃ e, e = runE a (m + 1) := ⟨_, rfl⟩
            rw [← he] at fe2 hme q3 q4
            have big2 : ((400 : Int) < (e : Int) - (m : Int) - 1) ↔ 400 < e - (m + 1) := by omega
            by_cases hb : 400 < m - f
            · have hb2 := big.mpr hb
              simp [← hf, ← hm, ← he, fns, gq, g_scan_number, io, fe, hp, outX, hz, ix, b0, len_ts hl, im, bm, i3, h47, s2, h48, ne0, fe2, hp2, c3, hb, hb2]
            · have hb2 : ¬ (400 : Int) < (m : Int) - (f : Int) := fun z => hb (big.mp z)
              by_cases hb3 : 400 < e - (m + 1)
              · have hb4 := big2.mpr hb3
                simp [← hf, ← hm, ← he, fns, gq, g_scan_number, io, fe, hp, outX, hz, ix, b0, len_ts hl, im, bm, i3, h47, s2, h48, ne0, fe2, hp2, c3, hb, hb2, hb3, hb4]
              · have hb4 : ¬ (400 : Int) < (e : Int) - (m : Int) - 1 := fun z => hb3 (big2.mp z)
                have isg := isg (by omega)
                have se : slcS (.str (TS a)) (some ((m : Int) + 1)) (some (e : Int)) = .d (.str (TS (digs a (m + 1)))) := by
                  rw [slc_tsi (i := m + 1) (j := e) (by omega) rfl hl, q4]
                have iq := int_digs q1 q2 (by omega)
                obtain ⟨Q, hQ⟩ : ∃ Q : Int, Q = val (digs a (m + 1)) := ⟨_, rfl⟩
                rw [← hQ] at iq
                by_cases hg : Q = 1 ∨ Nat.gcd (val (digs a f)).natAbs Q.natAbs ≠ 1
                · have ck : f_check_lowest [.fz (.int P), .fz (.int Q)] = .exc ⟨"BadNumber", []⟩ [] := by rw [check_lowest_ok, if_pos (by rw [nAbs]; exact hg)]
                  have cv : ev G (.call 1 (.cons (.var 5) (.cons (.var 6) .nil))) [some (.fz (.str (TS a))), some (.fz (.int (s : Int))), some (.fz (.int (f : Int))), some (.fz (.int (m : Int))), some (.fz (.int (e : Int))), some (.fz (.int P)), some (.fz (.int Q)), none] [] = .exc ⟨"BadNumber", []⟩ [] := by
                    simp [fns, gq, g_scan_number, io, ck]
                  have tr := ex_tryx_exc (c := "BadNumber") (x := "BadText") (f := "place") (i := 7) (e := .bin .sub (.var 4) (.lit (.int (1)))) (d := .int ((e : Int) - 1)) (by rfl) cv (by rw [exq]; decide +kernel) (by rfl) (by simp)
                  have eX : badX (e - 1) = ⟨"BadText", [("place", .int ((e : Int) - 1))]⟩ := by unfold badX; rw [show ((e - 1 : Nat) : Int) = (e : Int) - 1 by omega]
                  simp [← hf, ← hm, ← he, ← hP, ← hQ, fns, gq, g_scan_number, io, fe, hp, outX, hz, ix, b0, len_ts hl, im, bm, i3, h47, s2, h48, ne0, fe2, hp2, c3, hb, hb2, hb3, hb4, sm, isg, se, iq, tr, hg, eX]
                · have ck : f_check_lowest [.fz (.int P), .fz (.int Q)] = .ok .non [] := by rw [check_lowest_ok, if_neg (by rw [nAbs]; exact hg)]
                  have cv : ev G (.call 1 (.cons (.var 5) (.cons (.var 6) .nil))) [some (.fz (.str (TS a))), some (.fz (.int (s : Int))), some (.fz (.int (f : Int))), some (.fz (.int (m : Int))), some (.fz (.int (e : Int))), some (.fz (.int P)), some (.fz (.int Q)), none] [] = .ok (.fz .non) [] := by
                    simp [fns, gq, g_scan_number, io, ck]
                  have tr := ex_tryx_ok (c := "BadNumber") (x := "BadText") (f := "place") (i := 7) (e := .bin .sub (.var 4) (.lit (.int (1)))) (by rfl) cv
                  simp [← hf, ← hm, ← he, ← hP, ← hQ, fns, gq, g_scan_number, io, fe, hp, outX, hz, ix, b0, len_ts hl, im, bm, i3, h47, s2, h48, ne0, fe2, hp2, c3, hb, hb2, hb3, hb4, sm, isg, se, iq, tr, hg]
      · have go : (decide ((a.length : Int) ≤ (m : Int)) = true) ∨ ∃ d, idxS (.str (TS a)) (.int (m : Int)) = some (.str (TS [d])) ∧ (TS [d] == Str.ofString "/") = false ∧ m < a.length := by
          cases e : a[m]? with
          | none => exact .inl (by have := List.getElem?_eq_none_iff.mp e; simp; omega)
          | some d => exact .inr ⟨d, idx_ts hl e, by rw [sSl, ts_one]; exact decide_eq_false (fun z => h47 (by rw [e, z])), (List.getElem?_eq_some_iff.mp e).1⟩
        by_cases hb : 400 < m - f
        · have hb2 := big.mpr hb
          rcases go with go | ⟨d, i1, i2, i3⟩
          · have go' : a.length ≤ m := by have := of_decide_eq_true go; omega
            simp [← hf, ← hm, fns, gq, g_scan_number, io, fe, hp, outX, hz, ix, b0, len_ts hl, go', c3, hb, hb2, h47]
          · have i3' : ¬ a.length ≤ m := by omega
            simp [← hf, ← hm, fns, gq, g_scan_number, io, fe, hp, outX, hz, ix, b0, len_ts hl, i1, i2, i3', c3, hb, hb2, h47]
        · have hb2 : ¬ (400 : Int) < (m : Int) - (f : Int) := fun z => hb (big.mp z)
          have isg := isg (by omega)
          rcases go with go | ⟨d, i1, i2, i3⟩
          · have go' : a.length ≤ m := by have := of_decide_eq_true go; omega
            simp [← hf, ← hm, ← hP, fns, gq, g_scan_number, io, fe, hp, outX, hz, ix, b0, len_ts hl, go', c3, hb, hb2, h47, sm, isg]
          · have i3' : ¬ a.length ≤ m := by omega
            simp [← hf, ← hm, ← hP, fns, gq, g_scan_number, io, fe, hp, outX, hz, ix, b0, len_ts hl, i1, i2, i3', c3, hb, hb2, h47, sm, isg]
theorem b_split : b_scan_number = .cons (.asg (.nm 2) (.var 1)) (.cons (.if_ (.and_ (.cmp .lt (.var 1) (.bfn .len (.cons (.var 0) .nil))) (.cmp .eq (.idx (.var 0) (.var 1)) (.lit (.str "-")))) (.cons (.asg (.nm 2) (.bin .add (.var 1) (.lit (.int (1))))) .nil) .nil) r_scan) := rfl
theorem scan_number_ok {a : List Nat} {s : Nat} (ha : SML a) : f_scan_number [.fz (.str (TS a)), .fz (.int (s : Int))] = outX (scanS a s) := by
  have hl := sml_lim ha
  rw [show f_scan_number = runDef (md.gam g_scan_number) ⟨8, b_scan_number⟩ from rfl, runDef_eq, b_split]
  simp only [contsOf, slotsOf]
  obtain ⟨G, hG⟩ : ∃ G : Gam, G = { md.gam g_scan_number with io := ([] : List Cont).length } := ⟨_, rfl⟩
  have fns : G.fns = g_scan_number := by rw [hG]; rfl
  have io : G.io = 0 := by rw [hG]; rfl
  have con : G.con = md.con.map (·.2) := by rw [hG]; rfl
  have exq : G.exm = exmL md.exm := by rw [hG]; rfl
  rw [← hG]
  have rest := fun f hf => rest_ok fns io con exq (s := s) (f := f) ha hf
  cases h : a[s]? with
  | none =>
    have hk : a.length ≤ s := List.getElem?_eq_none_iff.mp h
    have nk : ¬ s < a.length := by omega
    have r := rest s (by unfold K04.fst; rw [h]; rfl)
    simp [len_ts hl, nk]
    exact r
  | some c =>
    obtain ⟨hk, _⟩ := List.getElem?_eq_some_iff.mp h
    have ix := idx_ts hl h
    by_cases hc : c = 45
    · subst hc
      have bm : TS [45] = Str.ofString "-" := sMi.symm
      have r := rest (s + 1) (by unfold K04.fst; rw [h]; rfl)
      rw [show ((s + 1 : Nat) : Int) = (s : Int) + 1 by omega] at r
      simp [len_ts hl, hk, ix, bm]
      exact r
    · have bm : (TS [c] == Str.ofString "-") = false := by rw [sMi, ts_one]; exact decide_eq_false hc
      have r := rest s (by unfold K04.fst; rw [h, if_neg (by simpa using hc)])
      simp [len_ts hl, hk, ix, bm]
      exact r
end K04

/-! T4g -/
set_option Elab.async false
set_option linter.all false
set_option maxRecDepth 100000
set_option maxHeartbeats 4000000
namespace K04
open PySem PD L2 FR
/-! F3 -/
/-- what holds before turn i of Euclid's loop -/
def GInv (a b : Nat) (i : Nat) (ρ : Slots) (st : Store) : Prop := st = [] ∧ ∃ (B S : Nat) (x y t r : Option Val), ρ = [x, y, some (.fz (.int (B : Int))), some (.fz (.int (S : Int))), t, r] ∧ Nat.gcd B S = Nat.gcd a b ∧
  (i = 0 → B = a ∧ S = b) ∧ (i ≠ 0 → S < B ∧ B * S * 2 ^ (i - 1) ≤ a * b)
theorem gcd_turn {G : Gam} {a b i n : Nat} {ρ : Slots} {st : Store} (h : GInv a b i ρ st) :
    (∃ ρ' st', fBody G (.nm 4) lp0_law_gcd (.int ((0 : Int) + i)) ρ st = .nx ρ' st' ∧ GInv a b (i + 1) ρ' st') ∨ (fBody G (.nm 4) lp0_law_gcd (.int ((0 : Int) + i)) ρ st = .rt (.int ((Nat.gcd a b : Nat) : Int)) []) := by
  obtain ⟨rfl, B, S, x, y, t, r, rfl, hg, h0, h1⟩ := h
  by_cases hS : S = 0
  · right
    subst hS
    have : B = Nat.gcd a b := by rw [← hg]; simp
    subst this
    simp [lp0_law_gcd]
  · left
    have k0 : ((S : Int) == 0) = false := by simp; omega
    have sn : (S : Int) ≠ 0 := by omega
    refine ⟨[x, y, some (.fz (.int (S : Int))), some (.fz (.int ((B % S : Nat) : Int))), some (.fz (.int ((0 : Int) + i))), some (.fz (.int ((B % S : Nat) : Int)))], [], ?_, rfl, S, B % S, _, _, _, _, rfl, ?_, ?_, ?_⟩
    · have e : (B : Int).fmod (S : Int) = ((B % S : Nat) : Int) := by
        rw [Int.fmod_eq_emod_of_nonneg _ (by omega)]; rfl
      simp [lp0_law_gcd, k0, bopS_mod sn, e]
    · rw [← hg, Nat.gcd_comm B S, Nat.gcd_rec S B, Nat.gcd_comm]
    · intro z; omega
    · intro _
      have hm : B % S < S := Nat.mod_lt _ (by omega)
      refine ⟨hm, ?_⟩
      rw [Nat.add_sub_cancel]
      by_cases hi : i = 0
      · obtain ⟨rfl, rfl⟩ := h0 hi
        subst hi
        rw [Nat.pow_zero, Nat.mul_one]
        calc S * (B % S) ≤ S * B := Nat.mul_le_mul_left _ (Nat.mod_le _ _)
          _ = B * S := Nat.mul_comm _ _
      · obtain ⟨h2, h3⟩ := h1 hi
        have hh := step_half (B := B) (S := S) (by omega) hS
        have e : 2 ^ i = 2 * 2 ^ (i - 1) := by
          rw [show i = (i - 1) + 1 by omega, Nat.pow_succ]; simp; rw [Nat.mul_comm]
        rw [e]
        calc S * (B % S) * (2 * 2 ^ (i - 1)) = 2 * (S * (B % S)) * 2 ^ (i - 1) := by
              rw [← Nat.mul_assoc, Nat.mul_comm (S * (B % S)) 2]
          _ ≤ B * S * 2 ^ (i - 1) := Nat.mul_le_mul_right _ hh
          _ ≤ a * b := h3
theorem gcd_ok {a b : Int} (ba : Builtin.Int.intBits a ≤ 4000000) (bb : Builtin.Int.intBits b ≤ 4000000) : f_law_gcd [.fz (.int a), .fz (.int b)] = .ok (.int ((Nat.gcd a.natAbs b.natAbs : Nat) : Int)) [] := by
  have abs : ∀ z : Int, (if z < 0 then -z else z) = ((z.natAbs : Nat) : Int) := fun z => by split <;> omega
  have bitsAbs : ∀ z : Int, Builtin.Int.intBits ((z.natAbs : Nat) : Int) = Builtin.Int.intBits z := fun z => by
    unfold Builtin.Int.intBits
    simp
  generalize hA : Builtin.Int.intBits a = A at *
  generalize hB : Builtin.Int.intBits b = Bb at *
  have m1 : mok 2 (A : Int) = true := by
    refine mok_of (N := 2) (M := 30) (by decide) ?_ (by decide)
    rw [Int.natAbs_natCast]
    exact Nat.lt_of_le_of_lt ba (show 4000000 < 2 ^ 30 by decide)
  have m2 : mok 2 (Bb : Int) = true := by
    refine mok_of (N := 2) (M := 30) (by decide) ?_ (by decide)
    rw [Int.natAbs_natCast]
    exact Nat.lt_of_le_of_lt bb (show 4000000 < 2 ^ 30 by decide)
  have r1 : rngOk 0 = true := by decide
  have r2 : rngOk (2 * (A : Int) + 2 * (Bb : Int) + 10) = true := by
    unfold rngOk
    simp
    omega
  obtain ⟨n, hn0⟩ : ∃ n, n = 2 * A + 2 * Bb + 10 := ⟨_, rfl⟩
  have hn : (2 * (A : Int) + 2 * (Bb : Int) + 10).toNat = n := by omega
  have start : GInv a.natAbs b.natAbs 0 [some (.fz (.int a)), some (.fz (.int b)), some (.fz (.int (a.natAbs : Int))), some (.fz (.int (b.natAbs : Int))), none, none] [] :=
    ⟨rfl, _, _, _, _, _, _, rfl, rfl, fun _ => ⟨rfl, rfl⟩, fun z => absurd rfl z⟩
  obtain ⟨G, hG⟩ : ∃ G : Gam, G = { md.gam g_law_gcd with io := 0 } := ⟨_, rfl⟩
  have loop := for_out (I := .rng 0 n) (body := fBody G (.nm 4) lp0_law_gcd) (n := n) (GInv a.natAbs b.natAbs) (fun r => r = .rt (.int ((Nat.gcd a.natAbs b.natAbs : Nat) : Int)) []) (fun i ρ st _ _ => rfl)
    (fun i ρ st hi h => ⟨_, rfl, by
      rcases gcd_turn (G := G) (n := 0) h with ⟨ρ', st', e, k⟩ | e
      · exact .inl ⟨ρ', st', .inl e, k⟩
      · exact .inr ⟨⟨_, _, e⟩, e⟩⟩) n 0 _ _ (by omega) start
  have fin : ∀ {ρ' : Slots} {st' : Store}, GInv a.natAbs b.natAbs n ρ' st' → st' = [] ∧ ρ'[2]? = some (some (.fz (.int ((Nat.gcd a.natAbs b.natAbs : Nat) : Int)))) := fun {ρ' st'} h => by
    obtain ⟨e, B, S, x, y, t, r, rfl, hg, _, h1⟩ := h
    obtain ⟨h2, h3⟩ := h1 (by omega)
    have hS : S = 0 := by
      rcases Nat.eq_zero_or_pos S with z | z
      · exact z
      · exfalso
        have p1 : a.natAbs * b.natAbs < 2 ^ A * 2 ^ Bb := by
          have q1 := bits_lt a
          have q2 := bits_lt b
          rw [hA] at q1
          rw [hB] at q2
          exact Nat.mul_lt_mul_of_lt_of_le q1 (Nat.le_of_lt q2) (Nat.two_pow_pos _)
        rw [← Nat.pow_add] at p1
        have p2 : 2 ^ (A + Bb) ≤ 2 ^ (n - 1) := Nat.pow_le_pow_right (by decide) (by omega)
        have p3 : 1 * 2 ^ (n - 1) ≤ B * S * 2 ^ (n - 1) := Nat.mul_le_mul_right _ (Nat.mul_pos (by omega) z)
        omega
    subst hS
    refine ⟨e, ?_⟩
    rw [← hg]
    simp
  simp only [f_law_gcd, runDef, b_law_gcd, contsOf, slotsOf]
  have eG : ({ md.gam g_law_gcd with io := ([] : List Cont).length } : Gam) = G := by rw [hG]; rfl
  rw [eG]
  rcases loop with ⟨ρ', st', e, k⟩ | e
  · obtain ⟨e1, e2⟩ := fin k
    simp [abs, bitsAbs, hA, hB, bopS_mul m1, bopS_mul m2, kRng_eq r1 r2, hn, e, e1, ev_var e2]

  · simp [abs, bitsAbs, hA, hB, bopS_mul m1, bopS_mul m2, kRng_eq r1 r2, hn, e]

end K04

/-! T4 -/
set_option Elab.async false
set_option linter.all false
set_option maxRecDepth 100000
set_option maxHeartbeats 8000000
namespace K04
open PySem PD L2 FR
/-! T4: the law's reader of numbers -/
theorem law_is_figure_ok {a : List Nat} {k : Nat} {i : Int} (hi : i = (k : Int)) (ha : SML a) : f_law_is_figure [.fz (.str (TS a)), .fz (.int i)] = .ok (.bl (figP a k)) [] := by
  have hl := sml_lim ha
  have sl := slc_tsi (x := i) (y := i + 1) (i := k) (j := k + 1) hi (by omega) hl
  rw [cut_one] at sl
  have hi2 : SML [] := by decide
  rw [show f_law_is_figure = runDef (md.gam g_law_is_figure) ⟨3, b_law_is_figure⟩ from rfl, runDef_eq]
  simp only [b_law_is_figure, contsOf, slotsOf]
  obtain ⟨G, hG⟩ : ∃ G : Gam, G = { md.gam g_law_is_figure with io := ([] : List Cont).length } := ⟨_, rfl⟩
  have fns : G.fns = g_law_is_figure := by rw [hG]; rfl
  have io : G.io = 0 := by rw [hG]; rfl
  have con : G.con = md.con.map (·.2) := by rw [hG]; rfl
  have exq : G.exm = exmL md.exm := by rw [hG]; rfl
  have gq : g_law_is_figure = g_law_is_figure := rfl
  rw [← hG]
  unfold figP
  cases h : a[k]? with
  | none =>
    rw [h] at sl
    simp only at sl
    have l0 := len_ts (a := []) (by decide)
    simp [io, sl, l0]
  | some c =>
    rw [h] at sl
    simp only at sl
    have l1 := len_ts (a := [c]) (by unfold LIM; simp)
    have iN := in_ts c FIGL
    simp [io, sl, l1, fig_ts, iN, isF]
theorem law_run_ok {a : List Nat} {k : Nat} {i : Int} (hi : i = (k : Int)) (ha : SML a) : f_law_run [.fz (.str (TS a)), .fz (.int i)] = .ok (.int (runE a k : Nat)) [] := by
  subst hi
  have hl := sml_lim ha
  have hf := fun (j : Nat) => law_is_figure_ok (a := a) (k := j) (i := (j : Int)) rfl ha
  have r1 : rngOk 0 = true := by decide
  have r2 : rngOk (a.length : Int) = true := rngOk_nat (by have h' : a.length ≤ 100000 := ha; omega)
  rw [show f_law_run = runDef (md.gam g_law_run) ⟨4, b_law_run⟩ from rfl, runDef_eq]
  simp only [b_law_run, contsOf, slotsOf]
  obtain ⟨G, hG⟩ : ∃ G : Gam, G = { md.gam g_law_run with io := ([] : List Cont).length } := ⟨_, rfl⟩
  have fns : G.fns = g_law_run := by rw [hG]; rfl
  have io : G.io = 0 := by rw [hG]; rfl
  have con : G.con = md.con.map (·.2) := by rw [hG]; rfl
  have exq : G.exm = exmL md.exm := by rw [hG]; rfl
  have gq : g_law_run = g_law_run := rfl
  rw [← hG]
  have loop := for_out (I := .rng 0 a.length) (body := fBody G (.nm 3) lp0_law_run) (n := a.length)
    (fun i ρ st => st = [] ∧ ∃ (j : Nat) (t : Option Val), ρ = [some (.fz (.str (TS a))), some (.fz (.int (k : Int))), some (.fz (.int (j : Int))), t] ∧ j = k + i ∧ runE a j = runE a k)
    (fun r => r = .rt (.int ((runE a k : Nat) : Int)) []) (fun i ρ st _ _ => rfl)
    (fun i ρ st hi ⟨e1, j, t, e2, e3, e4⟩ => ⟨_, rfl, by
      subst e1 e2
      have f := hf j
      cases hp : figP a j with
      | true =>
        rw [hp] at f
        left
        refine ⟨[some (.fz (.str (TS a))), some (.fz (.int (k : Int))), some (.fz (.int ((j : Int) + 1))), some (.fz (.int ((0 : Int) + i)))], [], .inl ?_, rfl, j + 1, some (.fz (.int ((0 : Int) + i))), by simp, by omega, ?_⟩
        · simp [lp0_law_run, fns, gq, g_law_run, io, f]
        · rw [← e4, run_step a j, hp]; rfl
      | false =>
        rw [hp] at f
        have e5 : runE a j = j := by rw [run_step, hp]; rfl
        have e6 : fBody G (.nm 3) lp0_law_run (.int ((0 : Int) + i)) [some (.fz (.str (TS a))), some (.fz (.int (k : Int))), some (.fz (.int (j : Int))), t] [] = .rt (.int ((runE a k : Nat) : Int)) [] := by
          rw [← e4, e5]
          simp [lp0_law_run, fns, gq, g_law_run, io, f]
        exact .inr ⟨⟨_, _, e6⟩, e6⟩⟩) a.length 0 [some (.fz (.str (TS a))), some (.fz (.int (k : Int))), some (.fz (.int (k : Int))), none] [] (by omega) ⟨rfl, k, none, rfl, by omega, rfl⟩
  rcases loop with ⟨ρ', st', e, rfl, j, t, rfl, e3, e4⟩ | e
  · have hj : runE a j = j := by
      rw [run_step]
      have : figP a j = false := by unfold figP; rw [List.getElem?_eq_none (by omega)]
      rw [this]; rfl
    rw [← e4, hj]
    simp [len_ts hl, kRng_eq r1 r2, e, io]
  · simp [len_ts hl, kRng_eq r1 r2, e, io]
end K04

/-! T5 -/
set_option Elab.async false
set_option linter.all false
set_option maxRecDepth 100000
set_option maxHeartbeats 8000000
namespace K04
open PySem PD L2 FR
/-! T5: the law's reader of numbers, the end -/
def r_lscan : Sts := (.cons (.if_ (.not_ (.tru (.call 0 (.cons (.var 0) (.cons (.var 2) .nil))))) (.cons (.ret (.tup (.cons (.lit (.str "bad")) (.cons (.var 2) (.cons (.lit (.int (0))) .nil))))) .nil) .nil) (.cons (.if_ (.cmp .eq (.idx (.var 0) (.var 2)) (.lit (.str "0"))) (.cons (.if_ (.tru (.var 3)) (.cons (.ret (.tup (.cons (.lit (.str "bad")) (.cons (.var 2) (.cons (.lit (.int (0))) .nil))))) .nil) .nil) (.cons (.ret (.tup (.cons (.lit (.str "told")) (.cons (.tup (.cons (.lit (.int (0))) (.cons (.lit (.int (1))) .nil))) (.cons (.bin .add (.var 2) (.lit (.int (1)))) .nil))))) .nil)) .nil) (.cons (.asg (.nm 4) (.call 1 (.cons (.var 0) (.cons (.var 2) .nil)))) (.cons (.asg (.nm 5) (.var 4)) (.cons (.asg (.nm 6) (.lit (.str "1"))) (.cons (.if_ (.cmp .eq (.slc (.var 0) (.var 4) (.bin .add (.var 4) (.lit (.int (1))))) (.lit (.str "/"))) (.cons (.if_ (.or_ (.not_ (.tru (.call 0 (.cons (.var 0) (.cons (.bin .add (.var 4) (.lit (.int (1)))) .nil))))) (.cmp .eq (.idx (.var 0) (.bin .add (.var 4) (.lit (.int (1))))) (.lit (.str "0")))) (.cons (.ret (.tup (.cons (.lit (.str "bad")) (.cons (.bin .add (.var 4) (.lit (.int (1)))) (.cons (.lit (.int (0))) .nil))))) .nil) .nil) (.cons (.asg (.nm 5) (.call 1 (.cons (.var 0) (.cons (.bin .add (.var 4) (.lit (.int (1)))) .nil)))) (.cons (.asg (.nm 6) (.slc (.var 0) (.bin .add (.var 4) (.lit (.int (1)))) (.var 5))) .nil))) .nil) (.cons (.if_ (.or_ (.cmp .gt (.bin .sub (.var 4) (.var 2)) (.lit (.int (400)))) (.cmp .gt (.bfn .len (.cons (.var 6) .nil)) (.lit (.int (400))))) (.cons (.ret (.tup (.cons (.lit (.str "large")) (.cons (.lit (.str "figures")) (.cons (.lit (.int (0))) .nil))))) .nil) .nil) (.cons (.asg (.nm 7) (.bfn .int (.cons (.slc (.var 0) (.var 2) (.var 4)) .nil))) (.cons (.asg (.nm 8) (.bfn .int (.cons (.var 6) .nil))) (.cons (.if_ (.and_ (.cmp .gt (.var 5) (.var 4)) (.or_ (.cmp .eq (.var 8) (.lit (.int (1)))) (.cmp .gt (.call 2 (.cons (.var 7) (.cons (.var 8) .nil))) (.lit (.int (1)))))) (.cons (.ret (.tup (.cons (.lit (.str "bad")) (.cons (.bin .sub (.var 5) (.lit (.int (1)))) (.cons (.lit (.int (0))) .nil))))) .nil) .nil) (.cons (.if_ (.tru (.var 3)) (.cons (.asg (.nm 7) (.neg (.var 7))) .nil) .nil) (.cons (.ret (.tup (.cons (.lit (.str "told")) (.cons (.tup (.cons (.var 7) (.cons (.var 8) .nil))) (.cons (.var 5) .nil))))) .nil))))))))))))
theorem fold_lt : ∀ (ds : List Nat) (n : Nat), (∀ c ∈ ds, isF c = true) → ds.foldl (fun acc c => acc * 10 + (c - 48)) n < (n + 1) * 10 ^ ds.length
  | [], n, _ => by simp
  | c :: ds, n, h => by
    rw [List.foldl_cons, List.length_cons, Nat.pow_succ]
    have h1 := fold_lt ds (n * 10 + (c - 48)) (fun d hd => h d (List.mem_cons_of_mem _ hd))
    have h2 := isF_iff.mp (h c List.mem_cons_self)
    refine Nat.lt_of_lt_of_le h1 ?_
    rw [Nat.mul_comm (10 ^ ds.length) 10, ← Nat.mul_assoc]
    exact Nat.mul_le_mul_right _ (by omega)
theorem val_lt {ds : List Nat} (h : ∀ c ∈ ds, isF c = true) : (val ds).natAbs < 10 ^ ds.length := by
  have := fold_lt ds 0 h
  rw [Nat.zero_add, Nat.one_mul] at this
  exact this
theorem fold_ge : ∀ (ds : List Nat) (n : Nat), n ≤ ds.foldl (fun acc c => acc * 10 + (c - 48)) n
  | [], n => Nat.le_refl _
  | c :: ds, n => by
    rw [List.foldl_cons]
    have := fold_ge ds (n * 10 + (c - 48))
    omega
theorem val_pos {a : List Nat} {k : Nat} (h : figP a k = true) (h0 : a[k]? ≠ some 48) : 1 ≤ val (digs a k) := by
  obtain ⟨c, hc, hf⟩ := fig_lt h
  obtain ⟨hk, hc2⟩ := List.getElem?_eq_some_iff.mp hc
  have h1 := isF_iff.mp hf
  have h2 : c ≠ 48 := fun z => h0 (by rw [hc, z])
  have e : digs a k = c :: ((a.drop (k + 1)).takeWhile isF) := by
    unfold digs
    rw [List.drop_eq_getElem_cons hk, hc2, List.takeWhile_cons, hf]; rfl
  have h3 := fold_ge ((a.drop (k + 1)).takeWhile isF) (0 * 10 + (c - 48))
  have h4 : (PySem.NumText.digitsVal (c :: ((a.drop (k + 1)).takeWhile isF)) : Nat) = ((a.drop (k + 1)).takeWhile isF).foldl (fun acc c => acc * 10 + (c - 48)) (0 * 10 + (c - 48)) := rfl
  unfold val
  rw [e, h4]
  omega
theorem val_bits {ds : List Nat} (h : ∀ c ∈ ds, isF c = true) (hl : ds.length ≤ 400) : Builtin.Int.intBits (val ds) ≤ 4000000 := by
  have h1 := val_lt h
  have h2 : (val ds).natAbs < 2 ^ 1600 := by
    refine Nat.lt_of_lt_of_le h1 ?_
    refine Nat.le_trans (Nat.pow_le_pow_right (by decide) hl) ?_
    calc (10 : Nat) ^ 400 ≤ (2 ^ 4) ^ 400 := Nat.pow_le_pow_left (by decide) _
      _ = 2 ^ 1600 := by rw [← Nat.pow_mul]
  have := bits_le h2
  omega
def outL (o : Out (Int × Int)) : D := match o with
  | .bad k => .tup [.str "bad", .int (k : Int), .int 0]
  | .large w => .tup [.str "large", .str w, .int 0]
  | .told v e => .tup [.str "told", .tup [.int v.1, .int v.2], .int (e : Int)]
theorem s1 : Str.ofString "1" = TS [49] := by decide +kernel
theorem val49 : val [49] = 1 := by decide +kernel
theorem int1 : bfnS .int [.str (Str.ofString "1")] = .d (.int 1) := by
  have h := int_digs (ds := [49]) (by decide) (by decide) (by decide)
  rw [val49] at h
  rw [s1]; exact h
theorem len1 : bfnS .len [.str (Str.ofString "1")] = .d (.int 1) := by
  rw [s1, len_ts (by unfold LIM; decide)]; rfl
theorem lrest_ok {G : Gam} (fns : G.fns = g_law_scan) (io : G.io = 0) {a : List Nat} {s f : Nat} (ha : SML a) (hf : f = K04.fst a s) {neg : Bool} (hneg : neg = decide (a[s]? = some 45)) :
    PD.fin 0 (exs G r_lscan [some (.fz (.str (TS a))), some (.fz (.int (s : Int))), some (.fz (.int (f : Int))), some (.fz (.bl neg)), none, none, none, none, none] []) = .ok (outL (scanS a s)) [] := by
  have hl := sml_lim ha
  have gq : g_law_scan = g_law_scan := rfl
  have fg := law_is_figure_ok (k := f) rfl ha
  unfold scanS
  simp only [r_lscan]
  by_cases hp : figP a f = false
  · rw [hp] at fg
    simp [← hf, fns, gq, g_law_scan, io, fg, hp, outL]
  · have hp : figP a f = true := by simpa using hp
    rw [hp] at fg
    obtain ⟨c, hc, hcf⟩ := fig_lt hp
    have ix := idx_ts hl hc
    by_cases hz : a[f]? = some 48
    · rw [hz] at hc
      cases hc
      by_cases hn : a[s]? = some 45
      · have ng : neg = true := by rw [hneg]; exact decide_eq_true hn
        subst ng
        simp [← hf, fns, gq, g_law_scan, io, fg, hp, outL, hz, hn, ix, ← s0]
      · have ng : neg = false := by rw [hneg]; exact decide_eq_false hn
        subst ng
        have fs : f = s := by rw [hf]; unfold K04.fst; rw [if_neg hn]
        simp [← hf, fns, gq, g_law_scan, io, fg, hp, outL, hz, hn, ix, ← s0]
        omega
    · have c48 : c ≠ 48 := fun z => hz (by rw [hc, z])
      have b0 : (TS [c] == Str.ofString "0") = false := by rw [s0, ts_one]; exact decide_eq_false c48
      have fr := law_run_ok (k := f) rfl ha
      have hfm := run_lt hp
      have d1 := digs_all a f
      have d2 := digs_ne hp
      have d3 := run_digs a f
      have d4 := cut_digs a f
      obtain ⟨m, hm⟩ : ∃ m, m = runE a f := ⟨_, rfl⟩
      rw [← hm] at fr hfm d3 d4
      have sm : slcS (.str (TS a)) (some (f : Int)) (some (m : Int)) = .d (.str (TS (digs a f))) := by rw [slc_ts hl, d4]
      have big : ((400 : Int) < (m : Int) - (f : Int)) ↔ 400 < m - f := by omega
      have se : slcS (.str (TS a)) (some (m : Int)) (some ((m : Int) + 1)) = .d (.str (TS (cutN a m (m + 1)))) := slc_tsi rfl (by omega) hl
      by_cases h47 : a[m]? = some 47
      · rw [cut_one, h47] at se
        simp only at se
        have bm : TS [47] = Str.ofString "/" := sSl.symm
        have fg2 := law_is_figure_ok (k := m + 1) (i := (m : Int) + 1) (by omega) ha
        have fr2 := law_run_ok (k := m + 1) (i := (m : Int) + 1) (by omega) ha
        by_cases hp2 : figP a (m + 1) = false
        · rw [hp2] at fg2
          simp [← hf, ← hm, fns, gq, g_law_scan, io, fg, hp, outL, hz, ix, b0, fr, se, bm, h47, fg2, hp2]
        · have hp2 : figP a (m + 1) = true := by simpa using hp2
          rw [hp2] at fg2
          obtain ⟨d, hd, hdf⟩ := fig_lt hp2
          have ix2 := idx_tsi (i := (m : Int) + 1) (by omega) hl hd
          by_cases h48 : a[m + 1]? = some 48
          · rw [h48] at hd
            cases hd
            simp [← hf, ← hm, fns, gq, g_law_scan, io, fg, hp, outL, hz, ix, b0, fr, se, bm, h47, fg2, hp2, ix2, h48, ← s0]
          · have d48 : d ≠ 48 := fun z => h48 (by rw [hd, z])
            have b02 : (TS [d] == Str.ofString "0") = false := by rw [s0, ts_one]; exact decide_eq_false d48
            have hme := run_lt hp2
            have q1 := digs_all a (m + 1)
            have q2 := digs_ne hp2
            have q4 := cut_digs a (m + 1)
            have q5 := val_pos hp2 h48
            have q3 : (digs a (m + 1)).length = runE a (m + 1) - (m + 1) := by rw [run_digs]; omega
            obtain ⟨e, he⟩ : ∃ e, e = runE a (m + 1) := ⟨_, rfl⟩
            rw [← he] at fr2 hme q3 q4
            have sl2 : slcS (.str (TS a)) (some ((m : Int) + 1)) (some (e : Int)) = .d (.str (TS (digs a (m + 1)))) := by
              rw [slc_tsi (i := m + 1) (j := e) (by omega) rfl hl, q4]
            have ln : bfnS .len [.str (TS (digs a (m + 1)))] = .d (.int ((digs a (m + 1)).length : Int)) := by
              refine len_ts ?_
              have h1 : (digs a (m + 1)).length ≤ a.length := by
                have := (List.takeWhile_sublist (l := a.drop (m + 1)) isF).length_le
                rw [List.length_drop] at this
                show (List.takeWhile isF (a.drop (m + 1))).length ≤ a.length
                omega
              omega
            have big2 : ((400 : Int) < ((digs a (m + 1)).length : Int)) ↔ 400 < e - (m + 1) := by omega
            by_cases hb : 400 < m - f
            · have hb2 := big.mpr hb
              simp [← hf, ← hm, ← he, fns, gq, g_law_scan, io, fg, hp, outL, hz, ix, b0, fr, se, bm, h47, fg2, hp2, ix2, h48, b02, fr2, sl2, hb, hb2]
            · have hb2 : ¬ (400 : Int) < (m : Int) - (f : Int) := fun z => hb (big.mp z)
              by_cases hb3 : 400 < e - (m + 1)
              · have hb4 := big2.mpr hb3
                simp [← hf, ← hm, ← he, fns, gq, g_law_scan, io, fg, hp, outL, hz, ix, b0, fr, se, bm, h47, fg2, hp2, ix2, h48, b02, fr2, sl2, hb, hb2, ln, hb3, hb4]
              · have hb4 : ¬ (400 : Int) < ((digs a (m + 1)).length : Int) := fun z => hb3 (big2.mp z)
                have iq := int_digs q1 q2 (by omega)
                have ip := int_digs d1 d2 (by omega)
                have gg := gcd_ok (val_bits d1 (by omega)) (val_bits q1 (by omega))
                have lt : (m : Int) < (e : Int) := by omega
                obtain ⟨Q, hQ⟩ : ∃ Q : Int, Q = val (digs a (m + 1)) := ⟨_, rfl⟩
                obtain ⟨P, hP⟩ : ∃ P : Int, P = val (digs a f) := ⟨_, rfl⟩
                rw [← hQ] at iq gg q5
                rw [← hP] at ip gg
                have eX : ((e - 1 : Nat) : Int) = (e : Int) - 1 := by omega
                have gpos : 1 ≤ Nat.gcd P.natAbs Q.natAbs := Nat.gcd_pos_of_pos_right _ (by omega)
                by_cases h1 : Q = 1
                · simp [← hf, ← hm, ← he, ← hP, ← hQ, fns, gq, g_law_scan, io, fg, hp, outL, hz, ix, b0, fr, se, bm, h47, fg2, hp2, ix2, h48, b02, fr2, sl2, hb, hb2, ln, hb3, hb4, sm, ip, iq, lt, h1, eX]
                · have k1 : (Q == 1) = false := by simpa using h1
                  by_cases h2 : Nat.gcd P.natAbs Q.natAbs = 1
                  · have k2 : ¬ (1 : Int) < ((Nat.gcd P.natAbs Q.natAbs : Nat) : Int) := by rw [h2]; decide
                    by_cases hn : a[s]? = some 45
                    · have ng : neg = true := by rw [hneg]; exact decide_eq_true hn
                      subst ng
                      simp [← hf, ← hm, ← he, ← hP, ← hQ, fns, gq, g_law_scan, io, fg, hp, outL, hz, ix, b0, fr, se, bm, h47, fg2, hp2, ix2, h48, b02, fr2, sl2, hb, hb2, ln, hb3, hb4, sm, ip, iq, lt, h1, k1, gg, h2, k2, hn]
                    · have ng : neg = false := by rw [hneg]; exact decide_eq_false hn
                      subst ng
                      simp [← hf, ← hm, ← he, ← hP, ← hQ, fns, gq, g_law_scan, io, fg, hp, outL, hz, ix, b0, fr, se, bm, h47, fg2, hp2, ix2, h48, b02, fr2, sl2, hb, hb2, ln, hb3, hb4, sm, ip, iq, lt, h1, k1, gg, h2, k2, hn]
                  · have k2 : (1 : Int) < ((Nat.gcd P.natAbs Q.natAbs : Nat) : Int) := by omega
                    simp [← hf, ← hm, ← he, ← hP, ← hQ, fns, gq, g_law_scan, io, fg, hp, outL, hz, ix, b0, fr, se, bm, h47, fg2, hp2, ix2, h48, b02, fr2, sl2, hb, hb2, ln, hb3, hb4, sm, ip, iq, lt, h1, k1, gg, h2, k2, eX]
      · have nse : (TS (cutN a m (m + 1)) == Str.ofString "/") = false := by
          rw [cut_one, sSl, ts_beq]
          refine decide_eq_false fun z => h47 ?_
          cases e : a[m]? with
          | none => rw [e] at z; cases z
          | some d => rw [e] at z; cases z; rfl
        by_cases hb : 400 < m - f
        · have hb2 := big.mpr hb
          simp [← hf, ← hm, fns, gq, g_law_scan, io, fg, hp, outL, hz, ix, b0, fr, se, nse, h47, hb, hb2]
        · have hb2 : ¬ (400 : Int) < (m : Int) - (f : Int) := fun z => hb (big.mp z)
          have ip := int_digs d1 d2 (by omega)
          obtain ⟨P, hP⟩ : ∃ P : Int, P = val (digs a f) := ⟨_, rfl⟩
          rw [← hP] at ip
          by_cases hn : a[s]? = some 45
          · have ng : neg = true := by rw [hneg]; exact decide_eq_true hn
            subst ng
            simp [← hf, ← hm, ← hP, fns, gq, g_law_scan, io, fg, hp, outL, hz, ix, b0, fr, se, nse, h47, hb, hb2, len1, int1, sm, ip, hn]
          · have ng : neg = false := by rw [hneg]; exact decide_eq_false hn
            subst ng
            simp [← hf, ← hm, ← hP, fns, gq, g_law_scan, io, fg, hp, outL, hz, ix, b0, fr, se, nse, h47, hb, hb2, len1, int1, sm, ip, hn]
end K04

/-! T6 -/
set_option Elab.async false
set_option linter.all false
set_option maxRecDepth 100000
set_option maxHeartbeats 8000000
namespace K04
open PySem PD L2 FR
/-! T6: the law's reader of numbers, whole -/
theorem bl_split : b_law_scan = .cons (.asg (.nm 2) (.var 1)) (.cons (.asg (.nm 3) (.cmp .eq (.slc (.var 0) (.var 2) (.bin .add (.var 2) (.lit (.int (1))))) (.lit (.str "-")))) (.cons (.if_ (.tru (.var 3)) (.cons (.asg (.nm 2) (.bin .add (.var 2) (.lit (.int (1))))) .nil) .nil) r_lscan)) := rfl
theorem law_scan_ok {a : List Nat} {s : Nat} {i : Int} (hi : i = (s : Int)) (ha : SML a) : f_law_scan [.fz (.str (TS a)), .fz (.int i)] = .ok (outL (scanS a s)) [] := by
  subst hi
  have hl := sml_lim ha
  rw [show f_law_scan = runDef (md.gam g_law_scan) ⟨9, b_law_scan⟩ from rfl, runDef_eq, bl_split]
  simp only [contsOf, slotsOf]
  obtain ⟨G, hG⟩ : ∃ G : Gam, G = { md.gam g_law_scan with io := ([] : List Cont).length } := ⟨_, rfl⟩
  have fns : G.fns = g_law_scan := by rw [hG]; rfl
  have io : G.io = 0 := by rw [hG]; rfl
  rw [← hG]
  have rest := fun f neg hf hn => lrest_ok fns io (s := s) (f := f) (neg := neg) ha hf hn
  have se : slcS (.str (TS a)) (some (s : Int)) (some ((s : Int) + 1)) = .d (.str (TS (cutN a s (s + 1)))) := slc_tsi rfl (by omega) hl
  by_cases hn : a[s]? = some 45
  · rw [cut_one, hn] at se
    simp only at se
    have bm : TS [45] = Str.ofString "-" := sMi.symm
    have r := rest (s + 1) true (by unfold K04.fst; rw [hn]; rfl) (decide_eq_true hn).symm
    rw [show ((s + 1 : Nat) : Int) = (s : Int) + 1 by omega] at r
    simp [se, bm]
    exact r
  · have nse : (TS (cutN a s (s + 1)) == Str.ofString "-") = false := by
      rw [cut_one, sMi, ts_beq]
      refine decide_eq_false fun z => hn ?_
      cases e : a[s]? with
      | none => rw [e] at z; cases z
      | some d => rw [e] at z; cases z; rfl
    have r := rest s false (by unfold K04.fst; rw [if_neg hn]) (decide_eq_false hn).symm
    simp [se, nse]
    exact r
/-! rows of numbers -/
/-- from s on: a number, and more behind each comma (n: as many as may be read) -/
def numsS (a : List Nat) : Nat → Nat → Out (List (Int × Int))
  | 0, s => .bad 0
  | n + 1, s => match scanS a s with
    | .bad k => .bad k
    | .large w => .large w
    | .told v e => if a[e]? = some 44 then (match numsS a n (e + 1) with
      | .bad k => .bad k
      | .large w => .large w
      | .told vs e2 => .told (v :: vs) e2) else .told [v] e
theorem scan_lt {a : List Nat} {s e : Nat} {v : Int × Int} (h : scanS a s = .told v e) : s < e ∧ e ≤ a.length := by
  have hf : s ≤ K04.fst a s := by unfold K04.fst; split <;> omega
  unfold scanS at h
  simp only at h
  by_cases hp : figP a (K04.fst a s) = false
  · rw [if_pos hp] at h; cases h
  · rw [if_neg hp] at h
    have hp : figP a (K04.fst a s) = true := by simpa using hp
    obtain ⟨c, hc, _⟩ := fig_lt hp
    have hlt := (List.getElem?_eq_some_iff.mp hc).1
    have r1 := run_lt hp
    have r2 := run_le a (k := K04.fst a s) (by omega)
    by_cases hz : a[K04.fst a s]? = some 48
    · rw [if_pos hz] at h
      by_cases hn : a[s]? = some 45
      · rw [if_pos hn] at h; cases h
      · rw [if_neg hn] at h
        cases h
        have : K04.fst a s = s := by unfold K04.fst; rw [if_neg hn]
        omega
    · rw [if_neg hz] at h
      by_cases h47 : a[runE a (K04.fst a s)]? = some 47
      · rw [if_pos h47] at h
        split at h
        · cases h
        · rename_i hb
          split at h
          · cases h
          · split at h
            · cases h
            · cases h
              have hp2 : figP a (runE a (K04.fst a s) + 1) = true := by
                cases q : figP a (runE a (K04.fst a s) + 1) with
                | true => rfl
                | false => exact absurd (.inl q) hb
              obtain ⟨c2, hc2, _⟩ := fig_lt hp2
              have hlt2 := (List.getElem?_eq_some_iff.mp hc2).1
              have r3 := run_lt hp2
              have r4 := run_le a (k := runE a (K04.fst a s) + 1) (by omega)
              omega
      · rw [if_neg h47] at h
        split at h
        · cases h
        · cases h
          omega
end K04

/-! T7 -/
set_option Elab.async false
set_option linter.all false
set_option maxRecDepth 100000
set_option maxHeartbeats 8000000
namespace K04
open PySem PD L2 FR
/-! T7: rows of numbers -/
theorem while_out {c : Slots → Store → Res Val} {body : Slots → Store → SR} (Inv : Nat → Slots → Store → Prop) (Done : SR → Prop)
    (step : ∀ k ρ st, Inv k ρ st → (c ρ st = .ok (.fz (.bl false)) st ∧ Done (.nx ρ st)) ∨ (c ρ st = .ok (.fz (.bl true)) st ∧ ((∃ k' ρ' st', k' < k ∧ body ρ st = .nx ρ' st' ∧ Inv k' ρ' st') ∨ ((∃ x ρ' st', body ρ st = .exc x ρ' st') ∧ Done (body ρ st))))) :
    ∀ (k : Nat) (ρ : Slots) (st : Store), Inv k ρ st → Done (whileS c body ρ st) := by
  have main : ∀ (k : Nat) (ρ : Slots) (st : Store), Inv k ρ st → ∃ n r, whileN c body n ρ st = some r ∧ Done r := by
    intro k
    induction k using Nat.strongRecOn with
    | ind k ih =>
      intro ρ st h
      have one : ∀ n, whileN c body (n + 1) ρ st = (match c ρ st with
          | .ok (.fz (.bl true)) st => (match body ρ st with
            | .nx ρ' st' => whileN c body n ρ' st'
            | .ct ρ' st' => whileN c body n ρ' st'
            | .bk ρ' st' => some (.nx ρ' st')
            | r => some r)
          | .ok (.fz (.bl false)) st => some (.nx ρ st)
          | .exc x st => some (.exc x ρ st)
          | _ => some .stuck) := fun n => rfl
      rcases step k ρ st h with ⟨e, d⟩ | ⟨e, ⟨k', ρ', st', lt, hb, h'⟩ | ⟨⟨x, ρ', st', hb⟩, d⟩⟩
      · exact ⟨1, _, by rw [one, e], d⟩
      · obtain ⟨n, r, e2, d⟩ := ih k' lt ρ' st' h'
        refine ⟨n + 1, r, ?_, d⟩
        rw [one, e]
        simp only [hb]
        exact e2
      · refine ⟨1, .exc x ρ' st', ?_, by rw [← hb]; exact d⟩
        rw [one, e]
        simp only [hb]
  intro k ρ st h
  obtain ⟨n, r, e, d⟩ := main k ρ st h
  rw [whileS_eq e]
  exact d
def pr (v : Int × Int) : D := .tup [.int v.1, .int v.2]
def addO (acc : List (Int × Int)) : Out (List (Int × Int)) → Out (List (Int × Int))
  | .bad k => .bad k
  | .large w => .large w
  | .told vs e => .told (acc ++ vs) e
/-- behind a number that ends at e -/
def contS (a : List Nat) (n e : Nat) : Out (List (Int × Int)) := if a[e]? = some 44 then numsS a n (e + 1) else .told [] e
theorem nums_cont {a : List Nat} {n s e : Nat} {v : Int × Int} (h : scanS a s = .told v e) : numsS a (n + 1) s = addO [v] (contS a n e) := by
  show ((match scanS a s with
    | .bad k => .bad k
    | .large w => .large w
    | .told v e => if a[e]? = some 44 then (match numsS a n (e + 1) with
      | .bad k => .bad k
      | .large w => .large w
      | .told vs e2 => .told (v :: vs) e2) else .told [v] e) : Out (List (Int × Int))) = _
  rw [h]
  unfold contS
  by_cases h44 : a[e]? = some 44
  · simp only [h44, if_true]
    cases numsS a n (e + 1) <;> rfl
  · simp only [h44, if_false]
    rfl
theorem addO_addO (x y : List (Int × Int)) (o : Out (List (Int × Int))) : addO x (addO y o) = addO (x ++ y) o := by
  cases o with
  | told vs e => show Out.told _ _ = Out.told _ _; rw [List.append_assoc]
  | _ => rfl
/-- more turns than the text has room for change nothing -/
theorem nums_fuel {a : List Nat} : ∀ (n s : Nat), a.length + 1 ≤ n + s → numsS a (n + 2) s = numsS a (n + 1) s
  | n, s, h => by
    cases hs : scanS a s with
    | bad k => unfold numsS; rw [hs]
    | large w => unfold numsS; rw [hs]
    | told v e =>
      obtain ⟨h1, h2⟩ := scan_lt hs
      rw [nums_cont hs, nums_cont hs]
      congr 1
      unfold contS
      by_cases h44 : a[e]? = some 44
      · rw [if_pos h44, if_pos h44]
        cases n with
        | zero => omega
        | succ n => exact nums_fuel n (e + 1) (by omega)
      · rw [if_neg h44, if_neg h44]
theorem sCo : Str.ofString "," = TS [44] := by decide +kernel
def outP (o : Out (List (Int × Int))) : FRes := match o with
  | .bad k => .exc (badX k) []
  | .large w => .exc ⟨"TooLarge", [("what", .str w)]⟩ []
  | .told vs e => .ok (.tup [.tup (vs.map pr), .int (e : Int)]) []
def outQ (o : Out (List (Int × Int))) : D := match o with
  | .bad k => .tup [.str "bad", .int (k : Int), .int 0]
  | .large w => .tup [.str "large", .str w, .int 0]
  | .told vs e => .tup [.str "told", .tup (vs.map pr), .int (e : Int)]
def lpc : Ex := .and_ (.cmp .lt (.var 3) (.bfn .len (.cons (.var 0) .nil))) (.cmp .eq (.idx (.var 0) (.var 3)) (.lit (.str ",")))
def lpb : Sts := .cons (.asg (.tp [2, 3]) (.call 0 (.cons (.var 0) (.cons (.bin .add (.var 3) (.lit (.int (1)))) .nil)))) (.cons (.app 4 (.var 2)) .nil)
theorem sn_split : b_scan_numbers = .cons (.asg (.tp [2, 3]) (.call 0 (.cons (.var 0) (.cons (.var 1) .nil)))) (.cons (.asg (.nm 4) (.lst (.cons (.var 2) .nil))) (.cons (.whl lpc lpb) (.cons (.ret (.tup (.cons (.bfn .tuple (.cons (.var 4) .nil)) (.cons (.var 3) .nil)))) .nil))) := rfl
theorem scan_i {a : List Nat} {s : Nat} {i : Int} (hi : i = (s : Int)) (ha : SML a) : f_scan_number [.fz (.str (TS a)), .fz (.int i)] = outX (scanS a s) := by subst hi; exact scan_number_ok ha
theorem scan_numbers_ok {a : List Nat} {s : Nat} {i : Int} (hi : i = (s : Int)) (ha : SML a) : f_scan_numbers [.fz (.str (TS a)), .fz (.int i)] = outP (numsS a (a.length + 1) s) := by
  subst hi
  have hl := sml_lim ha
  rw [show f_scan_numbers = runDef (md.gam g_scan_numbers) ⟨5, b_scan_numbers⟩ from rfl, runDef_eq, sn_split]
  simp only [contsOf, slotsOf]
  obtain ⟨G, hG⟩ : ∃ G : Gam, G = { md.gam g_scan_numbers with io := ([] : List Cont).length } := ⟨_, rfl⟩
  have fns : G.fns = g_scan_numbers := by rw [hG]; rfl
  have io : G.io = 0 := by rw [hG]; rfl
  have gq : g_scan_numbers = g_scan_numbers := rfl
  rw [← hG]
  have sc := scan_number_ok (s := s) ha
  cases hs : scanS a s with
  | bad k =>
    rw [hs] at sc
    have e : numsS a (a.length + 1) s = .bad k := by unfold numsS; rw [hs]
    rw [e]
    simp only [outX] at sc
    simp [fns, gq, g_scan_numbers, io, sc, outP]
  | large w =>
    rw [hs] at sc
    have e : numsS a (a.length + 1) s = .large w := by unfold numsS; rw [hs]
    rw [e]
    simp only [outX] at sc
    simp [fns, gq, g_scan_numbers, io, sc, outP]
  | told v e =>
    rw [hs] at sc
    simp only [outX] at sc
    obtain ⟨h1, h2⟩ := scan_lt hs
    rw [nums_cont hs]
    obtain ⟨T, hT⟩ : ∃ T, T = addO [v] (contS a a.length e) := ⟨_, rfl⟩
    rw [← hT]
    have wh := while_out (c := ev G lpc) (body := exs G lpb)
      (fun k ρ st => ∃ (acc : List (Int × Int)) (x : D) (j n : Nat), st = [.lst (acc.map pr)] ∧ ρ = [some (.fz (.str (TS a))), some (.fz (.int (s : Int))), some (.fz x), some (.fz (.int (j : Int))), some (.loc 0)] ∧ k = a.length - j ∧ j ≤ a.length ∧ acc.length ≤ j ∧ 1 ≤ n ∧ a.length ≤ n + j ∧ T = addO acc (contS a n j))
      (fun r => (∃ vs j x, T = .told vs j ∧ r = .nx [some (.fz (.str (TS a))), some (.fz (.int (s : Int))), some (.fz x), some (.fz (.int (j : Int))), some (.loc 0)] [.lst (vs.map pr)]) ∨ (∃ k ρ st, T = .bad k ∧ r = .exc (badX k) ρ st) ∨ (∃ w ρ st, T = .large w ∧ r = .exc ⟨"TooLarge", [("what", .str w)]⟩ ρ st))
      (fun k ρ st ⟨acc, x, j, n, e1, e2, e3, e4, e5, e6, e7, e8⟩ => by
        subst e1 e2
        by_cases h44 : a[j]? = some 44
        · right
          have hj := (List.getElem?_eq_some_iff.mp h44).1
          have ix := idx_ts hl h44
          have bm : TS [44] = Str.ofString "," := sCo.symm
          refine ⟨by simp [lpc, len_ts hl, hj, ix, bm], ?_⟩
          have sc2 := scan_i (s := j + 1) (i := (j : Int) + 1) (by omega) ha
          obtain ⟨n', rfl⟩ : ∃ n', n = n' + 1 := ⟨n - 1, by omega⟩
          have hc : contS a (n' + 1) j = numsS a (n' + 1) (j + 1) := by unfold contS; rw [if_pos h44]
          rw [hc] at e8
          cases hs2 : scanS a (j + 1) with
          | bad k2 =>
            rw [hs2] at sc2
            simp only [outX] at sc2
            have e9 : numsS a (n' + 1) (j + 1) = .bad k2 := by unfold numsS; rw [hs2]
            rw [e9] at e8
            have eb : exs G lpb [some (.fz (.str (TS a))), some (.fz (.int (s : Int))), some (.fz x), some (.fz (.int (j : Int))), some (.loc 0)] [.lst (acc.map pr)] = .exc (badX k2) [some (.fz (.str (TS a))), some (.fz (.int (s : Int))), some (.fz x), some (.fz (.int (j : Int))), some (.loc 0)] [.lst (acc.map pr)] := by
              simp [lpb, fns, gq, g_scan_numbers, io, sc2]
            exact .inr ⟨⟨_, _, _, eb⟩, .inr (.inl ⟨k2, _, _, e8, eb⟩)⟩
          | large w =>
            rw [hs2] at sc2
            simp only [outX] at sc2
            have e9 : numsS a (n' + 1) (j + 1) = .large w := by unfold numsS; rw [hs2]
            rw [e9] at e8
            have eb : exs G lpb [some (.fz (.str (TS a))), some (.fz (.int (s : Int))), some (.fz x), some (.fz (.int (j : Int))), some (.loc 0)] [.lst (acc.map pr)] = .exc ⟨"TooLarge", [("what", .str w)]⟩ [some (.fz (.str (TS a))), some (.fz (.int (s : Int))), some (.fz x), some (.fz (.int (j : Int))), some (.loc 0)] [.lst (acc.map pr)] := by
              simp [lpb, fns, gq, g_scan_numbers, io, sc2]
            exact .inr ⟨⟨_, _, _, eb⟩, .inr (.inr ⟨w, _, _, e8, eb⟩)⟩
          | told v2 e' =>
            rw [hs2] at sc2
            simp only [outX] at sc2
            obtain ⟨g1, g2⟩ := scan_lt hs2
            rw [nums_cont hs2, addO_addO] at e8
            have ha' : a.length ≤ 100000 := ha
            have lim : acc.length < LIM := by have : LIM = 16777216 := rfl; omega
            left
            refine ⟨a.length - e', [some (.fz (.str (TS a))), some (.fz (.int (s : Int))), some (.fz (pr v2)), some (.fz (.int (e' : Int))), some (.loc 0)], [.lst ((acc ++ [v2]).map pr)], by omega, ?_, acc ++ [v2], pr v2, e', n', rfl, rfl, rfl, g2, by simp; omega, by omega, by omega, e8⟩
            have ap : ex G (.app 4 (.var 2)) [some (.fz (.str (TS a))), some (.fz (.int (s : Int))), some (.fz (.tup [.int v2.1, .int v2.2])), some (.fz (.int (e' : Int))), some (.loc 0)] [.lst (acc.map pr)] = .nx [some (.fz (.str (TS a))), some (.fz (.int (s : Int))), some (.fz (.tup [.int v2.1, .int v2.2])), some (.fz (.int (e' : Int))), some (.loc 0)] [.lst (acc.map pr ++ [.tup [.int v2.1, .int v2.2]])] := by
              rw [ex_app (n := 0) (ds := acc.map pr) rfl rfl]
              have k2 := fun (ρ : Slots) (d : D) => kApp2_eq (ρ := ρ) (st := [.lst (acc.map pr)]) (n := 0) (ds := acc.map pr) (d := d) rfl (by rw [List.length_map]; exact lim)
              simp [k2]
            simp [lpb, fns, gq, g_scan_numbers, io, sc2, lim, pr, ap]
        · left
          have e9 : contS a n j = .told [] j := by unfold contS; rw [if_neg h44]
          rw [e9] at e8
          have e10 : T = .told acc j := by rw [e8]; show Out.told _ _ = _; rw [List.append_nil]
          refine ⟨?_, .inl ⟨acc, j, x, e10, rfl⟩⟩
          cases h : a[j]? with
          | none =>
            have hj : ¬ j < a.length := by have := List.getElem?_eq_none_iff.mp h; omega
            simp [lpc, len_ts hl, hj]
          | some d =>
            have hj := (List.getElem?_eq_some_iff.mp h).1
            have ix := idx_ts hl h
            have bm : (TS [d] == Str.ofString ",") = false := by rw [sCo, ts_one]; exact decide_eq_false (fun z => h44 (by rw [h, z]))
            simp [lpc, len_ts hl, hj, ix, bm])
      (a.length - e) [some (.fz (.str (TS a))), some (.fz (.int (s : Int))), some (.fz (pr v)), some (.fz (.int (e : Int))), some (.loc 0)] [.lst [pr v]]
      ⟨[v], pr v, e, a.length, rfl, rfl, rfl, h2, by simp; omega, by omega, by omega, hT⟩
    have prv : pr v = .tup [.int v.1, .int v.2] := rfl
    rw [prv] at wh
    rcases wh with ⟨vs, j, x, eT, eW⟩ | ⟨k, ρ', st', eT, eW⟩ | ⟨w, ρ', st', eT, eW⟩
    · rw [eT]
      simp [fns, gq, g_scan_numbers, io, sc, eW, outP]
    · rw [eT]
      simp [fns, gq, g_scan_numbers, io, sc, eW, outP]
    · rw [eT]
      simp [fns, gq, g_scan_numbers, io, sc, eW, outP]
end K04

/-! T8 -/
set_option Elab.async false
set_option linter.all false
set_option maxRecDepth 100000
set_option maxHeartbeats 8000000
namespace K04
open PySem PD L2 FR
/-! T8: the law's rows of numbers -/
theorem sTo : (Str.ofString "told" == Str.ofString "told") = true := by decide +kernel
theorem sBa : (Str.ofString "bad" == Str.ofString "told") = false := by decide +kernel
theorem sLa : (Str.ofString "large" == Str.ofString "told") = false := by decide +kernel
theorem idx_tup2 {a b c : D} {ds : List D} : idxS (.tup (a :: b :: c :: ds)) (.int 2) = some c := idx_tup (k := 2) rfl (by simp)
theorem law_numbers_ok {a : List Nat} {s : Nat} {i : Int} (hi : i = (s : Int)) (ha : SML a) : f_law_numbers [.fz (.str (TS a)), .fz (.int i)] = .ok (outQ (numsS a (a.length + 1) s)) [] := by
  subst hi
  have hl := sml_lim ha
  have ha' : a.length ≤ 100000 := ha
  have r1 : rngOk 0 = true := by decide
  have r2 : rngOk ((a.length : Int) + 1) = true := by
    have := rngOk_nat (k := a.length + 1) (by omega)
    rw [Int.natCast_add] at this
    exact this
  have tn : ((a.length : Int) + 1).toNat = a.length + 1 := by omega
  rw [show f_law_numbers = runDef (md.gam g_law_numbers) ⟨6, b_law_numbers⟩ from rfl, runDef_eq]
  simp only [b_law_numbers, contsOf, slotsOf]
  obtain ⟨G, hG⟩ : ∃ G : Gam, G = { md.gam g_law_numbers with io := ([] : List Cont).length } := ⟨_, rfl⟩
  have fns : G.fns = g_law_numbers := by rw [hG]; rfl
  have io : G.io = 0 := by rw [hG]; rfl
  have con : G.con = md.con.map (·.2) := by rw [hG]; rfl
  have exq : G.exm = exmL md.exm := by rw [hG]; rfl
  have gq : g_law_numbers = g_law_numbers := rfl
  rw [← hG]
  obtain ⟨T, hT⟩ : ∃ T, T = numsS a (a.length + 1) s := ⟨_, rfl⟩
  rw [← hT]
  have loop := for_out (I := .rng 0 (a.length + 1)) (body := fBody G (.nm 4) lp0_law_numbers) (n := a.length + 1)
    (fun i ρ st => ∃ (acc : List (Int × Int)) (j : Nat) (t g : Option Val), st = [.lst (acc.map pr)] ∧ ρ = [some (.fz (.str (TS a))), some (.fz (.int (s : Int))), some (.loc 0), some (.fz (.int (j : Int))), t, g] ∧ acc.length = i ∧ T = addO acc (numsS a (a.length + 1 - i) j))
    (fun r => ∃ st, r = .rt (outQ T) st) (fun i ρ st _ _ => rfl)
    (fun i ρ st hi ⟨acc, j, t, g, e1, e2, e3, e4⟩ => ⟨_, rfl, by
      subst e1 e2
      have sc := law_scan_ok (s := j) rfl ha
      obtain ⟨n, hn⟩ : ∃ n, a.length + 1 - i = n + 1 := ⟨a.length - i, by omega⟩
      rw [hn] at e4
      cases hs : scanS a j with
      | bad k =>
        rw [hs] at sc
        simp only [outL] at sc
        have e9 : numsS a (n + 1) j = .bad k := by unfold numsS; rw [hs]
        rw [e9] at e4
        right
        have eb : ∃ st, fBody G (.nm 4) lp0_law_numbers (.int ((0 : Int) + i)) [some (.fz (.str (TS a))), some (.fz (.int (s : Int))), some (.loc 0), some (.fz (.int (j : Int))), t, g] [.lst (acc.map pr)] = .rt (outQ T) st := by
          refine ⟨[.lst (acc.map pr)], ?_⟩
          rw [e4]
          simp [lp0_law_numbers, fns, gq, g_law_numbers, io, sc, sBa, addO, outQ]
        obtain ⟨st, eb⟩ := eb
        exact ⟨⟨_, _, eb⟩, _, eb⟩
      | large w =>
        rw [hs] at sc
        simp only [outL] at sc
        have e9 : numsS a (n + 1) j = .large w := by unfold numsS; rw [hs]
        rw [e9] at e4
        right
        have eb : ∃ st, fBody G (.nm 4) lp0_law_numbers (.int ((0 : Int) + i)) [some (.fz (.str (TS a))), some (.fz (.int (s : Int))), some (.loc 0), some (.fz (.int (j : Int))), t, g] [.lst (acc.map pr)] = .rt (outQ T) st := by
          refine ⟨[.lst (acc.map pr)], ?_⟩
          rw [e4]
          simp [lp0_law_numbers, fns, gq, g_law_numbers, io, sc, sLa, addO, outQ]
        obtain ⟨st, eb⟩ := eb
        exact ⟨⟨_, _, eb⟩, _, eb⟩
      | told v e =>
        rw [hs] at sc
        simp only [outL] at sc
        obtain ⟨g1, g2⟩ := scan_lt hs
        rw [nums_cont hs, addO_addO] at e4
        have lim : acc.length < LIM := by have : LIM = 16777216 := rfl; omega
        have k2 := fun (ρ : Slots) (d : D) => kApp2_eq (ρ := ρ) (st := [.lst (acc.map pr)]) (n := 0) (ds := acc.map pr) (d := d) rfl (by rw [List.length_map]; exact lim)
        have ap : ex G (.app 2 (.idx (.var 5) (.lit (.int 1)))) [some (.fz (.str (TS a))), some (.fz (.int (s : Int))), some (.loc 0), some (.fz (.int (j : Int))), some (.fz (.int (i : Int))), some (.fz (.tup [.str "told", .tup [.int v.1, .int v.2], .int (e : Int)]))] [.lst (acc.map pr)] = .nx [some (.fz (.str (TS a))), some (.fz (.int (s : Int))), some (.loc 0), some (.fz (.int (j : Int))), some (.fz (.int (i : Int))), some (.fz (.tup [.str "told", .tup [.int v.1, .int v.2], .int (e : Int)]))] [.lst (acc.map pr ++ [.tup [.int v.1, .int v.2]])] := by
          rw [ex_app (n := 0) (ds := acc.map pr) rfl rfl]
          simp [k2]
        have se : slcS (.str (TS a)) (some (e : Int)) (some ((e : Int) + 1)) = .d (.str (TS (cutN a e (e + 1)))) := slc_tsi rfl (by omega) hl
        by_cases h44 : a[e]? = some 44
        · rw [cut_one, h44] at se
          simp only at se
          have bm : TS [44] = Str.ofString "," := sCo.symm
          left
          refine ⟨[some (.fz (.str (TS a))), some (.fz (.int (s : Int))), some (.loc 0), some (.fz (.int ((e : Int) + 1))), some (.fz (.int (i : Int))), some (.fz (.tup [.str "told", .tup [.int v.1, .int v.2], .int (e : Int)]))], [.lst ((acc ++ [v]).map pr)], .inl ?_, acc ++ [v], e + 1, some (.fz (.int (i : Int))), some (.fz (.tup [.str "told", .tup [.int v.1, .int v.2], .int (e : Int)])), rfl, by simp, by simp [e3], ?_⟩
          · simp [lp0_law_numbers, fns, gq, g_law_numbers, io, sc, sTo, ap, idx_tup2, se, bm, pr]
          · rw [e4, show a.length + 1 - (i + 1) = n by omega]
            unfold contS
            rw [if_pos h44]
        · have nse : (TS (cutN a e (e + 1)) == Str.ofString ",") = false := by
            rw [cut_one, sCo, ts_beq]
            refine decide_eq_false fun z => h44 ?_
            cases q : a[e]? with
            | none => rw [q] at z; cases z
            | some d => rw [q] at z; cases z; rfl
          have e5 : T = .told (acc ++ [v]) e := by
            rw [e4]
            unfold contS
            rw [if_neg h44]
            show Out.told _ _ = _
            rw [List.append_nil]
          right
          have eb : fBody G (.nm 4) lp0_law_numbers (.int ((0 : Int) + i)) [some (.fz (.str (TS a))), some (.fz (.int (s : Int))), some (.loc 0), some (.fz (.int (j : Int))), t, g] [.lst (acc.map pr)] = .rt (outQ T) [.lst (acc.map pr ++ [.tup [.int v.1, .int v.2]])] := by
            rw [e5]
            simp [lp0_law_numbers, fns, gq, g_law_numbers, io, sc, sTo, ap, idx_tup2, se, nse, outQ, pr]
          exact ⟨⟨_, _, eb⟩, _, eb⟩⟩) (a.length + 1) 0 [some (.fz (.str (TS a))), some (.fz (.int (s : Int))), some (.loc 0), some (.fz (.int (s : Int))), none, none] [.lst []] (by omega) ⟨[], s, none, none, rfl, rfl, rfl, by rw [hT]; cases numsS a (a.length + 1 - 0) s <;> rfl⟩
  rcases loop with ⟨ρ', st', e, acc, j, t, g, rfl, rfl, e3, e4⟩ | ⟨st', e⟩
  · have e5 : T = .bad 0 := by rw [e4, Nat.sub_self]; rfl
    rw [e5]
    simp [len_ts hl, kRng_eq r1 r2, tn, e, io, outQ]
  · simp [len_ts hl, kRng_eq r1 r2, tn, e, io]
end K04

/-! T9 -/
set_option Elab.async false
set_option linter.all false
set_option maxRecDepth 100000
set_option maxHeartbeats 8000000
namespace K04
open PySem PD L2 FR
/-! T9: the law's trim -/
theorem lc_rngD {G : Gam} {ρ : Slots} {st : Store} {own : List Nat} {i n : Nat} {elt : Ex} {f : Nat → D} (hn : n ≤ LIM)
    (h : ∀ k < n, ev G elt ((wipeS ρ own).set i (some (.fz (.int k)))) st = .ok (.fz (f k)) st) : kLc G ρ own (.nm i) (.lit (.bl true)) elt (.rng 0 n) st = .ok (.loc st.length) (st ++ [.lst ((List.range n).map f)]) := by
  rw [kLc_eq (n := n) rfl hn]
  have loop := lc_all (I := .rng 0 n) (body := lBody G own (.nm i) (.lit (.bl true)) elt ρ) (n := n) (fun j acc st' => st' = st ∧ acc = (List.range j).map f) (fun _ _ _ _ _ => rfl)
    (fun j acc st' hj ⟨e1, e2⟩ => by
      subst e1 e2
      refine ⟨.int (0 + j), rfl, [f j], _, ?_, rfl, by rw [List.range_succ, List.map_append]; rfl⟩
      refine lBody_1 ?_
      rw [Int.zero_add]
      exact h j hj) n 0 [] st (by omega) ⟨rfl, rfl⟩
  obtain ⟨acc, st', e, rfl, rfl⟩ := loop
  rw [e]
  rfl
/-- how many are left of the first n when zeros at the end go -/
def tzn (vs : List (Int × Int)) : Nat → Nat
  | 0 => 0
  | n + 1 => if (vs.getD n (0, 1)).1 = 0 then tzn vs n else n + 1
def trimV (vs : List (Int × Int)) : List (Int × Int) := vs.take (tzn vs vs.length)
theorem tzn_le (vs : List (Int × Int)) : ∀ n, tzn vs n ≤ n
  | 0 => Nat.le_refl _
  | n + 1 => by
    unfold tzn
    split
    · have := tzn_le vs n; omega
    · exact Nat.le_refl _
theorem pr0 (v : Int × Int) : idxS (pr v) (.int 0) = some (.int v.1) := by unfold pr; simp
theorem take_range (vs : List (Int × Int)) : ∀ n ≤ vs.length, (List.range n).map (fun k => pr (vs.getD k (0, 1))) = (vs.take n).map pr
  | 0, _ => by simp
  | n + 1, h => by
    rw [List.range_succ, List.map_append, take_range vs n (by omega), List.take_succ_eq_append_getElem (show n < vs.length by omega), List.map_append]
    simp [List.getD, List.getElem?_eq_getElem (show n < vs.length by omega)]
theorem trim_gen {R : D} {vs : List (Int × Int)} (hl : vs.length < 1000000) (h1 : bfnS .len [R] = .d (.int (vs.length : Int))) (h2 : ∀ k < vs.length, idxS R (.int (k : Int)) = some (pr (vs.getD k (0, 1)))) : f_law_trim [.fz R] = .ok (.tup ((trimV vs).map pr)) [] := by
  rw [show f_law_trim = runDef (md.gam g_law_trim) ⟨4, b_law_trim⟩ from rfl, runDef_eq]
  simp only [b_law_trim, contsOf, slotsOf]
  obtain ⟨G, hG⟩ : ∃ G : Gam, G = { md.gam g_law_trim with io := ([] : List Cont).length } := ⟨_, rfl⟩
  have fns : G.fns = g_law_trim := by rw [hG]; rfl
  have io : G.io = 0 := by rw [hG]; rfl
  have con : G.con = md.con.map (·.2) := by rw [hG]; rfl
  have exq : G.exm = exmL md.exm := by rw [hG]; rfl
  have gq : g_law_trim = g_law_trim := rfl
  rw [← hG]
  obtain ⟨n, hn⟩ : ∃ n, n = vs.length := ⟨_, rfl⟩
  rw [← hn] at hl h1 h2
  have loop := for_all (I := .rng 0 n) (body := fBody G (.nm 2) lp0_law_trim) (n := n) (fun i ρ st => st = [] ∧ ∃ (s : Nat) (t : Option Val), s ≤ n ∧ tzn vs s = tzn vs n ∧ (s = n - i ∨ (0 < s ∧ (vs.getD (s - 1) (0, 1)).1 ≠ 0)) ∧ ρ = [some (.fz R), some (.fz (.int s)), t, none]) (fun i ρ st _ _ => rfl)
    (fun i ρ st hi ⟨e1, s, t, hs, hz, hx, e2⟩ => by
      subst e1 e2
      by_cases c0 : 0 < s
      · have i1 : idxS R (.int ((s : Int) - 1)) = some (pr (vs.getD (s - 1) (0, 1))) := by rw [show (s : Int) - 1 = ((s - 1 : Nat) : Int) by omega]; exact h2 (s - 1) (by omega)
        have i2 := pr0 (vs.getD (s - 1) (0, 1))
        have tz : tzn vs s = if (vs.getD (s - 1) (0, 1)).1 = 0 then tzn vs (s - 1) else s := by
          obtain ⟨s', rfl⟩ : ∃ s', s = s' + 1 := ⟨s - 1, by omega⟩
          rfl
        obtain ⟨v, hv⟩ : ∃ v, v = vs.getD (s - 1) (0, 1) := ⟨_, rfl⟩
        rw [← hv] at i1 i2 tz hx
        by_cases c1 : v.1 = 0
        · rw [if_pos c1] at tz
          refine ⟨.int (0 + i), rfl, [some (.fz R), some (.fz (.int ((s : Int) - 1))), some (.fz (.int i)), none], [], .inl ?_, rfl, s - 1, _, by omega, by rw [← tz]; exact hz, ?_, by rw [show ((s - 1 : Nat) : Int) = (s : Int) - 1 by omega]⟩
          · simp only [fBody_nm, lp0_law_trim]
            simp [c0, i1, i2, c1]
          · rcases hx with hx | ⟨_, hx⟩
            · exact .inl (by omega)
            · exact absurd c1 hx
        · refine ⟨.int (0 + i), rfl, [some (.fz R), some (.fz (.int s)), some (.fz (.int i)), none], [], .inl ?_, rfl, s, _, hs, hz, .inr ⟨c0, by rw [← hv]; exact c1⟩, rfl⟩
          simp only [fBody_nm, lp0_law_trim]
          simp [c0, i1, i2, c1]
      · refine ⟨.int (0 + i), rfl, [some (.fz R), some (.fz (.int s)), some (.fz (.int i)), none], [], .inl ?_, rfl, s, _, hs, hz, ?_, rfl⟩
        · simp only [fBody_nm, lp0_law_trim]
          have c0' : s = 0 := by omega
          subst c0'
          simp
        · rcases hx with hx | ⟨hx, _⟩
          · exact .inl (by omega)
          · exact absurd hx c0) n 0 [some (.fz R), some (.fz (.int n)), none, none] [] (by omega) ⟨rfl, n, _, Nat.le_refl n, rfl, .inl (by omega), rfl⟩
  obtain ⟨ρ', st', e, rfl, s, t, hs, hz, hx, rfl⟩ := loop
  have r1 : rngOk 0 = true := by decide
  have r2 : rngOk (n : Int) = true := rngOk_nat (by omega)
  have r3 : rngOk (s : Int) = true := rngOk_nat (by omega)
  have lc := lc_rngD (G := G) (ρ := [some (.fz R), some (.fz (.int s)), t, none]) (st := []) (own := [3]) (i := 3) (n := s) (elt := .idx (.var 0) (.var 3)) (f := fun k => pr (vs.getD k (0, 1))) (by unfold LIM; omega) fun k hk => by
    have i1 := h2 k (by omega)
    simp [wipeS, i1]
  have es : tzn vs s = s := by
    rcases hx with hx | ⟨h3, h4⟩
    · have : s = 0 := by omega
      subst this; rfl
    · obtain ⟨s', rfl⟩ : ∃ s', s = s' + 1 := ⟨s - 1, by omega⟩
      unfold tzn
      exact if_neg h4
  have ez : trimV vs = vs.take s := by unfold trimV; rw [← hn, ← hz, es]
  rw [ez, ← take_range vs s (by omega)]
  simp [h1, kRng_eq r1 r2, e, kRng_eq r1 r3, lc, io]
end K04

/-! T10 -/
set_option Elab.async false
set_option linter.all false
set_option maxRecDepth 100000
set_option maxHeartbeats 8000000
namespace K04
open PySem PD L2 FR
/-! T10: polys -/
theorem scan_zero {a : List Nat} {s e : Nat} {v : Int × Int} (h : scanS a s = .told v e) (h0 : v.1 = 0) : v = (0, 1) := by
  unfold scanS at h
  simp only at h
  by_cases hp : figP a (K04.fst a s) = false
  · rw [if_pos hp] at h; cases h
  · rw [if_neg hp] at h
    have hp : figP a (K04.fst a s) = true := by simpa using hp
    by_cases hz : a[K04.fst a s]? = some 48
    · rw [if_pos hz] at h
      by_cases hn : a[s]? = some 45
      · rw [if_pos hn] at h; cases h
      · rw [if_neg hn] at h
        cases h; rfl
    · have vp := val_pos hp hz
      have nz : (if a[s]? = some 45 then (-1 : Int) else 1) * val (digs a (K04.fst a s)) ≠ 0 := by
        split <;> omega
      rw [if_neg hz] at h
      by_cases h47 : a[runE a (K04.fst a s)]? = some 47
      · rw [if_pos h47] at h
        split at h
        · cases h
        · split at h
          · cases h
          · split at h
            · cases h
            · cases h
              exact absurd h0 nz
      · rw [if_neg h47] at h
        split at h
        · cases h
        · cases h
          exact absurd h0 nz
/-- what is known of a row that was read -/
theorem nums_facts {a : List Nat} : ∀ (n s : Nat) {vs : List (Int × Int)} {e : Nat}, numsS a n s = .told vs e → vs ≠ [] ∧ vs.length + s ≤ e ∧ e ≤ a.length ∧ ∀ v ∈ vs, v.1 = 0 → v = (0, 1)
  | 0, s, vs, e, h => by cases h
  | n + 1, s, vs, e, h => by
    cases hs : scanS a s with
    | bad k => unfold numsS at h; rw [hs] at h; cases h
    | large w => unfold numsS at h; rw [hs] at h; cases h
    | told v e1 =>
      obtain ⟨h1, h2⟩ := scan_lt hs
      rw [nums_cont hs] at h
      unfold contS at h
      by_cases h44 : a[e1]? = some 44
      · rw [if_pos h44] at h
        cases hm : numsS a n (e1 + 1) with
        | bad k => rw [hm] at h; cases h
        | large w => rw [hm] at h; cases h
        | told ws e2 =>
          rw [hm] at h
          obtain ⟨g1, g2, g3, g4⟩ := nums_facts n (e1 + 1) hm
          have h' : Out.told ([v] ++ ws) e2 = Out.told vs e := h
          cases h'
          refine ⟨by simp, by simp; omega, g3, fun u hu hu0 => ?_⟩
          rcases List.mem_cons.mp hu with rfl | hu
          · exact scan_zero hs hu0
          · exact g4 u hu hu0
      · rw [if_neg h44] at h
        have h' : Out.told ([v] ++ []) e1 = Out.told vs e := h
        cases h'
        refine ⟨by simp, by simp; omega, h2, fun u hu hu0 => ?_⟩
        have : u = v := by simpa using hu
        subst this
        exact scan_zero hs hu0
def lastV (vs : List (Int × Int)) : Int × Int := vs.getD (vs.length - 1) (0, 1)
def polyS (a : List Nat) : Out (List (Int × Int)) := match numsS a (a.length + 1) 0 with
  | .bad k => .bad k
  | .large w => .large w
  | .told vs e => if 1 < vs.length ∧ (lastV vs).1 = 0 then .bad (e - 1) else if 41 < vs.length then .large "degree" else .told (trimV vs) e
theorem idx_prs {vs : List (Int × Int)} {k : Nat} {i : Int} (hi : i = (k : Int)) (h : k < vs.length) : idxS (.tup (vs.map pr)) (.int i) = some (pr (vs.getD k (0, 1))) := by
  rw [idx_tup hi (by rw [List.length_map]; exact h)]
  rw [List.getElem_map]
  simp [List.getD, List.getElem?_eq_getElem h]
theorem law_poly_due_ok {a : List Nat} (ha : SML a) : f_law_poly_due [.fz (.str (TS a))] = .ok (outQ (polyS a)) [] := by
  have nm := law_numbers_ok (a := a) (s := 0) (i := 0) rfl ha
  have ha' : a.length ≤ 100000 := ha
  rw [show f_law_poly_due = runDef (md.gam g_law_poly_due) ⟨3, b_law_poly_due⟩ from rfl, runDef_eq]
  simp only [b_law_poly_due, contsOf, slotsOf]
  obtain ⟨G, hG⟩ : ∃ G : Gam, G = { md.gam g_law_poly_due with io := ([] : List Cont).length } := ⟨_, rfl⟩
  have fns : G.fns = g_law_poly_due := by rw [hG]; rfl
  have io : G.io = 0 := by rw [hG]; rfl
  have con : G.con = md.con.map (·.2) := by rw [hG]; rfl
  have exq : G.exm = exmL md.exm := by rw [hG]; rfl
  have gq : g_law_poly_due = g_law_poly_due := rfl
  rw [← hG]
  unfold polyS
  cases h : numsS a (a.length + 1) 0 with
  | bad k =>
    rw [h] at nm
    simp only [outQ] at nm
    simp [fns, gq, g_law_poly_due, io, nm, sBa, outQ]
  | large w =>
    rw [h] at nm
    simp only [outQ] at nm
    simp [fns, gq, g_law_poly_due, io, nm, sLa, outQ]
  | told vs e =>
    rw [h] at nm
    simp only [outQ] at nm
    obtain ⟨f1, f2, f3, f4⟩ := nums_facts _ _ h
    have lp : 0 < vs.length := List.length_pos_iff.mpr f1
    have tr := trim_gen (R := .tup (vs.map pr)) (vs := vs) (by omega) (by rw [bfn_lent, List.length_map]) (fun k hk => idx_prs rfl hk)
    have il : idxS (.tup (vs.map pr)) (.int ((vs.length : Int) - 1)) = some (pr (lastV vs)) := idx_prs (by omega) (by omega)
    have i0 := pr0 (lastV vs)
    generalize hv : lastV vs = v at il i0
    have eX : ((e - 1 : Nat) : Int) = (e : Int) - 1 := by omega
    have c1i : ((1 : Int) < (vs.length : Int)) ↔ 1 < vs.length := by omega
    have c3i : ((41 : Int) < (vs.length : Int)) ↔ 41 < vs.length := by omega
    by_cases c1 : 1 < vs.length
    · by_cases c2 : v.1 = 0
      · simp [fns, gq, g_law_poly_due, io, nm, sTo, outQ, hv, c1i, c3i, c1, il, i0, c2, idx_tup2, eX]
      · by_cases c3 : 41 < vs.length
        · simp [fns, gq, g_law_poly_due, io, nm, sTo, outQ, hv, c1i, c3i, c1, il, i0, c2, c3]
        · simp [fns, gq, g_law_poly_due, io, nm, sTo, outQ, hv, c1i, c3i, c1, il, i0, c2, c3, tr, idx_tup2]
    · have c3 : ¬ 41 < vs.length := by omega
      simp [fns, gq, g_law_poly_due, io, nm, sTo, outQ, hv, c1i, c3i, c1, c3, tr, idx_tup2]
end K04

/-! T11 -/
set_option Elab.async false
set_option linter.all false
set_option maxRecDepth 100000
set_option maxHeartbeats 8000000
namespace K04
open PySem PD L2 FR
/-! T11: equality of what is read; the program's polys -/
def prP (v : Int × Int) : PyData := .tuple [.int v.1, .int v.2]
theorem pyOf_pr (v : Int × Int) : pyOf (pr v) = some (prP v) := rfl
theorem eqv_pr (x y : Int × Int) : PyData.eqv (prP x) (prP y) = decide (x = y) := by
  have e : PyData.eqv (prP x) (prP y) = (x.1 == y.1 && (x.2 == y.2 && true)) := by
    simp [prP, PyData.eqv, PyData.eqvAll]
  rw [e]
  obtain ⟨x1, x2⟩ := x
  obtain ⟨y1, y2⟩ := y
  by_cases h1 : x1 = y1 <;> by_cases h2 : x2 = y2 <;> simp [h1, h2]
theorem shaped_pr (x : Int × Int) : SeqAt.shaped (prP x) = true := by
  unfold SeqAt.shaped
  rw [show PyData.canLay0 (prP x) = true by simp [prP, PyData.canLay0, PyData.canLayAll0], show PyData.depth (prP x) = 1 by simp [prP, PyData.depth, PyData.depthAll]]
  rfl
theorem eqS_pr (x y : Int × Int) : eqS (pr x) (pr y) = some (decide (x = y)) := by
  show (match pyOf (pr x), pyOf (pr y) with
    | some p, some q => if SeqAt.shaped p && SeqAt.shaped q then some (PyData.eqv p q) else none
    | _, _ => none) = _
  rw [pyOf_pr, pyOf_pr]
  simp only [shaped_pr, Bool.and_self, if_true, eqv_pr]
theorem zero_pr : (.tup [.int 0, .int 1] : D) = pr (0, 1) := rfl
theorem trim_one {v : Int × Int} : trimV [v] = if v.1 = 0 then [] else [v] := by
  unfold trimV tzn tzn
  simp
  split <;> simp
theorem trim_id {vs : List (Int × Int)} (h : 0 < vs.length) (hl : (lastV vs).1 ≠ 0) : trimV vs = vs := by
  unfold trimV
  obtain ⟨n, hn⟩ : ∃ n, vs.length = n + 1 := ⟨vs.length - 1, by omega⟩
  have : tzn vs vs.length = vs.length := by
    rw [hn]
    unfold tzn
    unfold lastV at hl
    rw [hn] at hl
    exact if_neg hl
  rw [this, List.take_length]
theorem scan_poly_ok {a : List Nat} (ha : SML a) : f_scan_poly [.fz (.str (TS a)), .fz (.int 0)] = outP (polyS a) := by
  have nm := scan_numbers_ok (a := a) (s := 0) (i := 0) rfl ha
  have ha' : a.length ≤ 100000 := ha
  rw [show f_scan_poly = runDef (md.gam g_scan_poly) ⟨4, b_scan_poly⟩ from rfl, runDef_eq]
  simp only [b_scan_poly, contsOf, slotsOf]
  obtain ⟨G, hG⟩ : ∃ G : Gam, G = { md.gam g_scan_poly with io := ([] : List Cont).length } := ⟨_, rfl⟩
  have fns : G.fns = g_scan_poly := by rw [hG]; rfl
  have io : G.io = 0 := by rw [hG]; rfl
  have con : G.con = md.con.map (·.2) := by rw [hG]; rfl
  have exq : G.exm = exmL md.exm := by rw [hG]; rfl
  have gq : g_scan_poly = g_scan_poly := rfl
  rw [← hG]
  have c0 : G.con[0]? = some (pr (0, 1)) := by rw [con]; rfl
  have c1 : G.con[1]? = some (.int 40) := by rw [con]; rfl
  unfold polyS
  cases h : numsS a (a.length + 1) 0 with
  | bad k =>
    rw [h] at nm
    simp only [outP] at nm
    simp [fns, gq, g_scan_poly, io, nm, outP]
  | large w =>
    rw [h] at nm
    simp only [outP] at nm
    simp [fns, gq, g_scan_poly, io, nm, outP]
  | told vs e =>
    rw [h] at nm
    simp only [outP] at nm
    obtain ⟨f1, f2, f3, f4⟩ := nums_facts _ _ h
    have lp : 0 < vs.length := List.length_pos_iff.mpr f1
    have il : idxS (.tup (vs.map pr)) (.int (-1)) = some (pr (lastV vs)) := by
      show L2.atI (vs.map pr) (-1) = _
      unfold L2.atI L2.ixN
      rw [if_neg (by decide), List.length_map, if_pos (by omega)]
      have e1 : (-1 + (vs.length : Int)).toNat = vs.length - 1 := by omega
      rw [e1]
      show (vs.map pr)[vs.length - 1]? = _
      unfold lastV
      rw [List.getElem?_map]
      simp [List.getD, List.getElem?_eq_getElem (show vs.length - 1 < vs.length by omega)]
    have i0 : idxS (.tup (vs.map pr)) (.int 0) = some (pr (vs.getD 0 (0, 1))) := idx_prs rfl lp
    have lm : lastV vs ∈ vs := by
      unfold lastV
      rw [List.getD, List.getElem?_eq_getElem (show vs.length - 1 < vs.length by omega)]
      exact List.getElem_mem _
    have eX : badX (e - 1) = ⟨"BadText", [("place", .int ((e : Int) - 1))]⟩ := by unfold badX; rw [show ((e - 1 : Nat) : Int) = (e : Int) - 1 by omega]
    have c1i : ((1 : Int) < (vs.length : Int)) ↔ 1 < vs.length := by omega
    have c3i : ((41 : Int) < (vs.length : Int)) ↔ 41 < vs.length := by omega
    by_cases c2 : 1 < vs.length
    · have n1 : ¬ ((vs.length : Int) = 1) := by omega
      by_cases hz : (lastV vs).1 = 0
      · have ez := f4 _ lm hz
        rw [ez] at il
        simp [fns, gq, g_scan_poly, io, nm, outP, c2, n1, c0, c1, il, eqS_pr, hz, eX]
      · have ez : ¬ lastV vs = (0, 1) := fun z => hz (by rw [z])
        have ti := trim_id lp hz
        by_cases c3 : 41 < vs.length
        · simp [fns, gq, g_scan_poly, io, nm, outP, c2, n1, c0, c1, il, eqS_pr, hz, ez, c3i, c3]
        · simp [fns, gq, g_scan_poly, io, nm, outP, c2, n1, c0, c1, il, eqS_pr, hz, ez, c3i, c3, ti]
    · obtain ⟨v, rfl⟩ : ∃ v, vs = [v] := by
        cases vs with
        | nil => exact absurd rfl f1
        | cons v l =>
          cases l with
          | nil => exact ⟨v, rfl⟩
          | cons _ _ => simp at c2
      have lv : lastV [v] = v := rfl
      by_cases hz : v.1 = 0
      · have ez := f4 v (by simp) hz
        subst ez
        simp [fns, gq, g_scan_poly, io, nm, outP, c0, c1, il, i0, eqS_pr, trim_one, lv]
      · have ez : ¬ v = (0, 1) := fun z => hz (by rw [z])
        have il1 : idxS (.tup [pr v]) (.int (-1)) = some (pr v) := il
        simp [fns, gq, g_scan_poly, io, nm, outP, c0, c1, il1, i0, eqS_pr, trim_one, lv, ez, hz]
end K04

/-! T12 -/
set_option Elab.async false
set_option linter.all false
set_option maxRecDepth 100000
set_option maxHeartbeats 8000000
namespace K04
open PySem PD L2 FR
/-! T12: matrices, the program's reader -/
abbrev Row : Type := List (Int × Int)
def prs (v : Row) : D := .tup (v.map pr)
def moreS (a : List Nat) : Nat → Nat → List Row → Nat → Out (List Row)
  | 0, _, rows, e => .told rows e
  | n + 1, size, rows, e => if a[e]? = some 59 then
      (if rows.length = size then .bad e else match numsS a (a.length + 1) (e + 1) with
        | .bad k => .bad k
        | .large w => .large w
        | .told v e2 => if v.length ≠ size then .bad e2 else moreS a n size (rows ++ [v]) e2)
    else .told rows e
def finM (size : Nat) : Out (List Row) → Out (List Row)
  | .bad k => .bad k
  | .large w => .large w
  | .told rows e => if rows.length < size then .bad e else if 30 < size then .large "size" else .told rows e
def matS (a : List Nat) : Out (List Row) := match numsS a (a.length + 1) 0 with
  | .bad k => .bad k
  | .large w => .large w
  | .told v e => finM v.length (moreS a a.length v.length [v] e)
def outPM (o : Out (List Row)) : FRes := match o with
  | .bad k => .exc (badX k) []
  | .large w => .exc ⟨"TooLarge", [("what", .str w)]⟩ []
  | .told rows e => .ok (.tup [.tup (rows.map prs), .int (e : Int)]) []
theorem sSe : Str.ofString ";" = TS [59] := by decide +kernel
def mpc : Ex := .and_ (.cmp .lt (.var 3) (.bfn .len (.cons (.var 0) .nil))) (.cmp .eq (.idx (.var 0) (.var 3)) (.lit (.str ";")))
def mpb : Sts := .cons (.if_ (.cmp .eq (.bfn .len (.cons (.var 5) .nil)) (.var 4)) (.cons (.raisf "BadText" "place" (.var 3)) .nil) .nil) (.cons (.asg (.tp [2, 3]) (.call 0 (.cons (.var 0) (.cons (.bin .add (.var 3) (.lit (.int (1)))) .nil)))) (.cons (.if_ (.cmp .ne (.bfn .len (.cons (.var 2) .nil)) (.var 4)) (.cons (.raisf "BadText" "place" (.var 3)) .nil) .nil) (.cons (.app 5 (.var 2)) .nil)))
def mpe : Sts := .cons (.if_ (.cmp .lt (.bfn .len (.cons (.var 5) .nil)) (.var 4)) (.cons (.raisf "BadText" "place" (.var 3)) .nil) .nil) (.cons (.if_ (.cmp .gt (.var 4) (.glo 4)) (.cons (.raisf "TooLarge" "what" (.lit (.str "size"))) .nil) .nil) (.cons (.ret (.tup (.cons (.bfn .tuple (.cons (.var 5) .nil)) (.cons (.var 3) .nil)))) .nil))
theorem sm_split : b_scan_matrix = .cons (.asg (.tp [2, 3]) (.call 0 (.cons (.var 0) (.cons (.var 1) .nil)))) (.cons (.asg (.nm 4) (.bfn .len (.cons (.var 2) .nil))) (.cons (.asg (.nm 5) (.lst (.cons (.var 2) .nil))) (.cons (.whl mpc mpb) mpe))) := rfl
def MInv (a : List Nat) (size : Nat) (T : Out (List Row)) (k : Nat) (ρ : Slots) (st : Store) : Prop :=
  ∃ (rows : List Row) (x : D) (e n : Nat), st = [.lst (rows.map prs)] ∧ ρ = [some (.fz (.str (TS a))), some (.fz (.int 0)), some (.fz x), some (.fz (.int (e : Int))), some (.fz (.int (size : Int))), some (.loc 0)] ∧ k = a.length - e ∧ e ≤ a.length ∧ rows.length ≤ e ∧ a.length ≤ n + e ∧ T = moreS a n size rows e
def MDone (a : List Nat) (size : Nat) (T : Out (List Row)) (r : SR) : Prop :=
  (∃ rows e x, T = .told rows e ∧ rows.length ≤ a.length ∧ r = .nx [some (.fz (.str (TS a))), some (.fz (.int 0)), some (.fz x), some (.fz (.int (e : Int))), some (.fz (.int (size : Int))), some (.loc 0)] [.lst (rows.map prs)]) ∨ (∃ k ρ st, T = .bad k ∧ r = .exc (badX k) ρ st) ∨ (∃ w ρ st, T = .large w ∧ r = .exc ⟨"TooLarge", [("what", .str w)]⟩ ρ st)
theorem mat_while {G : Gam} (fns : G.fns = g_scan_matrix) (io : G.io = 0) {a : List Nat} (ha : SML a) {size : Nat} {T : Out (List Row)} :
    ∀ (k : Nat) (ρ : Slots) (st : Store), MInv a size T k ρ st → MDone a size T (whileS (ev G mpc) (exs G mpb) ρ st) := by
  have hl := sml_lim ha
  have ha' : a.length ≤ 100000 := ha
  have gq : g_scan_matrix = g_scan_matrix := rfl
  refine while_out (MInv a size T) (MDone a size T) ?_
  intro k ρ st ⟨rows, x, e, n, e1, e2, e3, e4, e5, e6, e7⟩
  subst e1 e2
  by_cases h59 : a[e]? = some 59
  · right
    have he := (List.getElem?_eq_some_iff.mp h59).1
    have ix := idx_ts hl h59
    have bm : TS [59] = Str.ofString ";" := sSe.symm
    refine ⟨by simp [mpc, len_ts hl, he, ix, bm], ?_⟩
    obtain ⟨n', rfl⟩ : ∃ n', n = n' + 1 := ⟨n - 1, by omega⟩
    have e8 : T = (if rows.length = size then Out.bad e else match numsS a (a.length + 1) (e + 1) with
        | .bad k => Out.bad k
        | .large w => .large w
        | .told v e2 => if v.length ≠ size then .bad e2 else moreS a n' size (rows ++ [v]) e2) := by
      rw [e7]
      show (if a[e]? = some 59 then _ else _) = _
      rw [if_pos h59]
    have sc := scan_numbers_ok (a := a) (s := e + 1) (i := (e : Int) + 1) (by omega) ha
    by_cases hr : rows.length = size
    · rw [if_pos hr] at e8
      have hr' : ((rows.length : Int) == (size : Int)) = true := by simp [hr]
      have eb : exs G mpb [some (.fz (.str (TS a))), some (.fz (.int 0)), some (.fz x), some (.fz (.int (e : Int))), some (.fz (.int (size : Int))), some (.loc 0)] [.lst (rows.map prs)] = .exc (badX e) [some (.fz (.str (TS a))), some (.fz (.int 0)), some (.fz x), some (.fz (.int (e : Int))), some (.fz (.int (size : Int))), some (.loc 0)] [.lst (rows.map prs)] := by
        simp [mpb, io, hr, badX]
      exact .inr ⟨⟨_, _, _, eb⟩, .inr (.inl ⟨e, _, _, e8, eb⟩)⟩
    · rw [if_neg hr] at e8
      have hr' : ¬ (rows.length : Int) = (size : Int) := by omega
      cases hm : numsS a (a.length + 1) (e + 1) with
      | bad k2 =>
        rw [hm] at e8 sc
        simp only [outP] at e8 sc
        have eb : exs G mpb [some (.fz (.str (TS a))), some (.fz (.int 0)), some (.fz x), some (.fz (.int (e : Int))), some (.fz (.int (size : Int))), some (.loc 0)] [.lst (rows.map prs)] = .exc (badX k2) [some (.fz (.str (TS a))), some (.fz (.int 0)), some (.fz x), some (.fz (.int (e : Int))), some (.fz (.int (size : Int))), some (.loc 0)] [.lst (rows.map prs)] := by
          simp [mpb, fns, gq, g_scan_matrix, io, hr', sc]
        exact .inr ⟨⟨_, _, _, eb⟩, .inr (.inl ⟨k2, _, _, e8, eb⟩)⟩
      | large w =>
        rw [hm] at e8 sc
        simp only [outP] at e8 sc
        have eb : exs G mpb [some (.fz (.str (TS a))), some (.fz (.int 0)), some (.fz x), some (.fz (.int (e : Int))), some (.fz (.int (size : Int))), some (.loc 0)] [.lst (rows.map prs)] = .exc ⟨"TooLarge", [("what", .str w)]⟩ [some (.fz (.str (TS a))), some (.fz (.int 0)), some (.fz x), some (.fz (.int (e : Int))), some (.fz (.int (size : Int))), some (.loc 0)] [.lst (rows.map prs)] := by
          simp [mpb, fns, gq, g_scan_matrix, io, hr', sc]
        exact .inr ⟨⟨_, _, _, eb⟩, .inr (.inr ⟨w, _, _, e8, eb⟩)⟩
      | told v e2 =>
        rw [hm] at e8 sc
        simp only [outP] at e8 sc
        obtain ⟨f1, f2, f3, f4⟩ := nums_facts _ _ hm
        have lp : 0 < v.length := List.length_pos_iff.mpr f1
        by_cases hv : v.length = size
        · rw [if_neg (by simpa using hv)] at e8
          have lim : rows.length < LIM := by have : LIM = 16777216 := rfl; omega
          have k2 := fun (ρ : Slots) (d : D) => kApp2_eq (ρ := ρ) (st := [.lst (rows.map prs)]) (n := 0) (ds := rows.map prs) (d := d) rfl (by rw [List.length_map]; exact lim)
          have ap : ex G (.app 5 (.var 2)) [some (.fz (.str (TS a))), some (.fz (.int 0)), some (.fz (.tup (v.map pr))), some (.fz (.int (e2 : Int))), some (.fz (.int (size : Int))), some (.loc 0)] [.lst (rows.map prs)] = .nx [some (.fz (.str (TS a))), some (.fz (.int 0)), some (.fz (.tup (v.map pr))), some (.fz (.int (e2 : Int))), some (.fz (.int (size : Int))), some (.loc 0)] [.lst (rows.map prs ++ [.tup (v.map pr)])] := by
            rw [ex_app (n := 0) (ds := rows.map prs) rfl rfl]
            simp [k2]
          left
          refine ⟨a.length - e2, [some (.fz (.str (TS a))), some (.fz (.int 0)), some (.fz (prs v)), some (.fz (.int (e2 : Int))), some (.fz (.int (size : Int))), some (.loc 0)], [.lst ((rows ++ [v]).map prs)], by omega, ?_, rows ++ [v], prs v, e2, n', rfl, rfl, rfl, f3, by simp; omega, by omega, e8⟩
          simp [mpb, fns, gq, g_scan_matrix, io, hr', sc, hv, prs, ap]
        · rw [if_pos hv] at e8
          have hv' : ¬ (v.length : Int) = (size : Int) := by omega
          have eb : exs G mpb [some (.fz (.str (TS a))), some (.fz (.int 0)), some (.fz x), some (.fz (.int (e : Int))), some (.fz (.int (size : Int))), some (.loc 0)] [.lst (rows.map prs)] = .exc (badX e2) [some (.fz (.str (TS a))), some (.fz (.int 0)), some (.fz (prs v)), some (.fz (.int (e2 : Int))), some (.fz (.int (size : Int))), some (.loc 0)] [.lst (rows.map prs)] := by
            simp [mpb, fns, gq, g_scan_matrix, io, hr', sc, hv', badX, prs]
          exact .inr ⟨⟨_, _, _, eb⟩, .inr (.inl ⟨e2, _, _, e8, eb⟩)⟩
  · left
    have e8 : T = .told rows e := by
      rw [e7]
      cases n with
      | zero => rfl
      | succ n => show (if a[e]? = some 59 then _ else _) = _; rw [if_neg h59]
    refine ⟨?_, .inl ⟨rows, e, x, e8, by omega, rfl⟩⟩
    cases h : a[e]? with
    | none =>
      have he : ¬ e < a.length := by have := List.getElem?_eq_none_iff.mp h; omega
      simp [mpc, len_ts hl, he]
    | some d =>
      have he := (List.getElem?_eq_some_iff.mp h).1
      have ix := idx_ts hl h
      have bm : (TS [d] == Str.ofString ";") = false := by rw [sSe, ts_one]; exact decide_eq_false (fun z => h59 (by rw [h, z]))
      simp [mpc, len_ts hl, he, ix, bm]
end K04

/-! T13 -/
set_option Elab.async false
set_option linter.all false
set_option maxRecDepth 100000
set_option maxHeartbeats 8000000
namespace K04
open PySem PD L2 FR
/-! T13: matrices, the program's reader, whole -/
theorem scan_matrix_ok {a : List Nat} (ha : SML a) : f_scan_matrix [.fz (.str (TS a)), .fz (.int 0)] = outPM (matS a) := by
  have hl := sml_lim ha
  have ha' : a.length ≤ 100000 := ha
  rw [show f_scan_matrix = runDef (md.gam g_scan_matrix) ⟨6, b_scan_matrix⟩ from rfl, runDef_eq, sm_split]
  simp only [contsOf, slotsOf]
  obtain ⟨G, hG⟩ : ∃ G : Gam, G = { md.gam g_scan_matrix with io := ([] : List Cont).length } := ⟨_, rfl⟩
  have fns : G.fns = g_scan_matrix := by rw [hG]; rfl
  have io : G.io = 0 := by rw [hG]; rfl
  have c4 : G.con[4]? = some (.int 30) := by rw [hG]; rfl
  have gq : g_scan_matrix = g_scan_matrix := rfl
  rw [← hG]
  have sc := scan_numbers_ok (a := a) (s := 0) (i := 0) rfl ha
  unfold matS
  cases h : numsS a (a.length + 1) 0 with
  | bad k =>
    rw [h] at sc
    simp only [outP] at sc
    simp [fns, gq, g_scan_matrix, io, sc, outPM]
  | large w =>
    rw [h] at sc
    simp only [outP] at sc
    simp [fns, gq, g_scan_matrix, io, sc, outPM]
  | told v e =>
    rw [h] at sc
    simp only [outP] at sc
    obtain ⟨f1, f2, f3, f4⟩ := nums_facts _ _ h
    have lp : 0 < v.length := List.length_pos_iff.mpr f1
    obtain ⟨T, hT⟩ : ∃ T, T = moreS a a.length v.length [v] e := ⟨_, rfl⟩
    simp only []
    rw [← hT]
    have wh := mat_while fns io ha (size := v.length) (T := T) (a.length - e) [some (.fz (.str (TS a))), some (.fz (.int 0)), some (.fz (prs v)), some (.fz (.int (e : Int))), some (.fz (.int (v.length : Int))), some (.loc 0)] [.lst [prs v]]
      ⟨[v], prs v, e, a.length, rfl, rfl, rfl, f3, by simp; omega, by omega, hT⟩
    have prsv : prs v = .tup (v.map pr) := rfl
    rw [prsv] at wh
    rcases wh with ⟨rows, e2, x, eT, hr, eW⟩ | ⟨k, ρ', st', eT, eW⟩ | ⟨w, ρ', st', eT, eW⟩
    · rw [eT]
      have c1 : ((rows.length : Int) < (v.length : Int)) ↔ rows.length < v.length := by omega
      have c2 : ((30 : Int) < (v.length : Int)) ↔ 30 < v.length := by omega
      by_cases h1 : rows.length < v.length
      · simp [fns, gq, g_scan_matrix, io, sc, eW, outPM, mpe, finM, c1, h1, badX]
      · by_cases h2 : 30 < v.length
        · simp [fns, gq, g_scan_matrix, io, sc, eW, outPM, mpe, finM, c1, h1, c2, h2, c4]
        · simp [fns, gq, g_scan_matrix, io, sc, eW, outPM, mpe, finM, c1, h1, c2, h2, c4]
    · rw [eT]
      simp [fns, gq, g_scan_matrix, io, sc, eW, outPM, finM]
    · rw [eT]
      simp [fns, gq, g_scan_matrix, io, sc, eW, outPM, finM]
end K04

/-! T14 -/
set_option Elab.async false
set_option linter.all false
set_option maxRecDepth 100000
set_option maxHeartbeats 8000000
namespace K04
open PySem PD L2 FR
/-! T14: matrices, the law's reader -/
def outQM (o : Out (List Row)) : D := match o with
  | .bad k => .tup [.str "bad", .int (k : Int), .int 0]
  | .large w => .tup [.str "large", .str w, .int 0]
  | .told rows e => .tup [.str "told", .tup (rows.map prs), .int (e : Int)]
theorem more_idle {a : List Nat} {size : Nat} {rows : List Row} {e : Nat} (h : ¬ a[e]? = some 59) : ∀ n, moreS a n size rows e = .told rows e
  | 0 => rfl
  | n + 1 => by show (if a[e]? = some 59 then _ else _) = _; rw [if_neg h]
def LInv (a : List Nat) (size : Nat) (T : Out (List Row)) (i : Nat) (ρ : Slots) (st : Store) : Prop :=
  ∃ (rows : List Row) (x : D) (e : Nat) (t u : Option Val), st = [.lst (rows.map prs)] ∧ ρ = [some (.fz (.str (TS a))), some (.fz (.tup [.str "told", x, .int (e : Int)])), some (.fz (.int (size : Int))), some (.loc 0), t, u] ∧ rows.length ≤ e ∧ e ≤ a.length ∧ T = moreS a (a.length - i) size rows e
def LOut (T : Out (List Row)) (r : SR) : Prop := ∃ st, (∃ k, T = .bad k ∧ r = .rt (.tup [.str "bad", .int (k : Int), .int 0]) st) ∨ (∃ w, T = .large w ∧ r = .rt (.tup [.str "large", .str w, .int 0]) st)
theorem law_matrix_due_ok {a : List Nat} (ha : SML a) : f_law_matrix_due [.fz (.str (TS a))] = .ok (outQM (matS a)) [] := by
  have hl := sml_lim ha
  have ha' : a.length ≤ 100000 := ha
  have nm := law_numbers_ok (a := a) (s := 0) (i := 0) rfl ha
  have r1 : rngOk 0 = true := by decide
  have r2 : rngOk (a.length : Int) = true := rngOk_nat (by omega)
  rw [show f_law_matrix_due = runDef (md.gam g_law_matrix_due) ⟨6, b_law_matrix_due⟩ from rfl, runDef_eq]
  simp only [b_law_matrix_due, contsOf, slotsOf]
  obtain ⟨G, hG⟩ : ∃ G : Gam, G = { md.gam g_law_matrix_due with io := ([] : List Cont).length } := ⟨_, rfl⟩
  have fns : G.fns = g_law_matrix_due := by rw [hG]; rfl
  have io : G.io = 0 := by rw [hG]; rfl
  have con : G.con = md.con.map (·.2) := by rw [hG]; rfl
  have exq : G.exm = exmL md.exm := by rw [hG]; rfl
  have gq : g_law_matrix_due = g_law_matrix_due := rfl
  rw [← hG]
  unfold matS
  cases h : numsS a (a.length + 1) 0 with
  | bad k =>
    rw [h] at nm
    simp only [outQ] at nm
    simp [fns, gq, g_law_matrix_due, io, nm, sBa, outQM]
  | large w =>
    rw [h] at nm
    simp only [outQ] at nm
    simp [fns, gq, g_law_matrix_due, io, nm, sLa, outQM]
  | told v e =>
    rw [h] at nm
    simp only [outQ] at nm
    obtain ⟨f1, f2, f3, f4⟩ := nums_facts _ _ h
    have lp : 0 < v.length := List.length_pos_iff.mpr f1
    obtain ⟨T, hT⟩ : ∃ T, T = moreS a a.length v.length [v] e := ⟨_, rfl⟩
    simp only []
    rw [← hT]
    have loop := for_out (I := .rng 0 a.length) (body := fBody G (.nm 4) lp0_law_matrix_due) (n := a.length) (LInv a v.length T) (LOut T) (fun i ρ st _ _ => rfl)
      (fun i ρ st hi ⟨rows, x, e, t, u, e1, e2, e3, e4, e5⟩ => ⟨_, rfl, by
        subst e1 e2
        have se : slcS (.str (TS a)) (some (e : Int)) (some ((e : Int) + 1)) = .d (.str (TS (cutN a e (e + 1)))) := slc_tsi rfl (by omega) hl
        by_cases h59 : a[e]? = some 59
        · rw [cut_one, h59] at se
          simp only at se
          have bm : TS [59] = Str.ofString ";" := sSe.symm
          obtain ⟨n', hn'⟩ : ∃ n', a.length - i = n' + 1 := ⟨a.length - i - 1, by omega⟩
          rw [hn'] at e5
          have e8 : T = (if rows.length = v.length then Out.bad e else match numsS a (a.length + 1) (e + 1) with
              | .bad k => Out.bad k
              | .large w => .large w
              | .told v' e2 => if v'.length ≠ v.length then .bad e2 else moreS a n' v.length (rows ++ [v']) e2) := by
            rw [e5]
            show (if a[e]? = some 59 then _ else _) = _
            rw [if_pos h59]
            try rfl
          have sc := law_numbers_ok (a := a) (s := e + 1) (i := (e : Int) + 1) (by omega) ha
          by_cases hr : rows.length = v.length
          · rw [if_pos hr] at e8
            right
            have eb : fBody G (.nm 4) lp0_law_matrix_due (.int ((0 : Int) + i)) [some (.fz (.str (TS a))), some (.fz (.tup [.str "told", x, .int (e : Int)])), some (.fz (.int (v.length : Int))), some (.loc 0), t, u] [.lst (rows.map prs)] = .rt (.tup [.str "bad", .int (e : Int), .int 0]) [.lst (rows.map prs)] := by
              simp [lp0_law_matrix_due, fns, gq, g_law_matrix_due, io, idx_tup2, se, bm, hr]
            exact ⟨⟨_, _, eb⟩, _, .inl ⟨e, e8, eb⟩⟩
          · rw [if_neg hr] at e8
            have hr' : ¬ (rows.length : Int) = (v.length : Int) := by omega
            cases hm : numsS a (a.length + 1) (e + 1) with
            | bad k2 =>
              rw [hm] at e8 sc
              simp only [outQ] at e8 sc
              right
              have eb : fBody G (.nm 4) lp0_law_matrix_due (.int ((0 : Int) + i)) [some (.fz (.str (TS a))), some (.fz (.tup [.str "told", x, .int (e : Int)])), some (.fz (.int (v.length : Int))), some (.loc 0), t, u] [.lst (rows.map prs)] = .rt (.tup [.str "bad", .int (k2 : Int), .int 0]) [.lst (rows.map prs)] := by
                simp [lp0_law_matrix_due, fns, gq, g_law_matrix_due, io, idx_tup2, se, bm, hr', sc, sBa]
              exact ⟨⟨_, _, eb⟩, _, .inl ⟨k2, e8, eb⟩⟩
            | large w =>
              rw [hm] at e8 sc
              simp only [outQ] at e8 sc
              right
              have eb : fBody G (.nm 4) lp0_law_matrix_due (.int ((0 : Int) + i)) [some (.fz (.str (TS a))), some (.fz (.tup [.str "told", x, .int (e : Int)])), some (.fz (.int (v.length : Int))), some (.loc 0), t, u] [.lst (rows.map prs)] = .rt (.tup [.str "large", .str w, .int 0]) [.lst (rows.map prs)] := by
                simp [lp0_law_matrix_due, fns, gq, g_law_matrix_due, io, idx_tup2, se, bm, hr', sc, sLa]
              exact ⟨⟨_, _, eb⟩, _, .inr ⟨w, e8, eb⟩⟩
            | told v2 e2 =>
              rw [hm] at e8 sc
              simp only [outQ] at e8 sc
              obtain ⟨g1, g2, g3, g4⟩ := nums_facts _ _ hm
              have lp2 : 0 < v2.length := List.length_pos_iff.mpr g1
              by_cases hv : v2.length = v.length
              · rw [if_neg (by simpa using hv)] at e8
                have lim : rows.length < LIM := by have : LIM = 16777216 := rfl; omega
                have k2 := fun (ρ : Slots) (d : D) => kApp2_eq (ρ := ρ) (st := [.lst (rows.map prs)]) (n := 0) (ds := rows.map prs) (d := d) rfl (by rw [List.length_map]; exact lim)
                have ap : ex G (.app 3 (.idx (.var 1) (.lit (.int 1)))) [some (.fz (.str (TS a))), some (.fz (.tup [.str "told", .tup (v2.map pr), .int (e2 : Int)])), some (.fz (.int (v.length : Int))), some (.loc 0), some (.fz (.int (i : Int))), some (.fz (.int (e : Int)))] [.lst (rows.map prs)] = .nx [some (.fz (.str (TS a))), some (.fz (.tup [.str "told", .tup (v2.map pr), .int (e2 : Int)])), some (.fz (.int (v.length : Int))), some (.loc 0), some (.fz (.int (i : Int))), some (.fz (.int (e : Int)))] [.lst (rows.map prs ++ [.tup (v2.map pr)])] := by
                  rw [ex_app (n := 0) (ds := rows.map prs) rfl rfl]
                  simp [k2]
                left
                refine ⟨[some (.fz (.str (TS a))), some (.fz (.tup [.str "told", prs v2, .int (e2 : Int)])), some (.fz (.int (v.length : Int))), some (.loc 0), some (.fz (.int (i : Int))), some (.fz (.int (e : Int)))], [.lst ((rows ++ [v2]).map prs)], .inl ?_, rows ++ [v2], prs v2, e2, _, _, rfl, rfl, by simp; omega, g3, by rw [e8, show a.length - (i + 1) = n' by omega]⟩
                simp [lp0_law_matrix_due, fns, gq, g_law_matrix_due, io, idx_tup2, se, bm, hr', sc, sTo, hv, prs, ap]
              · rw [if_pos hv] at e8
                have hv' : ¬ (v2.length : Int) = (v.length : Int) := by omega
                right
                have eb : fBody G (.nm 4) lp0_law_matrix_due (.int ((0 : Int) + i)) [some (.fz (.str (TS a))), some (.fz (.tup [.str "told", x, .int (e : Int)])), some (.fz (.int (v.length : Int))), some (.loc 0), t, u] [.lst (rows.map prs)] = .rt (.tup [.str "bad", .int (e2 : Int), .int 0]) [.lst (rows.map prs)] := by
                  simp [lp0_law_matrix_due, fns, gq, g_law_matrix_due, io, idx_tup2, se, bm, hr', sc, sTo, hv']
                exact ⟨⟨_, _, eb⟩, _, .inl ⟨e2, e8, eb⟩⟩
        · have nse : (TS (cutN a e (e + 1)) == Str.ofString ";") = false := by
            rw [cut_one, sSe, ts_beq]
            refine decide_eq_false fun z => h59 ?_
            cases q : a[e]? with
            | none => rw [q] at z; cases z
            | some d => rw [q] at z; cases z; rfl
          left
          refine ⟨[some (.fz (.str (TS a))), some (.fz (.tup [.str "told", x, .int (e : Int)])), some (.fz (.int (v.length : Int))), some (.loc 0), some (.fz (.int (i : Int))), some (.fz (.int (e : Int)))], [.lst (rows.map prs)], .inl ?_, rows, x, e, _, _, rfl, rfl, e3, e4, by rw [e5, more_idle h59, more_idle h59]⟩
          simp [lp0_law_matrix_due, fns, gq, g_law_matrix_due, io, idx_tup2, se, nse]⟩)
      a.length 0 [some (.fz (.str (TS a))), some (.fz (.tup [.str "told", prs v, .int (e : Int)])), some (.fz (.int (v.length : Int))), some (.loc 0), none, none] [.lst [prs v]] (by omega) ⟨[v], prs v, e, none, none, rfl, rfl, by simp; omega, f3, hT⟩
    have prsv : prs v = .tup (v.map pr) := rfl
    rw [prsv] at loop
    rcases loop with ⟨ρ', st', eW, rows, x, e2, t, u, rfl, rfl, e3, e4, e5⟩ | ⟨st', ⟨k, eT, eW⟩ | ⟨w, eT, eW⟩⟩
    · rw [Nat.sub_self] at e5
      have eT : T = .told rows e2 := e5
      rw [eT]
      have c1 : ((rows.length : Int) < (v.length : Int)) ↔ rows.length < v.length := by omega
      have c2 : ((30 : Int) < (v.length : Int)) ↔ 30 < v.length := by omega
      by_cases h1 : rows.length < v.length
      · simp [fns, gq, g_law_matrix_due, io, nm, sTo, len_ts hl, kRng_eq r1 r2, eW, outQM, finM, c1, h1, idx_tup2]
      · by_cases h2 : 30 < v.length
        · simp [fns, gq, g_law_matrix_due, io, nm, sTo, len_ts hl, kRng_eq r1 r2, eW, outQM, finM, c1, h1, c2, h2, idx_tup2]
        · simp [fns, gq, g_law_matrix_due, io, nm, sTo, len_ts hl, kRng_eq r1 r2, eW, outQM, finM, c1, h1, c2, h2, idx_tup2]
    · rw [eT]
      simp [fns, gq, g_law_matrix_due, io, nm, sTo, len_ts hl, kRng_eq r1 r2, eW, outQM, finM]
    · rw [eT]
      simp [fns, gq, g_law_matrix_due, io, nm, sTo, len_ts hl, kRng_eq r1 r2, eW, outQM, finM]
end K04

/-! T15 -/
set_option Elab.async false
set_option linter.all false
set_option maxRecDepth 100000
set_option maxHeartbeats 8000000
namespace K04
open PySem PD L2 FR
/-! T15: whole texts -/
def Out.mp {α : Type} (f : α → D) : Out α → Out D
  | .bad k => .bad k
  | .large w => .large w
  | .told v e => .told (f v) e
/-- nothing may stand behind -/
def endO (n : Nat) : Out D → Out D
  | .bad k => .bad k
  | .large w => .large w
  | .told v e => if e < n then .bad e else .told v e
def doorS (door : Nat) (a : List Nat) : Out D := match door with
  | 0 => (scanS a 0).mp pr
  | 1 => (polyS a).mp prs
  | _ => (matS a).mp fun r => .tup (r.map prs)
def readS (door : Nat) (a : List Nat) : Out D := endO a.length (doorS door a)
def outR (o : Out D) : FRes := match o with
  | .bad k => .exc (badX k) []
  | .large w => .exc ⟨"TooLarge", [("what", .str w)]⟩ []
  | .told d _ => .ok d []
def outD (o : Out D) : D := match o with
  | .bad k => .tup [.str "bad", .int (k : Int), .int 0]
  | .large w => .tup [.str "large", .str w, .int 0]
  | .told d e => .tup [.str "told", d, .int (e : Int)]
theorem check_text_ok {s : Str} : f_check_text [.fz (.str s)] = .ok (.str s) [] := by
  rw [show f_check_text = runDef (md.gam g_check_text) ⟨1, b_check_text⟩ from rfl, runDef_eq]
  simp only [b_check_text, contsOf, slotsOf]
  obtain ⟨G, hG⟩ : ∃ G : Gam, G = { md.gam g_check_text with io := ([] : List Cont).length } := ⟨_, rfl⟩
  have fns : G.fns = g_check_text := by rw [hG]; rfl
  have io : G.io = 0 := by rw [hG]; rfl
  have con : G.con = md.con.map (·.2) := by rw [hG]; rfl
  have exq : G.exm = exmL md.exm := by rw [hG]; rfl
  have gq : g_check_text = g_check_text := rfl
  rw [← hG]
  simp [io]
theorem read_number_ok {a : List Nat} (ha : SML a) : f_read_number [.fz (.str (TS a))] = outR (readS 0 a) := by
  have hl := sml_lim ha
  have sc := scan_i (a := a) (s := 0) (i := 0) rfl ha
  have ct := check_text_ok (s := TS a)
  rw [show f_read_number = runDef (md.gam g_read_number) ⟨3, b_read_number⟩ from rfl, runDef_eq]
  simp only [b_read_number, contsOf, slotsOf]
  obtain ⟨G, hG⟩ : ∃ G : Gam, G = { md.gam g_read_number with io := ([] : List Cont).length } := ⟨_, rfl⟩
  have fns : G.fns = g_read_number := by rw [hG]; rfl
  have io : G.io = 0 := by rw [hG]; rfl
  have con : G.con = md.con.map (·.2) := by rw [hG]; rfl
  have exq : G.exm = exmL md.exm := by rw [hG]; rfl
  have gq : g_read_number = g_read_number := rfl
  rw [← hG]
  unfold readS doorS
  cases h : scanS a 0 with
  | bad k =>
    rw [h] at sc
    simp only [outX] at sc
    simp [fns, gq, g_read_number, io, ct, sc, Out.mp, endO, outR]
  | large w =>
    rw [h] at sc
    simp only [outX] at sc
    simp [fns, gq, g_read_number, io, ct, sc, Out.mp, endO, outR]
  | told v e =>
    rw [h] at sc
    simp only [outX] at sc
    have c1 : ((e : Int) < (a.length : Int)) ↔ e < a.length := by omega
    by_cases hb : e < a.length
    · simp [fns, gq, g_read_number, io, ct, sc, Out.mp, endO, outR, len_ts hl, c1, hb, badX]
    · simp [fns, gq, g_read_number, io, ct, sc, Out.mp, endO, outR, len_ts hl, c1, hb, pr]
theorem read_poly_ok {a : List Nat} (ha : SML a) : f_read_poly [.fz (.str (TS a))] = outR (readS 1 a) := by
  have hl := sml_lim ha
  have sc := scan_poly_ok ha
  have ct := check_text_ok (s := TS a)
  rw [show f_read_poly = runDef (md.gam g_read_poly) ⟨3, b_read_poly⟩ from rfl, runDef_eq]
  simp only [b_read_poly, contsOf, slotsOf]
  obtain ⟨G, hG⟩ : ∃ G : Gam, G = { md.gam g_read_poly with io := ([] : List Cont).length } := ⟨_, rfl⟩
  have fns : G.fns = g_read_poly := by rw [hG]; rfl
  have io : G.io = 0 := by rw [hG]; rfl
  have con : G.con = md.con.map (·.2) := by rw [hG]; rfl
  have exq : G.exm = exmL md.exm := by rw [hG]; rfl
  have gq : g_read_poly = g_read_poly := rfl
  rw [← hG]
  unfold readS doorS
  cases h : polyS a with
  | bad k =>
    rw [h] at sc
    simp only [outP] at sc
    simp [fns, gq, g_read_poly, io, ct, sc, Out.mp, endO, outR]
  | large w =>
    rw [h] at sc
    simp only [outP] at sc
    simp [fns, gq, g_read_poly, io, ct, sc, Out.mp, endO, outR]
  | told v e =>
    rw [h] at sc
    simp only [outP] at sc
    have c1 : ((e : Int) < (a.length : Int)) ↔ e < a.length := by omega
    by_cases hb : e < a.length
    · simp [fns, gq, g_read_poly, io, ct, sc, Out.mp, endO, outR, len_ts hl, c1, hb, badX]
    · simp [fns, gq, g_read_poly, io, ct, sc, Out.mp, endO, outR, len_ts hl, c1, hb, prs]
theorem read_matrix_ok {a : List Nat} (ha : SML a) : f_read_matrix [.fz (.str (TS a))] = outR (readS 2 a) := by
  have hl := sml_lim ha
  have sc := scan_matrix_ok ha
  have ct := check_text_ok (s := TS a)
  rw [show f_read_matrix = runDef (md.gam g_read_matrix) ⟨3, b_read_matrix⟩ from rfl, runDef_eq]
  simp only [b_read_matrix, contsOf, slotsOf]
  obtain ⟨G, hG⟩ : ∃ G : Gam, G = { md.gam g_read_matrix with io := ([] : List Cont).length } := ⟨_, rfl⟩
  have fns : G.fns = g_read_matrix := by rw [hG]; rfl
  have io : G.io = 0 := by rw [hG]; rfl
  have con : G.con = md.con.map (·.2) := by rw [hG]; rfl
  have exq : G.exm = exmL md.exm := by rw [hG]; rfl
  have gq : g_read_matrix = g_read_matrix := rfl
  rw [← hG]
  unfold readS doorS
  cases h : matS a with
  | bad k =>
    rw [h] at sc
    simp only [outPM] at sc
    simp [fns, gq, g_read_matrix, io, ct, sc, Out.mp, endO, outR]
  | large w =>
    rw [h] at sc
    simp only [outPM] at sc
    simp [fns, gq, g_read_matrix, io, ct, sc, Out.mp, endO, outR]
  | told v e =>
    rw [h] at sc
    simp only [outPM] at sc
    have c1 : ((e : Int) < (a.length : Int)) ↔ e < a.length := by omega
    by_cases hb : e < a.length
    · simp [fns, gq, g_read_matrix, io, ct, sc, Out.mp, endO, outR, len_ts hl, c1, hb, badX]
    · simp [fns, gq, g_read_matrix, io, ct, sc, Out.mp, endO, outR, len_ts hl, c1, hb]
end K04

/-! T16 -/
set_option Elab.async false
set_option linter.all false
set_option maxRecDepth 100000
set_option maxHeartbeats 8000000
namespace K04
open PySem PD L2 FR
/-! T16: what is due -/
theorem outL_D (o : Out (Int × Int)) : outL o = outD (o.mp pr) := by cases o <;> rfl
theorem outQ_D (o : Out Row) : outQ o = outD (o.mp prs) := by cases o <;> rfl
theorem outQM_D (o : Out (List Row)) : outQM o = outD (o.mp fun r => .tup (r.map prs)) := by cases o <;> rfl
theorem due_core {G : Gam} {a : List Nat} {dd : D} (hl : a.length ≤ LIM) (o : Out D) :
    PD.fin 0 (exs G (.cons (.if_ (.and_ (.cmp .eq (.idx (.var 2) (.lit (.int (0)))) (.lit (.str "told"))) (.cmp .lt (.idx (.var 2) (.lit (.int (2)))) (.bfn .len (.cons (.var 1) .nil)))) (.cons (.ret (.tup (.cons (.lit (.str "bad")) (.cons (.idx (.var 2) (.lit (.int (2)))) (.cons (.lit (.int (0))) .nil))))) .nil) .nil) (.cons (.ret (.var 2)) .nil)) [some (.fz dd), some (.fz (.str (TS a))), some (.fz (outD o))] []) = .ok (outD (endO a.length o)) [] := by
  cases o with
  | bad k => simp [outD, endO, sBa]
  | large w => simp [outD, endO, sLa]
  | told d e =>
    have c1 : ((e : Int) < (a.length : Int)) ↔ e < a.length := by omega
    by_cases hb : e < a.length
    · simp [outD, endO, sTo, idx_tup2, len_ts hl, c1, hb]
    · simp [outD, endO, sTo, idx_tup2, len_ts hl, c1, hb]
theorem law_due_ok {a : List Nat} (ha : SML a) {door : Nat} (hd : door ≤ 2) : f_law_due [.fz (.int (door : Int)), .fz (.str (TS a))] = .ok (outD (readS door a)) [] := by
  have hl := sml_lim ha
  have s0' := law_scan_ok (a := a) (s := 0) (i := 0) rfl ha
  have s1' := law_poly_due_ok ha
  have s2' := law_matrix_due_ok ha
  rw [outL_D] at s0'
  rw [outQ_D] at s1'
  rw [outQM_D] at s2'
  rw [show f_law_due = runDef (md.gam g_law_due) ⟨3, b_law_due⟩ from rfl, runDef_eq]
  simp only [b_law_due, contsOf, slotsOf]
  obtain ⟨G, hG⟩ : ∃ G : Gam, G = { md.gam g_law_due with io := ([] : List Cont).length } := ⟨_, rfl⟩
  have fns : G.fns = g_law_due := by rw [hG]; rfl
  have io : G.io = 0 := by rw [hG]; rfl
  have con : G.con = md.con.map (·.2) := by rw [hG]; rfl
  have exq : G.exm = exmL md.exm := by rw [hG]; rfl
  have gq : g_law_due = g_law_due := rfl
  rw [← hG]
  have core := fun (dd : D) (o : Out D) => due_core (G := G) (a := a) (dd := dd) hl o
  unfold readS
  have hd3 : door = 0 ∨ door = 1 ∨ door = 2 := by omega
  rcases hd3 with rfl | rfl | rfl
  · have c := core (.int 0) (doorS 0 a)
    simp [fns, gq, g_law_due, io, s0']
    exact c
  · have c := core (.int 1) (doorS 1 a)
    simp [fns, gq, g_law_due, io, s1']
    exact c
  · have c := core (.int 2) (doorS 2 a)
    simp [fns, gq, g_law_due, io, s2']
    exact c
end K04

/-! T17 -/
set_option Elab.async false
set_option linter.all false
set_option maxRecDepth 100000
set_option maxHeartbeats 8000000
namespace K04
open PySem PD L2 FR
/-! T17: asking -/
theorem hB1 : hitS (exmL md.exm) "BadText" ["BadNumber", "BadPoly", "BadMatrix"] = some false := by decide +kernel
theorem hB2 : hitS (exmL md.exm) "BadText" ["BadText"] = some true := by decide +kernel
theorem hL1 : hitS (exmL md.exm) "TooLarge" ["BadNumber", "BadPoly", "BadMatrix"] = some false := by decide +kernel
theorem hL2 : hitS (exmL md.exm) "TooLarge" ["BadText"] = some false := by decide +kernel
theorem hL3 : hitS (exmL md.exm) "TooLarge" ["TooLarge"] = some true := by decide +kernel
theorem xBR : isxS (exmL md.exm) "BadText" ["RunsError"] = some true := by decide +kernel
theorem xBL : isxS (exmL md.exm) "BadText" ["TooLarge"] = some false := by decide +kernel
theorem xLR : isxS (exmL md.exm) "TooLarge" ["RunsError"] = some true := by decide +kernel
theorem lkw {w : D} : List.lookup ("what" : Str) [(("what" : Str), w)] = some w := by
  unfold List.lookup
  rw [show (("what" : Str) == "what") = true by decide +kernel]
theorem lkp {w : D} : List.lookup ("place" : Str) [(("place" : Str), w)] = some w := by
  unfold List.lookup
  rw [show (("place" : Str) == "place") = true by decide +kernel]
abbrev hsA : Hds := (.cons ["BadNumber", "BadPoly", "BadMatrix"] true none (.cons (.asg (.nm 2) (.tup (.cons (.lit (.str "odd")) (.cons (.lit (.int (0))) .nil)))) .nil) (.cons ["BadText"] false (some 3) (.cons (.asg (.nm 2) (.tup (.cons (.lit (.str "bad")) (.cons (.xfld 3 "place") (.cons (.and_ (.isx 3 ["RunsError"] false) (.not_ (.isx 3 ["TooLarge"] false))) .nil))))) .nil) (.cons ["TooLarge"] false (some 3) (.cons (.asg (.nm 2) (.tup (.cons (.lit (.str "large")) (.cons (.xfld 3 "what") (.cons (.isx 3 ["RunsError"] false) .nil))))) .nil) .nil)))
theorem hs_bad {G : Gam} (exq : G.exm = exmL md.exm) (xf : G.xfl "BadText" "place" = true) (io : G.io = 0) {x0 x1 : D} {o2 o3 : Option Val} {st : Store} {d : D} :
    exh G hsA ⟨"BadText", [("place", d)]⟩ [some (.fz x0), some (.fz x1), o2, o3] st = .nx [some (.fz x0), some (.fz x1), some (.fz (.tup [.str "bad", d, .bl true])), none] st := by
  have m1 : hitS G.exm (XD.cls ⟨"BadText", [("place", d)]⟩) ["BadNumber", "BadPoly", "BadMatrix"] = some false := by rw [exq]; exact hB1
  have m2 : hitS G.exm (XD.cls ⟨"BadText", [("place", d)]⟩) ["BadText"] = some true := by rw [exq]; exact hB2
  rw [exh_miss m1, exh_hit m2]
  have b : begH (some 3) ⟨"BadText", [("place", d)]⟩ [some (.fz x0), some (.fz x1), o2, o3] = [some (.fz x0), some (.fz x1), o2, some (.exn ⟨"BadText", [("place", d)]⟩)] := rfl
  rw [b]
  have e : exs G (.cons (.asg (.nm 2) (.tup (.cons (.lit (.str "bad")) (.cons (.xfld 3 "place") (.cons (.and_ (.isx 3 ["RunsError"] false) (.not_ (.isx 3 ["TooLarge"] false))) .nil))))) .nil) [some (.fz x0), some (.fz x1), o2, some (.exn ⟨"BadText", [("place", d)]⟩)] st = .nx [some (.fz x0), some (.fz x1), some (.fz (.tup [.str "bad", d, .bl true])), some (.exn ⟨"BadText", [("place", d)]⟩)] st := by
    rw [exs_cons, ex_asg, ev_tup, evs_cons]
    simp only [ev_lit, Res.bind_ok', kEvs_eq, evs_cons]
    rw [ev_xfld (y := ⟨"BadText", [("place", d)]⟩) (by rfl) xf, lkp]
    simp only [pick_some', Res.bind_ok', kEvs_eq, evs_cons, ev_and]
    rw [ev_isx (y := ⟨"BadText", [("place", d)]⟩) (by rfl), exq, xBR]
    simp only [pick_some', Res.bind_ok', kAnd_eq, if_true, ev_not]
    rw [ev_isx (y := ⟨"BadText", [("place", d)]⟩) (by rfl), exq, xBL]
    simp [io]
  rw [e]
  exact endH_nx rfl
theorem hs_large {G : Gam} (exq : G.exm = exmL md.exm) (xf : G.xfl "TooLarge" "what" = true) (io : G.io = 0) {x0 x1 : D} {o2 o3 : Option Val} {st : Store} {d : D} :
    exh G hsA ⟨"TooLarge", [("what", d)]⟩ [some (.fz x0), some (.fz x1), o2, o3] st = .nx [some (.fz x0), some (.fz x1), some (.fz (.tup [.str "large", d, .bl true])), none] st := by
  have m1 : hitS G.exm (XD.cls ⟨"TooLarge", [("what", d)]⟩) ["BadNumber", "BadPoly", "BadMatrix"] = some false := by rw [exq]; exact hL1
  have m2 : hitS G.exm (XD.cls ⟨"TooLarge", [("what", d)]⟩) ["BadText"] = some false := by rw [exq]; exact hL2
  have m3 : hitS G.exm (XD.cls ⟨"TooLarge", [("what", d)]⟩) ["TooLarge"] = some true := by rw [exq]; exact hL3
  rw [exh_miss m1, exh_miss m2, exh_hit m3]
  have b : begH (some 3) ⟨"TooLarge", [("what", d)]⟩ [some (.fz x0), some (.fz x1), o2, o3] = [some (.fz x0), some (.fz x1), o2, some (.exn ⟨"TooLarge", [("what", d)]⟩)] := rfl
  rw [b]
  have e : exs G (.cons (.asg (.nm 2) (.tup (.cons (.lit (.str "large")) (.cons (.xfld 3 "what") (.cons (.isx 3 ["RunsError"] false) .nil))))) .nil) [some (.fz x0), some (.fz x1), o2, some (.exn ⟨"TooLarge", [("what", d)]⟩)] st = .nx [some (.fz x0), some (.fz x1), some (.fz (.tup [.str "large", d, .bl true])), some (.exn ⟨"TooLarge", [("what", d)]⟩)] st := by
    rw [exs_cons, ex_asg, ev_tup, evs_cons]
    simp only [ev_lit, Res.bind_ok', kEvs_eq, evs_cons]
    rw [ev_xfld (y := ⟨"TooLarge", [("what", d)]⟩) (by rfl) xf, lkw]
    simp only [pick_some', Res.bind_ok', kEvs_eq, evs_cons]
    rw [ev_isx (y := ⟨"TooLarge", [("what", d)]⟩) (by rfl), exq, xLR]
    simp [io]
  rw [e]
  exact endH_nx rfl
def askD (o : Out D) : D := match o with
  | .bad k => .tup [.str "bad", .int (k : Int), .bl true]
  | .large w => .tup [.str "large", .str w, .bl true]
  | .told d _ => .tup [.str "told", d]
theorem law_asked_ok {a : List Nat} (ha : SML a) {door : Nat} (hd : door ≤ 2) : f_law_asked [.fz (.int (door : Int)), .fz (.str (TS a))] = .ok (askD (readS door a)) [] := by
  have n0 := read_number_ok ha
  have n1 := read_poly_ok ha
  have n2 := read_matrix_ok ha
  rw [show f_law_asked = runDef (md.gam g_law_asked) ⟨4, b_law_asked⟩ from rfl, runDef_eq]
  simp only [b_law_asked, contsOf, slotsOf]
  obtain ⟨G, hG⟩ : ∃ G : Gam, G = { md.gam g_law_asked with io := ([] : List Cont).length } := ⟨_, rfl⟩
  have fns : G.fns = g_law_asked := by rw [hG]; rfl
  have io : G.io = 0 := by rw [hG]; rfl
  have con : G.con = md.con.map (·.2) := by rw [hG]; rfl
  have exq : G.exm = exmL md.exm := by rw [hG]; rfl
  have gq : g_law_asked = g_law_asked := rfl
  rw [← hG]
  have xf1 : G.xfl "BadText" "place" = true := by rw [hG]; decide +kernel
  have xf2 : G.xfl "TooLarge" "what" = true := by rw [hG]; decide +kernel
  have hb := fun (x0 x1 : D) (o2 o3 : Option Val) (st : Store) (d : D) => hs_bad (G := G) exq xf1 io (x0 := x0) (x1 := x1) (o2 := o2) (o3 := o3) (st := st) (d := d)
  have hL := fun (x0 x1 : D) (o2 o3 : Option Val) (st : Store) (d : D) => hs_large (G := G) exq xf2 io (x0 := x0) (x1 := x1) (o2 := o2) (o3 := o3) (st := st) (d := d)
  have hd3 : door = 0 ∨ door = 1 ∨ door = 2 := by omega
  rcases hd3 with rfl | rfl | rfl
  · generalize readS 0 a = o at n0
    cases o <;> simp only [outR, badX] at n0 <;> simp [fns, gq, g_law_asked, io, n0, askD, kTry, hb, hL]
  · generalize readS 1 a = o at n1
    cases o <;> simp only [outR, badX] at n1 <;> simp [fns, gq, g_law_asked, io, n1, askD, kTry, hb, hL]
  · generalize readS 2 a = o at n2
    cases o <;> simp only [outR, badX] at n2 <;> simp [fns, gq, g_law_asked, io, n2, askD, kTry, hb, hL]
end K04

/-! T18 -/
set_option Elab.async false
set_option linter.all false
set_option maxRecDepth 100000
set_option maxHeartbeats 8000000
namespace K04
open PySem PD L2 FR
/-! T18: what is told is in its one form -/
/-- a number in lowest terms, of a size that the law's gcd bears -/
structure Low (v : Int × Int) : Prop where
  pos : 1 ≤ v.2
  low : Nat.gcd v.1.natAbs v.2.natAbs = 1
  b1 : Builtin.Int.intBits v.1 ≤ 4000000
  b2 : Builtin.Int.intBits v.2 ≤ 4000000
theorem bits_neg (z : Int) : Builtin.Int.intBits (-z) = Builtin.Int.intBits z := by
  unfold Builtin.Int.intBits
  rw [Int.natAbs_neg]
  by_cases h : z = 0
  · subst h; rfl
  · have h1 : (-z == 0) = false := by simp; omega
    have h2 : (z == 0) = false := by simpa using h
    rw [h1, h2]
theorem scan_low {a : List Nat} {s e : Nat} {v : Int × Int} (h : scanS a s = .told v e) : Low v := by
  have b0 : Builtin.Int.intBits 0 ≤ 4000000 := by decide +kernel
  have b1 : Builtin.Int.intBits 1 ≤ 4000000 := by decide +kernel
  unfold scanS at h
  simp only at h
  by_cases hp : figP a (K04.fst a s) = false
  · rw [if_pos hp] at h; cases h
  · rw [if_neg hp] at h
    have hp : figP a (K04.fst a s) = true := by simpa using hp
    by_cases hz : a[K04.fst a s]? = some 48
    · rw [if_pos hz] at h
      by_cases hn : a[s]? = some 45
      · rw [if_pos hn] at h; cases h
      · rw [if_neg hn] at h
        cases h
        exact ⟨by decide, by decide, b0, b1⟩
    · have sg : ∀ z : Int, ((if a[s]? = some 45 then (-1 : Int) else 1) * z).natAbs = z.natAbs ∧ Builtin.Int.intBits ((if a[s]? = some 45 then (-1 : Int) else 1) * z) = Builtin.Int.intBits z := fun z => by
        split
        · rw [show (-1 : Int) * z = -z by omega]
          exact ⟨Int.natAbs_neg z, bits_neg z⟩
        · rw [Int.one_mul]; exact ⟨rfl, rfl⟩
      rw [if_neg hz] at h
      have d1 := digs_all a (K04.fst a s)
      have r1 := run_digs a (K04.fst a s)
      by_cases h47 : a[runE a (K04.fst a s)]? = some 47
      · rw [if_pos h47] at h
        split at h
        · cases h
        · rename_i hb
          have hp2 : figP a (runE a (K04.fst a s) + 1) = true := by
            cases q : figP a (runE a (K04.fst a s) + 1) with
            | true => rfl
            | false => exact absurd (.inl q) hb
          have h48 : a[runE a (K04.fst a s) + 1]? ≠ some 48 := fun z => hb (.inr z)
          have d2 := digs_all a (runE a (K04.fst a s) + 1)
          have r2 := run_digs a (runE a (K04.fst a s) + 1)
          split at h
          · cases h
          · rename_i hc
            split at h
            · cases h
            · rename_i hg
              cases h
              refine ⟨val_pos hp2 h48, ?_, ?_, ?_⟩
              · show Nat.gcd ((if a[s]? = some 45 then (-1 : Int) else 1) * val (digs a (K04.fst a s))).natAbs _ = 1
                rw [(sg _).1]
                by_cases g1 : Nat.gcd (val (digs a (K04.fst a s))).natAbs (val (digs a (runE a (K04.fst a s) + 1))).natAbs = 1
                · exact g1
                · exact absurd (.inr g1) hg
              · show Builtin.Int.intBits ((if a[s]? = some 45 then (-1 : Int) else 1) * val (digs a (K04.fst a s))) ≤ _
                rw [(sg _).2]
                exact val_bits d1 (by omega)
              · exact val_bits d2 (by omega)
      · rw [if_neg h47] at h
        split at h
        · cases h
        · rename_i hc
          cases h
          refine ⟨Int.le_refl 1, ?_, ?_, b1⟩
          · show Nat.gcd _ 1 = 1
            exact Nat.gcd_one_right _
          · show Builtin.Int.intBits ((if a[s]? = some 45 then (-1 : Int) else 1) * val (digs a (K04.fst a s))) ≤ _
            rw [(sg _).2]
            exact val_bits d1 (by omega)
theorem whole_int {i : Int} : f_law_whole [.fz (.int i)] = .ok (.bl true) [] := by
  rw [show f_law_whole = runDef (md.gam g_law_whole) ⟨1, b_law_whole⟩ from rfl, runDef_eq]
  simp only [b_law_whole, contsOf, slotsOf]
  obtain ⟨G, hG⟩ : ∃ G : Gam, G = { md.gam g_law_whole with io := ([] : List Cont).length } := ⟨_, rfl⟩
  have fns : G.fns = g_law_whole := by rw [hG]; rfl
  have io : G.io = 0 := by rw [hG]; rfl
  have con : G.con = md.con.map (·.2) := by rw [hG]; rfl
  have exq : G.exm = exmL md.exm := by rw [hG]; rfl
  have gq : g_law_whole = g_law_whole := rfl
  rw [← hG]
  simp [io]
theorem is_frac_ok {v : Int × Int} (h : Low v) : f_law_is_frac [.fz (pr v)] = .ok (.bl true) [] := by
  have w1 := whole_int (i := v.1)
  have w2 := whole_int (i := v.2)
  have g := gcd_ok h.b1 h.b2
  rw [h.low] at g
  have p := h.pos
  rw [show f_law_is_frac = runDef (md.gam g_law_is_frac) ⟨1, b_law_is_frac⟩ from rfl, runDef_eq]
  simp only [b_law_is_frac, contsOf, slotsOf]
  obtain ⟨G, hG⟩ : ∃ G : Gam, G = { md.gam g_law_is_frac with io := ([] : List Cont).length } := ⟨_, rfl⟩
  have fns : G.fns = g_law_is_frac := by rw [hG]; rfl
  have io : G.io = 0 := by rw [hG]; rfl
  have con : G.con = md.con.map (·.2) := by rw [hG]; rfl
  have exq : G.exm = exmL md.exm := by rw [hG]; rfl
  have gq : g_law_is_frac = g_law_is_frac := rfl
  rw [← hG]
  simp [fns, gq, g_law_is_frac, io, pr, w1, w2, g, p]
end K04

/-! T19 -/
set_option Elab.async false
set_option linter.all false
set_option maxRecDepth 100000
set_option maxHeartbeats 8000000
namespace K04
open PySem PD L2 FR
/-! T19: rows and matrices in their one form -/
theorem is_row_ok {vs : Row} (hx : ∀ v ∈ vs, Low v) : f_law_is_row [.fz (prs vs)] = .ok (.bl true) [] := by
  unfold prs
  rw [show f_law_is_row = runDef (md.gam g_law_is_row) ⟨2, b_law_is_row⟩ from rfl, runDef_eq]
  simp only [b_law_is_row, contsOf, slotsOf]
  obtain ⟨G, hG⟩ : ∃ G : Gam, G = { md.gam g_law_is_row with io := ([] : List Cont).length } := ⟨_, rfl⟩
  have fns : G.fns = g_law_is_row := by rw [hG]; rfl
  have io : G.io = 0 := by rw [hG]; rfl
  have con : G.con = md.con.map (·.2) := by rw [hG]; rfl
  have exq : G.exm = exmL md.exm := by rw [hG]; rfl
  have gq : g_law_is_row = g_law_is_row := rfl
  rw [← hG]
  have loop := for_all (I := .tup (vs.map pr)) (body := fBody G (.nm 1) lp0_law_is_row) (n := (vs.map pr).length) (fun i ρ st => st = [] ∧ ∃ t, ρ = [some (.fz (.tup (vs.map pr))), t]) (fun i ρ st _ _ => rfl)
    (fun i ρ st hi ⟨h1, t, h2⟩ => by
      subst h1 h2
      rw [List.length_map] at hi
      refine ⟨pr vs[i], by simp [hi], [some (.fz (.tup (vs.map pr))), some (.fz (pr vs[i]))], [], .inl ?_, rfl, _, rfl⟩
      have h := is_frac_ok (hx vs[i] (List.getElem_mem hi))
      simp [lp0_law_is_row, fns, io, g_law_is_row, h]) (vs.map pr).length 0 [some (.fz (.tup (vs.map pr))), none] [] (by omega) ⟨rfl, _, rfl⟩
  obtain ⟨ρ', st', e, rfl, t, rfl⟩ := loop
  rw [List.length_map] at e
  simp [e, List.length_map]
theorem is_matrix_ok {rs : List Row} (hx : ∀ vs ∈ rs, ∀ v ∈ vs, Low v) : f_law_is_matrix [.fz (.tup (rs.map prs))] = .ok (.bl true) [] := by
  rw [show f_law_is_matrix = runDef (md.gam g_law_is_matrix) ⟨2, b_law_is_matrix⟩ from rfl, runDef_eq]
  simp only [b_law_is_matrix, contsOf, slotsOf]
  obtain ⟨G, hG⟩ : ∃ G : Gam, G = { md.gam g_law_is_matrix with io := ([] : List Cont).length } := ⟨_, rfl⟩
  have fns : G.fns = g_law_is_matrix := by rw [hG]; rfl
  have io : G.io = 0 := by rw [hG]; rfl
  have con : G.con = md.con.map (·.2) := by rw [hG]; rfl
  have exq : G.exm = exmL md.exm := by rw [hG]; rfl
  have gq : g_law_is_matrix = g_law_is_matrix := rfl
  rw [← hG]
  have loop := for_all (I := .tup (rs.map prs)) (body := fBody G (.nm 1) lp0_law_is_matrix) (n := (rs.map prs).length) (fun i ρ st => st = [] ∧ ∃ t, ρ = [some (.fz (.tup (rs.map prs))), t]) (fun i ρ st _ _ => rfl)
    (fun i ρ st hi ⟨h1, t, h2⟩ => by
      subst h1 h2
      rw [List.length_map] at hi
      refine ⟨prs rs[i], by simp [hi], [some (.fz (.tup (rs.map prs))), some (.fz (prs rs[i]))], [], .inl ?_, rfl, _, rfl⟩
      have h := is_row_ok (hx rs[i] (List.getElem_mem hi))
      simp [lp0_law_is_matrix, fns, io, g_law_is_matrix, h]) (rs.map prs).length 0 [some (.fz (.tup (rs.map prs))), none] [] (by omega) ⟨rfl, _, rfl⟩
  obtain ⟨ρ', st', e, rfl, t, rfl⟩ := loop
  rw [List.length_map] at e
  simp [e, List.length_map]
theorem nums_low {a : List Nat} : ∀ (n s : Nat) {vs : Row} {e : Nat}, numsS a n s = .told vs e → ∀ v ∈ vs, Low v
  | 0, s, vs, e, h => by cases h
  | n + 1, s, vs, e, h => by
    cases hs : scanS a s with
    | bad k => unfold numsS at h; rw [hs] at h; cases h
    | large w => unfold numsS at h; rw [hs] at h; cases h
    | told v e1 =>
      rw [nums_cont hs] at h
      unfold contS at h
      by_cases h44 : a[e1]? = some 44
      · rw [if_pos h44] at h
        cases hm : numsS a n (e1 + 1) with
        | bad k => rw [hm] at h; cases h
        | large w => rw [hm] at h; cases h
        | told ws e2 =>
          rw [hm] at h
          have h' : Out.told ([v] ++ ws) e2 = Out.told vs e := h
          cases h'
          intro u hu
          rcases List.mem_cons.mp hu with rfl | hu
          · exact scan_low hs
          · exact nums_low n (e1 + 1) hm u hu
      · rw [if_neg h44] at h
        have h' : Out.told ([v] ++ []) e1 = Out.told vs e := h
        cases h'
        intro u hu
        have : u = v := by simpa using hu
        subst this
        exact scan_low hs
theorem poly_low {a : List Nat} {vs : Row} {e : Nat} (h : polyS a = .told vs e) : ∀ v ∈ vs, Low v := by
  unfold polyS at h
  cases hm : numsS a (a.length + 1) 0 with
  | bad k => rw [hm] at h; cases h
  | large w => rw [hm] at h; cases h
  | told ws e2 =>
    rw [hm] at h
    simp only at h
    split at h
    · cases h
    · split at h
      · cases h
      · cases h
        intro v hv
        exact nums_low _ _ hm v (List.mem_of_mem_take hv)
theorem more_low {a : List Nat} {size : Nat} : ∀ (n : Nat) {rows out : List Row} {e e2 : Nat}, (∀ vs ∈ rows, ∀ v ∈ vs, Low v) → moreS a n size rows e = .told out e2 → ∀ vs ∈ out, ∀ v ∈ vs, Low v
  | 0, rows, out, e, e2, h0, h => by cases h; exact h0
  | n + 1, rows, out, e, e2, h0, h => by
    unfold moreS at h
    by_cases h59 : a[e]? = some 59
    · rw [if_pos h59] at h
      split at h
      · cases h
      · cases hm : numsS a (a.length + 1) (e + 1) with
        | bad k => rw [hm] at h; cases h
        | large w => rw [hm] at h; cases h
        | told v e3 =>
          rw [hm] at h
          simp only at h
          split at h
          · cases h
          · refine more_low n (fun vs hvs => ?_) h
            rcases List.mem_append.mp hvs with q | q
            · exact h0 vs q
            · have : vs = v := by simpa using q
              subst this
              exact nums_low _ _ hm
    · rw [if_neg h59] at h
      cases h; exact h0
theorem mat_low {a : List Nat} {rows : List Row} {e : Nat} (h : matS a = .told rows e) : ∀ vs ∈ rows, ∀ v ∈ vs, Low v := by
  unfold matS at h
  cases hm : numsS a (a.length + 1) 0 with
  | bad k => rw [hm] at h; cases h
  | large w => rw [hm] at h; cases h
  | told v e2 =>
    rw [hm] at h
    simp only at h
    cases hq : moreS a a.length v.length [v] e2 with
    | bad k => rw [hq] at h; cases h
    | large w => rw [hq] at h; cases h
    | told out e3 =>
      rw [hq] at h
      unfold finM at h
      simp only at h
      split at h
      · cases h
      · split at h
        · cases h
        · cases h
          refine more_low _ (fun vs hvs => ?_) hq
          have : vs = v := by simpa using hvs
          subst this
          exact nums_low _ _ hm
end K04

/-! T20 -/
set_option Elab.async false
set_option linter.all false
set_option maxRecDepth 100000
set_option maxHeartbeats 8000000
namespace K04
open PySem PD L2 FR
/-! T20: a thing read twice is the same -/
def prsP (vs : Row) : PyData := .tuple (vs.map prP)
theorem pyOfs_pr : ∀ vs : Row, pyOfs (vs.map pr) = some (vs.map prP)
  | [] => rfl
  | v :: vs => by
    show (match pyOf (pr v) with
      | some p => (match pyOfs (vs.map pr) with
        | some ps => some (p :: ps)
        | none => none)
      | none => none) = _
    rw [pyOf_pr, pyOfs_pr vs]
    rfl
theorem pyOf_prs (vs : Row) : pyOf (prs vs) = some (prsP vs) := by
  show (match pyOfs (vs.map pr) with
    | some ps => some (PyData.tuple ps)
    | none => none) = _
  rw [pyOfs_pr]
  rfl
theorem pyOfs_prs : ∀ rs : List Row, pyOfs (rs.map prs) = some (rs.map prsP)
  | [] => rfl
  | v :: vs => by
    show (match pyOf (prs v) with
      | some p => (match pyOfs (vs.map prs) with
        | some ps => some (p :: ps)
        | none => none)
      | none => none) = _
    rw [pyOf_prs, pyOfs_prs vs]
    rfl
theorem eqvAll_pr : ∀ vs : Row, PyData.eqvAll (vs.map prP) (vs.map prP) = true
  | [] => by simp [PyData.eqvAll]
  | v :: vs => by
    have e : PyData.eqvAll ((v :: vs).map prP) ((v :: vs).map prP) = (PyData.eqv (prP v) (prP v) && PyData.eqvAll (vs.map prP) (vs.map prP)) := by simp [PyData.eqvAll]
    rw [e, eqv_pr, eqvAll_pr vs]
    simp
theorem eqv_prs (vs : Row) : PyData.eqv (prsP vs) (prsP vs) = true := by
  unfold prsP
  rw [PyData.eqv]
  exact eqvAll_pr vs
theorem eqvAll_prs : ∀ rs : List Row, PyData.eqvAll (rs.map prsP) (rs.map prsP) = true
  | [] => by simp [PyData.eqvAll]
  | v :: vs => by
    have e : PyData.eqvAll ((v :: vs).map prsP) ((v :: vs).map prsP) = (PyData.eqv (prsP v) (prsP v) && PyData.eqvAll (vs.map prsP) (vs.map prsP)) := by simp [PyData.eqvAll]
    rw [e, eqv_prs, eqvAll_prs vs]
    rfl
theorem lay_pr (v : Int × Int) : PyData.canLay0 (prP v) = true := by simp [prP, PyData.canLay0, PyData.canLayAll0]
theorem layAll_pr : ∀ vs : Row, PyData.canLayAll0 (vs.map prP) = true
  | [] => by simp [PyData.canLayAll0]
  | v :: vs => by simp [PyData.canLayAll0, lay_pr, layAll_pr vs]
theorem lay_prs (vs : Row) : PyData.canLay0 (prsP vs) = true := by unfold prsP; rw [PyData.canLay0]; exact layAll_pr vs
theorem layAll_prs : ∀ rs : List Row, PyData.canLayAll0 (rs.map prsP) = true
  | [] => by simp [PyData.canLayAll0]
  | v :: vs => by simp [PyData.canLayAll0, lay_prs, layAll_prs vs]
theorem depth_pr (v : Int × Int) : PyData.depth (prP v) = 1 := by simp [prP, PyData.depth, PyData.depthAll]
theorem depthAll_pr : ∀ vs : Row, PyData.depthAll (vs.map prP) ≤ 1
  | [] => by simp [PyData.depthAll]
  | v :: vs => by
    have := depthAll_pr vs
    simp [PyData.depthAll, depth_pr]
    omega
theorem depth_prs (vs : Row) : PyData.depth (prsP vs) ≤ 2 := by
  unfold prsP
  rw [PyData.depth]
  have := depthAll_pr vs
  omega
theorem depthAll_prs : ∀ rs : List Row, PyData.depthAll (rs.map prsP) ≤ 2
  | [] => by simp [PyData.depthAll]
  | v :: vs => by
    have := depthAll_prs vs
    have := depth_prs v
    simp [PyData.depthAll]
    omega
theorem eqS_tup {ds : List D} {ps : List PyData} (h : pyOfs ds = some ps) (h1 : PyData.eqvAll ps ps = true) (h2 : PyData.canLayAll0 ps = true) (h3 : PyData.depthAll ps ≤ 2) : eqS (.tup ds) (.tup ds) = some true := by
  have e : pyOf (.tup ds) = some (.tuple ps) := by
    show (match pyOfs ds with
      | some ps => some (PyData.tuple ps)
      | none => none) = _
    rw [h]
  show (match pyOf (.tup ds), pyOf (.tup ds) with
    | some p, some q => if SeqAt.shaped p && SeqAt.shaped q then some (PyData.eqv p q) else none
    | _, _ => none) = _
  rw [e]
  have sh : SeqAt.shaped (.tuple ps) = true := by
    unfold SeqAt.shaped
    have h1 : PyData.canLay0 (.tuple ps) = true := by rw [PyData.canLay0]; exact h2
    have h2 : PyData.depth (.tuple ps) ≤ 64 := by rw [PyData.depth]; omega
    rw [h1, decide_eq_true h2]
    rfl
  simp only [sh, Bool.and_self, if_true]
  rw [PyData.eqv, h1]
theorem eqS_prs (vs : Row) : eqS (prs vs) (prs vs) = some true := eqS_tup (pyOfs_pr vs) (eqvAll_pr vs) (layAll_pr vs) (by have := depthAll_pr vs; omega)
theorem eqS_mat (rs : List Row) : eqS (.tup (rs.map prs)) (.tup (rs.map prs)) = some true := eqS_tup (pyOfs_prs rs) (eqvAll_prs rs) (layAll_prs rs) (depthAll_prs rs)
end K04

/-! T21 -/
set_option Elab.async false
set_option linter.all false
set_option maxRecDepth 100000
set_option maxHeartbeats 8000000
namespace K04
open PySem PD L2 FR
/-! T21: the program reads every text as the law does -/
theorem end_told {n e : Nat} {o : Out D} {d : D} (h : endO n o = .told d e) : o = .told d e := by
  cases o with
  | bad k => cases h
  | large w => cases h
  | told d' e' =>
    unfold endO at h
    simp only at h
    split at h
    · cases h
    · exact h
theorem mp_told {α : Type} {f : α → D} {o : Out α} {d : D} {e : Nat} (h : o.mp f = .told d e) : ∃ v, o = .told v e ∧ d = f v := by
  cases o with
  | bad k => cases h
  | large w => cases h
  | told v e' =>
    have h' : Out.told (f v) e' = Out.told d e := h
    cases h'
    exact ⟨v, rfl, rfl⟩
theorem sBT : (Str.ofString "told" == Str.ofString "bad") = false := by decide +kernel
theorem sLT : (Str.ofString "told" == Str.ofString "large") = false := by decide +kernel
theorem sLB : (Str.ofString "large" == Str.ofString "bad") = false := by decide +kernel
theorem law_read_ok {a : List Nat} (ha : SML a) {door : Nat} (hd : door ≤ 2) : f_law_read [.fz (.int (door : Int)), .fz (.str (TS a))] = .ok (.bl true) [] := by
  have du := law_due_ok ha hd
  have ask := law_asked_ok ha hd
  obtain ⟨o, ho⟩ : ∃ o, o = readS door a := ⟨_, rfl⟩
  rw [← ho] at du ask
  have wi := fun i : Int => whole_int (i := i)
  cases o with
  | bad k =>
    rw [show f_law_read = runDef (md.gam g_law_read) ⟨4, b_law_read⟩ from rfl, runDef_eq]
    simp only [b_law_read, contsOf, slotsOf]
    obtain ⟨G, hG⟩ : ∃ G : Gam, G = { md.gam g_law_read with io := ([] : List Cont).length } := ⟨_, rfl⟩
    have fns : G.fns = g_law_read := by rw [hG]; rfl
    have io : G.io = 0 := by rw [hG]; rfl
    have con : G.con = md.con.map (·.2) := by rw [hG]; rfl
    have exq : G.exm = exmL md.exm := by rw [hG]; rfl
    have gq : g_law_read = g_law_read := rfl
    rw [← hG]
    simp only [outD] at du
    simp only [askD] at ask
    simp [fns, gq, g_law_read, io, du, ask, wi, idx_tup2]
  | large w =>
    rw [show f_law_read = runDef (md.gam g_law_read) ⟨4, b_law_read⟩ from rfl, runDef_eq]
    simp only [b_law_read, contsOf, slotsOf]
    obtain ⟨G, hG⟩ : ∃ G : Gam, G = { md.gam g_law_read with io := ([] : List Cont).length } := ⟨_, rfl⟩
    have fns : G.fns = g_law_read := by rw [hG]; rfl
    have io : G.io = 0 := by rw [hG]; rfl
    have con : G.con = md.con.map (·.2) := by rw [hG]; rfl
    have exq : G.exm = exmL md.exm := by rw [hG]; rfl
    have gq : g_law_read = g_law_read := rfl
    rw [← hG]
    simp only [outD] at du
    simp only [askD] at ask
    simp [fns, gq, g_law_read, io, du, ask, sLB, idx_tup2]
  | told d e =>
    have ht := end_told ho.symm
    simp only [outD] at du
    simp only [askD] at ask
    have hd3 : door = 0 ∨ door = 1 ∨ door = 2 := by omega
    rcases hd3 with rfl | rfl | rfl
    · obtain ⟨v, hv, rfl⟩ := mp_told (show (scanS a 0).mp pr = _ from ht)
      have f := is_frac_ok (scan_low hv)
      have q : eqS (pr v) (pr v) = some true := by rw [eqS_pr]; simp
      rw [show f_law_read = runDef (md.gam g_law_read) ⟨4, b_law_read⟩ from rfl, runDef_eq]
      simp only [b_law_read, contsOf, slotsOf]
      obtain ⟨G, hG⟩ : ∃ G : Gam, G = { md.gam g_law_read with io := ([] : List Cont).length } := ⟨_, rfl⟩
      have fns : G.fns = g_law_read := by rw [hG]; rfl
      have io : G.io = 0 := by rw [hG]; rfl
      have con : G.con = md.con.map (·.2) := by rw [hG]; rfl
      have exq : G.exm = exmL md.exm := by rw [hG]; rfl
      have gq : g_law_read = g_law_read := rfl
      rw [← hG]
      simp at du ask
      simp [fns, gq, g_law_read, io, du, ask, sBT, sLT, f, q]
    · obtain ⟨v, hv, rfl⟩ := mp_told (show (polyS a).mp prs = _ from ht)
      have f := is_row_ok (poly_low hv)
      have q := eqS_prs v
      rw [show f_law_read = runDef (md.gam g_law_read) ⟨4, b_law_read⟩ from rfl, runDef_eq]
      simp only [b_law_read, contsOf, slotsOf]
      obtain ⟨G, hG⟩ : ∃ G : Gam, G = { md.gam g_law_read with io := ([] : List Cont).length } := ⟨_, rfl⟩
      have fns : G.fns = g_law_read := by rw [hG]; rfl
      have io : G.io = 0 := by rw [hG]; rfl
      have con : G.con = md.con.map (·.2) := by rw [hG]; rfl
      have exq : G.exm = exmL md.exm := by rw [hG]; rfl
      have gq : g_law_read = g_law_read := rfl
      rw [← hG]
      simp at du ask
      simp [fns, gq, g_law_read, io, du, ask, sBT, sLT, f, q]
    · obtain ⟨v, hv, rfl⟩ := mp_told (show (matS a).mp (fun r => .tup (r.map prs)) = _ from ht)
      have f := is_matrix_ok (mat_low hv)
      have q := eqS_mat v
      rw [show f_law_read = runDef (md.gam g_law_read) ⟨4, b_law_read⟩ from rfl, runDef_eq]
      simp only [b_law_read, contsOf, slotsOf]
      obtain ⟨G, hG⟩ : ∃ G : Gam, G = { md.gam g_law_read with io := ([] : List Cont).length } := ⟨_, rfl⟩
      have fns : G.fns = g_law_read := by rw [hG]; rfl
      have io : G.io = 0 := by rw [hG]; rfl
      have con : G.con = md.con.map (·.2) := by rw [hG]; rfl
      have exq : G.exm = exmL md.exm := by rw [hG]; rfl
      have gq : g_law_read = g_law_read := rfl
      rw [← hG]
      simp at du ask
      simp [fns, gq, g_law_read, io, du, ask, sBT, sLT, f, q]
end K04

/-! T22 -/
set_option Elab.async false
set_option linter.all false
set_option maxRecDepth 100000
set_option maxHeartbeats 8000000
namespace K04
open PySem PD L2 FR
/-! T22: things that are no text -/
theorem check_text_bad {d : D} (h : ∀ ex : Str → Str → Option Bool, isiS ex d [.ty "str"] = some false) : f_check_text [.fz d] = .exc (badX 0) [] := by
  rw [show f_check_text = runDef (md.gam g_check_text) ⟨1, b_check_text⟩ from rfl, runDef_eq]
  simp only [b_check_text, contsOf, slotsOf]
  obtain ⟨G, hG⟩ : ∃ G : Gam, G = { md.gam g_check_text with io := ([] : List Cont).length } := ⟨_, rfl⟩
  have fns : G.fns = g_check_text := by rw [hG]; rfl
  have io : G.io = 0 := by rw [hG]; rfl
  have con : G.con = md.con.map (·.2) := by rw [hG]; rfl
  have exq : G.exm = exmL md.exm := by rw [hG]; rfl
  have gq : g_check_text = g_check_text := rfl
  rw [← hG]
  simp [io, h, badX]
theorem law_read_no {d : D} (h : ∀ ex : Str → Str → Option Bool, isiS ex d [.ty "str"] = some false) {door : Nat} (hd : door ≤ 2) : f_law_read [.fz (.int (door : Int)), .fz d] = .ok (.bl true) [] := by
  have ct := check_text_bad h
  have n0 : f_read_number [.fz d] = .exc (badX 0) [] := by
    rw [show f_read_number = runDef (md.gam g_read_number) ⟨3, b_read_number⟩ from rfl, runDef_eq]
    simp only [b_read_number, contsOf, slotsOf]
    obtain ⟨G, hG⟩ : ∃ G : Gam, G = { md.gam g_read_number with io := ([] : List Cont).length } := ⟨_, rfl⟩
    have fns : G.fns = g_read_number := by rw [hG]; rfl
    have io : G.io = 0 := by rw [hG]; rfl
    have con : G.con = md.con.map (·.2) := by rw [hG]; rfl
    have exq : G.exm = exmL md.exm := by rw [hG]; rfl
    have gq : g_read_number = g_read_number := rfl
    rw [← hG]
    simp [fns, gq, g_read_number, io, ct]
  have n1 : f_read_poly [.fz d] = .exc (badX 0) [] := by
    rw [show f_read_poly = runDef (md.gam g_read_poly) ⟨3, b_read_poly⟩ from rfl, runDef_eq]
    simp only [b_read_poly, contsOf, slotsOf]
    obtain ⟨G, hG⟩ : ∃ G : Gam, G = { md.gam g_read_poly with io := ([] : List Cont).length } := ⟨_, rfl⟩
    have fns : G.fns = g_read_poly := by rw [hG]; rfl
    have io : G.io = 0 := by rw [hG]; rfl
    have con : G.con = md.con.map (·.2) := by rw [hG]; rfl
    have exq : G.exm = exmL md.exm := by rw [hG]; rfl
    have gq : g_read_poly = g_read_poly := rfl
    rw [← hG]
    simp [fns, gq, g_read_poly, io, ct]
  have n2 : f_read_matrix [.fz d] = .exc (badX 0) [] := by
    rw [show f_read_matrix = runDef (md.gam g_read_matrix) ⟨3, b_read_matrix⟩ from rfl, runDef_eq]
    simp only [b_read_matrix, contsOf, slotsOf]
    obtain ⟨G, hG⟩ : ∃ G : Gam, G = { md.gam g_read_matrix with io := ([] : List Cont).length } := ⟨_, rfl⟩
    have fns : G.fns = g_read_matrix := by rw [hG]; rfl
    have io : G.io = 0 := by rw [hG]; rfl
    have con : G.con = md.con.map (·.2) := by rw [hG]; rfl
    have exq : G.exm = exmL md.exm := by rw [hG]; rfl
    have gq : g_read_matrix = g_read_matrix := rfl
    rw [← hG]
    simp [fns, gq, g_read_matrix, io, ct]
  simp only [badX] at n0 n1 n2
  have du : f_law_due [.fz (.int (door : Int)), .fz d] = .ok (.tup [.str "bad", .int 0, .int 0]) [] := by
    rw [show f_law_due = runDef (md.gam g_law_due) ⟨3, b_law_due⟩ from rfl, runDef_eq]
    simp only [b_law_due, contsOf, slotsOf]
    obtain ⟨G, hG⟩ : ∃ G : Gam, G = { md.gam g_law_due with io := ([] : List Cont).length } := ⟨_, rfl⟩
    have fns : G.fns = g_law_due := by rw [hG]; rfl
    have io : G.io = 0 := by rw [hG]; rfl
    have con : G.con = md.con.map (·.2) := by rw [hG]; rfl
    have exq : G.exm = exmL md.exm := by rw [hG]; rfl
    have gq : g_law_due = g_law_due := rfl
    rw [← hG]
    simp [io, h]
  have ask : f_law_asked [.fz (.int (door : Int)), .fz d] = .ok (.tup [.str "bad", .int 0, .bl true]) [] := by
    rw [show f_law_asked = runDef (md.gam g_law_asked) ⟨4, b_law_asked⟩ from rfl, runDef_eq]
    simp only [b_law_asked, contsOf, slotsOf]
    obtain ⟨G, hG⟩ : ∃ G : Gam, G = { md.gam g_law_asked with io := ([] : List Cont).length } := ⟨_, rfl⟩
    have fns : G.fns = g_law_asked := by rw [hG]; rfl
    have io : G.io = 0 := by rw [hG]; rfl
    have con : G.con = md.con.map (·.2) := by rw [hG]; rfl
    have exq : G.exm = exmL md.exm := by rw [hG]; rfl
    have gq : g_law_asked = g_law_asked := rfl
    rw [← hG]
    have xf1 : G.xfl "BadText" "place" = true := by rw [hG]; decide +kernel
    have hb := fun (x0 x1 : D) (o2 o3 : Option Val) (st : Store) (d : D) => hs_bad (G := G) exq xf1 io (x0 := x0) (x1 := x1) (o2 := o2) (o3 := o3) (st := st) (d := d)
    have hd3 : door = 0 ∨ door = 1 ∨ door = 2 := by omega
    rcases hd3 with rfl | rfl | rfl
    · simp [fns, gq, g_law_asked, io, n0, kTry, hb]
    · simp [fns, gq, g_law_asked, io, n1, kTry, hb]
    · simp [fns, gq, g_law_asked, io, n2, kTry, hb]
  have wi := whole_int (i := 0)
  rw [show f_law_read = runDef (md.gam g_law_read) ⟨4, b_law_read⟩ from rfl, runDef_eq]
  simp only [b_law_read, contsOf, slotsOf]
  obtain ⟨G, hG⟩ : ∃ G : Gam, G = { md.gam g_law_read with io := ([] : List Cont).length } := ⟨_, rfl⟩
  have fns : G.fns = g_law_read := by rw [hG]; rfl
  have io : G.io = 0 := by rw [hG]; rfl
  have con : G.con = md.con.map (·.2) := by rw [hG]; rfl
  have exq : G.exm = exmL md.exm := by rw [hG]; rfl
  have gq : g_law_read = g_law_read := rfl
  rw [← hG]
  simp [fns, gq, g_law_read, io, du, ask, wi, idx_tup2]
end K04

/-! T23 -/
set_option Elab.async false
set_option linter.all false
set_option maxRecDepth 100000
set_option maxHeartbeats 4000000
namespace K04
open PySem PD L2 FR
/-! F4 -/
theorem bits_of {z : Int} {N : Nat} (h : z.natAbs < 2 ^ N) (l : N ≤ 4000000) : Builtin.Int.intBits z ≤ 4000000 := Nat.le_trans (bits_le h) l
theorem frac_pos {p q : Int} (hq : 0 < q) (bp : Builtin.Int.intBits p ≤ 4000000) (hb : q.natAbs < 2 ^ 9000) :
    f_law_gcd [.fz (.int p), .fz (.int q)] = .ok (.int ((Nat.gcd p.natAbs q.natAbs : Nat) : Int)) [] ∧ ((Nat.gcd p.natAbs q.natAbs : Nat) : Int) ≠ 0 ∧
    bopS .fdv (.int p) (.int ((Nat.gcd p.natAbs q.natAbs : Nat) : Int)) = .d (.int (Rat.divInt p q).num) ∧ bopS .fdv (.int q) (.int ((Nat.gcd p.natAbs q.natAbs : Nat) : Int)) = .d (.int ((Rat.divInt p q).den : Int)) := by
  have hg : Nat.gcd p.natAbs q.natAbs ≠ 0 := by
    intro z
    have := Nat.gcd_eq_zero_iff.mp z
    omega
  have g0 : ((Nat.gcd p.natAbs q.natAbs : Nat) : Int) ≠ 0 := by omega
  have sb : ((Nat.gcd p.natAbs q.natAbs : Nat) : Int).natAbs < 2 ^ 9000 := by
    rw [Int.natAbs_natCast]
    exact Nat.lt_of_le_of_lt (Nat.gcd_le_right _ (by omega)) hb
  obtain ⟨e1, e2⟩ := low_num (p := p) (q := q) (s := ((Nat.gcd p.natAbs q.natAbs : Nat) : Int)) (by omega) (by rw [if_neg (by omega)])
  exact ⟨gcd_ok bp (bits_of hb (by decide)), g0, by rw [bopS_fdv g0 (pyl_of sb), e1], by rw [bopS_fdv g0 (pyl_of sb), e2]⟩
theorem frac_ok {p q : Int} (hq : q ≠ 0) (bp : Builtin.Int.intBits p ≤ 4000000) (hb : q.natAbs < 2 ^ 9000) : f_law_frac [.fz (.int p), .fz (.int q)] = .ok (frD (Rat.divInt p q)) [] := by
  simp only [f_law_frac, runDef, b_law_frac, g_law_frac, contsOf, slotsOf, frD]
  by_cases h : q < 0
  · have bp' : Builtin.Int.intBits (-p) ≤ 4000000 := by
      have e : Builtin.Int.intBits (-p) = Builtin.Int.intBits p := by unfold Builtin.Int.intBits; simp
      rw [e]; exact bp
    obtain ⟨e1, e2, e3, e4⟩ := frac_pos (p := -p) (q := -q) (by omega) bp' (by rw [Int.natAbs_neg]; exact hb)
    rw [Rat.neg_divInt_neg] at e3 e4
    rw [Int.natAbs_neg, Int.natAbs_neg] at e1 e3 e4
    simp [h, e1, e3, e4]
  · obtain ⟨e1, e2, e3, e4⟩ := frac_pos (p := p) (q := q) (by omega) bp hb
    simp [h, e1, e3, e4]
/-! F18 -/
theorem pull_ok {ds : List D} (h : IsWell ds) {t : Int} (ht : 0 < t) : ∃ (r : Int) (ds' : List D), 0 ≤ r ∧ r < t ∧ IsWell ds' ∧ f_law_pull [.mu (.lst ds), .fz (.int t)] = .ok (.int r) [.lst ds'] := by
  obtain ⟨spot, rows, hl, rfl⟩ := h
  have i1 : idxS (.lst [.int (spot : Int), .lst (rows.map .int)]) (.int 1) = some (.lst (rows.map .int)) := by simp
  have six : ∀ (ρ : Slots), ρ[0]? = some (some (.loc 0)) → ∀ d, kSix3 ρ 0 (.fz (.int 0)) d [.lst [.int (spot : Int), .lst (rows.map .int)]] = .nx ρ [.lst [d, .lst (rows.map .int)]] := fun ρ _ d => kSix3_eq (st := [.lst [.int (spot : Int), .lst (rows.map .int)]]) (n := 0) (m := 0) (ds := [.int (spot : Int), .lst (rows.map .int)]) (by rfl) (by rfl) (by simp)
  by_cases hs : spot < rows.length
  · refine ⟨(rows[spot]).fmod t, [.int ((spot : Int) + 1), .lst (rows.map .int)], Int.fmod_nonneg_of_pos _ ht, Int.fmod_lt_of_pos _ ht, ⟨spot + 1, rows, hl, rfl⟩, ?_⟩
    rw [show f_law_pull = runDef (md.gam g_law_pull) ⟨4, b_law_pull⟩ from rfl, runDef_eq]
    simp only [b_law_pull, contsOf, slotsOf]
    obtain ⟨G, hG⟩ : ∃ G : Gam, G = { md.gam g_law_pull with io := ([.lst [.int (spot : Int), .lst (rows.map .int)]] : List Cont).length } := ⟨_, rfl⟩
    have io : G.io = 1 := by rw [hG]; rfl
    rw [← hG]
    have ix : idxS (.lst (rows.map .int)) (.int (spot : Int)) = some (.int rows[spot]) := by
      rw [idx_lst (k := spot) rfl (by simpa using hs)]
      simp
    have md : bopS .mod (.int rows[spot]) (.int t) = .d (.int (rows[spot].fmod t)) := bopS_mod (by omega)
    simp [io, i1]
    rw [kSix_eq (n := 0) (by rfl)]
    simp [io]
    rw [six _ (by rfl)]
    have ng : ¬ (rows.length : Int) ≤ (spot : Int) := by omega
    have ng2 : ¬ rows.length ≤ spot := by omega
    simp [ng, ng2, ix, md, io]
  · refine ⟨0, [.int ((spot : Int) + 1), .lst (rows.map .int)], by omega, ht, ⟨spot + 1, rows, hl, rfl⟩, ?_⟩
    rw [show f_law_pull = runDef (md.gam g_law_pull) ⟨4, b_law_pull⟩ from rfl, runDef_eq]
    simp only [b_law_pull, contsOf, slotsOf]
    obtain ⟨G, hG⟩ : ∃ G : Gam, G = { md.gam g_law_pull with io := ([.lst [.int (spot : Int), .lst (rows.map .int)]] : List Cont).length } := ⟨_, rfl⟩
    have io : G.io = 1 := by rw [hG]; rfl
    rw [← hG]
    simp [io, i1]
    rw [kSix_eq (n := 0) (by rfl)]
    simp [io]
    rw [six _ (by rfl)]
    have ng : (rows.length : Int) ≤ (spot : Int) := by omega
    have ng2 : rows.length ≤ spot := by omega
    simp [ng, ng2, io]
/-- a drawn number -/
structure Nm (x : Rat) : Prop where
  n : x.num.natAbs < 2 ^ 71
  d : x.den < 2 ^ 64
theorem nm_frac {p q : Int} (hq : 0 < q) (hp : p.natAbs < 2 ^ 71) (h : q < 2 ^ 64) : Nm (Rat.divInt p q) := by
  obtain ⟨k, rfl⟩ := Int.eq_ofNat_of_zero_le (Int.le_of_lt hq)
  have k0 : k ≠ 0 := by omega
  rw [Rat.divInt_ofNat]
  exact ⟨Nat.lt_of_le_of_lt (num_mkRat_le _ _ k0) hp, Nat.lt_of_le_of_lt (Nat.le_of_dvd (by omega) (den_mkRat_dvd _ _ k0)) (by omega)⟩
theorem frac_nm {p q : Int} (hq : 0 < q) (hp : p.natAbs < 2 ^ 71) (h : q < 2 ^ 64) : f_law_frac [.fz (.int p), .fz (.int q)] = .ok (frD (Rat.divInt p q)) [] :=
  frac_ok (by omega) (bits_of hp (by decide)) (Nat.lt_of_lt_of_le (m := 2 ^ 64) (by omega) (Nat.pow_le_pow_right (by decide) (by decide)))
theorem tops {r : Int} (h0 : 0 ≤ r) (h1 : r < 12) : ∃ v : Int, -7 ≤ v ∧ v ≤ 7 ∧ idxS (.lst [.int 1, .int 2, .int 0, .int (-1), .int 3, .int (-2), .int 5, .int 1, .int (-3), .int 7, .int (-1), .int 4]) (.int r) = some (.int v) := by
  obtain ⟨k, rfl⟩ := Int.eq_ofNat_of_zero_le h0
  have hk : k < 12 := by omega
  rw [idx_lst (k := k) rfl (by simpa using hk)]
  match k, hk with
  | 0, _ => exact ⟨1, by decide, by decide, rfl⟩
  | 1, _ => exact ⟨2, by decide, by decide, rfl⟩
  | 2, _ => exact ⟨0, by decide, by decide, rfl⟩
  | 3, _ => exact ⟨-1, by decide, by decide, rfl⟩
  | 4, _ => exact ⟨3, by decide, by decide, rfl⟩
  | 5, _ => exact ⟨-2, by decide, by decide, rfl⟩
  | 6, _ => exact ⟨5, by decide, by decide, rfl⟩
  | 7, _ => exact ⟨1, by decide, by decide, rfl⟩
  | 8, _ => exact ⟨-3, by decide, by decide, rfl⟩
  | 9, _ => exact ⟨7, by decide, by decide, rfl⟩
  | 10, _ => exact ⟨-1, by decide, by decide, rfl⟩
  | 11, _ => exact ⟨4, by decide, by decide, rfl⟩
theorem number_ok {ds : List D} (h : IsWell ds) : ∃ (x : Rat) (ds' : List D), Nm x ∧ IsWell ds' ∧ f_law_number [.mu (.lst ds)] = .ok (frD x) [.lst ds'] := by
  obtain ⟨w, ds1, w0, w1, hw, e1⟩ := pull_ok h (t := 12) (by decide)
  obtain ⟨r, ds2, r0, r1, hr, e2⟩ := pull_ok hw (t := 12) (by decide)
  obtain ⟨v, v0, v1, ev_⟩ := tops r0 r1
  rw [show f_law_number = runDef (md.gam g_law_number) ⟨3, b_law_number⟩ from rfl, runDef_eq]
  simp only [b_law_number, contsOf, slotsOf]
  obtain ⟨G, hG⟩ : ∃ G : Gam, G = { md.gam g_law_number with io := ([.lst ds] : List Cont).length } := ⟨_, rfl⟩
  have fns : G.fns = g_law_number := by rw [hG]; rfl
  have io : G.io = 1 := by rw [hG]; rfl
  rw [← hG]
  have nn : ([D.int 1, .int 2, .int 0, .int (-1), .int 3, .int (-2), .int 5, .int 1, .int (-3), .int 7, .int (-1), .int 4] : List D).length ≤ LIM := by decide
  by_cases c1 : w < 5
  · refine ⟨(v : Rat), ds2, ⟨by rw [Rat.num_intCast]; omega, by rw [Rat.den_intCast]; decide⟩, hr, ?_⟩
    rw [← frD_int]
    simp [fns, g_law_number, io, kCal2_m1, e1, e2, kLst2_eq nn, ev_, c1]
  · by_cases c2 : w < 8
    · refine ⟨_, ds2, nm_frac (p := v) (q := 2) (by decide) (by omega) (by decide), hr, ?_⟩
      simp [fns, g_law_number, io, kCal2_m1, e1, e2, kLst2_eq nn, ev_, c1, c2, frac_nm (p := v) (q := 2) (by decide) (by omega) (by decide)]
    · by_cases c3 : w < 10
      · obtain ⟨s, ds3, s0, s1, hs, e3⟩ := pull_ok hr (t := 5) (by decide)
        refine ⟨_, ds3, nm_frac (p := v) (q := 3 + s) (by omega) (by omega) (by omega), hs, ?_⟩
        simp [fns, g_law_number, io, kCal2_m1, e1, e2, e3, kLst2_eq nn, ev_, c1, c2, c3, frac_nm (p := v) (q := 3 + s) (by omega) (by omega) (by omega)]
      · by_cases c4 : w = 10
        · obtain ⟨s, ds3, s0, s1, hs, e3⟩ := pull_ok hr (t := 60) (by decide)
          obtain ⟨t, ds4, t0, t1, ht, e4⟩ := pull_ok hs (t := 60) (by decide)
          have m : mok v 60 = true := mok_of (N := 4) (M := 6) (by omega) (by decide) (by decide)
          refine ⟨_, ds4, nm_frac (p := v * 60 + s) (q := 1 + t) (by omega) (by omega) (by omega), ht, ?_⟩
          simp [fns, g_law_number, io, kCal2_m1, e1, e2, e3, e4, kLst2_eq nn, ev_, c1, c2, c3, c4, bopS_mul m, frac_nm (p := v * 60 + s) (q := 1 + t) (by omega) (by omega) (by omega)]
        · obtain ⟨s, ds3, s0, s1, hs, e3⟩ := pull_ok hr (t := 60) (by decide)
          have m : mok v (10 ^ 20) = true := mok_of (N := 4) (M := 67) (by omega) (by decide) (by decide)
          have m2 : mok 7 s = true := mok_of (N := 4) (M := 67) (by decide) (by omega) (by decide)
          have p1 : bopS .pow (.int 10) (.int 20) = .d (.int (10 ^ 20)) := bopS_pow (i := 10) (j := 20) (by decide)
          have p2 : bopS .pow (.int 10) (.int 19) = .d (.int (10 ^ 19)) := bopS_pow (i := 10) (j := 19) (by decide)
          refine ⟨_, ds3, nm_frac (p := v * 10 ^ 20 + 1) (q := 10 ^ 19 + 7 * s) (by omega) (by omega) (by omega), hs, ?_⟩
          have fr := frac_nm (p := v * 10 ^ 20 + 1) (q := 10 ^ 19 + 7 * s) (by omega) (by omega) (by omega)
          have c4' : (w == 10) = false := by simpa using c4
          have m' := bopS_mul m
          have m2' := bopS_mul m2
          generalize (10 : Int) ^ 20 = A at *
          generalize (10 : Int) ^ 19 = B at *
          simp [fns, g_law_number, io, kCal2_m1, e1, e2, e3, kLst2_eq nn, ev_, c1, c2, c3, c4', m', m2', p1, p2, fr]
/-! F19 -/
def RowsI (n : Nat) (st : Store) : Prop := ∃ rows : List Int, rows.length ≤ n ∧ st = [.lst (rows.map .int)]
theorem rows_app {n : Nat} {rows : List Int} (h : rows.length ≤ n) (v : Int) : RowsI (n + 1) [.lst (rows.map .int ++ [.int v])] := ⟨rows ++ [v], by simpa using h, by simp⟩
theorem well_mix {G : Gam} (io : G.io = 0) {S : D} {spot n : Nat} {c m : Int} (hs : spot < 100) (m0 : 0 ≤ m) (m1 : m < 2147483648) (hn : n < 100000) (o : Option Val) {st : Store} (h : RowsI n st) :
    ∃ m' o' st', forLoop (.rng 0 5) (fBody G (.nm 5) lp0_law_well) 5 0 [some (.fz S), some (.loc 0), some (.fz (.int spot)), some (.fz (.int c)), some (.fz (.int m)), o] st = .nx [some (.fz S), some (.loc 0), some (.fz (.int spot)), some (.fz (.int c)), some (.fz (.int m')), o'] st' ∧ RowsI (n + 5) st' := by
  have loop := for_all (I := .rng 0 5) (body := fBody G (.nm 5) lp0_law_well) (n := 5) (fun i ρ st => RowsI (n + i) st ∧ ∃ (m : Int) (o : Option Val), 0 ≤ m ∧ m < 2147483648 ∧ ρ = [some (.fz S), some (.loc 0), some (.fz (.int spot)), some (.fz (.int c)), some (.fz (.int m)), o]) (fun i ρ st _ _ => rfl)
    (fun i ρ st hi ⟨⟨rows, hr, e1⟩, m, o, m0, m1, e2⟩ => by
      subst e1 e2
      have k1 : mok m m = true := mok_of (N := 31) (M := 31) (by omega) (by omega) (by decide)
      have k2 : mok 40014 (i : Int) = true := mok_of (N := 31) (M := 31) (by decide) (by omega) (by decide)
      have md : bopS .mod (.int (m * m + 40014 * (i : Int) + (spot : Int) + 1)) (.int 2147483563) = .d (.int ((m * m + 40014 * (i : Int) + (spot : Int) + 1).fmod 2147483563)) := bopS_mod (by decide)
      obtain ⟨m', hm'⟩ : ∃ m', m' = (m * m + 40014 * (i : Int) + (spot : Int) + 1).fmod 2147483563 := ⟨_, rfl⟩
      rw [← hm'] at md
      have b0 : 0 ≤ m' := by rw [hm']; exact Int.fmod_nonneg_of_pos _ (by decide)
      have b1 : m' < 2147483563 := by rw [hm']; exact Int.fmod_lt_of_pos _ (by decide)
      have fd : bopS .fdv (.int m') (.int 7) = .d (.int (m'.fdiv 7)) := bopS_fdv (by decide) (pyl_of (by decide +kernel))
      refine ⟨.int (0 + i), rfl, [some (.fz S), some (.loc 0), some (.fz (.int spot)), some (.fz (.int c)), some (.fz (.int m')), some (.fz (.int i))], [.lst (rows.map .int ++ [.int (m'.fdiv 7)])], .inl ?_, rows_app hr _, m', _, b0, by omega, rfl⟩
      simp only [fBody_nm, lp0_law_well]
      simp [bopS_mul k1, bopS_mul k2, md]
      rw [ex_app (n := 0) (ds := rows.map .int) (by rfl) (by rfl)]
      simp [fd, io]
      rw [kApp2_eq (ds := rows.map .int) (by rfl) (by rw [List.length_map]; unfold LIM; omega)]
      simp) 5 0 _ st (by omega) ⟨h, m, o, m0, m1, rfl⟩
  obtain ⟨ρ', st', e, hr, m', o', _, _, rfl⟩ := loop
  exact ⟨m', o', st', e, hr⟩
theorem well_cut {G : Gam} (io : G.io = 0) {S : D} {spot n : Nat} {c : Int} (c0 : 0 ≤ c) (hn : n < 100000) (x o : Option Val) {st : Store} (h : RowsI n st) :
    ∃ c' o' st', forLoop (.rng 0 50) (fBody G (.nm 5) lp1_law_well) 50 0 [some (.fz S), some (.loc 0), some (.fz (.int spot)), some (.fz (.int c)), x, o] st = .nx [some (.fz S), some (.loc 0), some (.fz (.int spot)), some (.fz (.int c')), x, o'] st' ∧ RowsI (n + 50) st' := by
  have loop := for_all (I := .rng 0 50) (body := fBody G (.nm 5) lp1_law_well) (n := 50) (fun i ρ st => RowsI (n + i) st ∧ ∃ (c : Int) (o : Option Val), 0 ≤ c ∧ ρ = [some (.fz S), some (.loc 0), some (.fz (.int spot)), some (.fz (.int c)), x, o]) (fun i ρ st _ _ => rfl)
    (fun i ρ st hi ⟨⟨rows, hr, e1⟩, c, o, c0, e2⟩ => by
      subst e1 e2
      by_cases hc : 0 < c
      · have md : bopS .mod (.int c) (.int 60) = .d (.int (c.fmod 60)) := bopS_mod (by decide)
        have fd : bopS .fdv (.int c) (.int 60) = .d (.int (c.fdiv 60)) := bopS_fdv (by decide) (pyl_of (by decide +kernel))
        refine ⟨.int (0 + i), rfl, [some (.fz S), some (.loc 0), some (.fz (.int spot)), some (.fz (.int (c.fdiv 60))), x, some (.fz (.int i))], [.lst (rows.map .int ++ [.int (c.fmod 60)])], .inl ?_, rows_app hr _, _, _, Int.fdiv_nonneg c0 (by decide), rfl⟩
        simp only [fBody_nm, lp1_law_well]
        simp [hc]
        rw [ex_app (n := 0) (ds := rows.map .int) (by rfl) (by rfl)]
        simp [md, io]
        rw [kApp2_eq (ds := rows.map .int) (by rfl) (by rw [List.length_map]; unfold LIM; omega)]
        simp [fd]
      · refine ⟨.int (0 + i), rfl, [some (.fz S), some (.loc 0), some (.fz (.int spot)), some (.fz (.int c)), x, some (.fz (.int i))], [.lst (rows.map .int)], .inl ?_, ⟨rows, by omega, rfl⟩, c, _, c0, rfl⟩
        simp only [fBody_nm, lp1_law_well]
        simp [hc]) 50 0 _ st (by omega) ⟨h, c, o, c0, rfl⟩
  obtain ⟨ρ', st', e, hr, c', o', _, rfl⟩ := loop
  exact ⟨c', o', st', e, hr⟩
theorem well_ok {ns : List Int} (hl : ns.length ≤ 63) (hb : ∀ z ∈ ns, Builtin.Int.intBits z ≤ 1048576) : ∃ ds, IsWell ds ∧ f_law_well [.fz (.lst (ns.map .int))] = .okl ds [] := by
  rw [show f_law_well = runDef (md.gam g_law_well) ⟨6, b_law_well⟩ from rfl, runDef_eq]
  simp only [b_law_well, contsOf, slotsOf]
  obtain ⟨G, hG⟩ : ∃ G : Gam, G = { md.gam g_law_well with io := ([] : List Cont).length } := ⟨_, rfl⟩
  have io : G.io = 0 := by rw [hG]; rfl
  rw [← hG]
  obtain ⟨S, hS⟩ : ∃ S, S = D.lst (ns.map .int) := ⟨_, rfl⟩
  have len : bfnS .len [S] = .d (.int ns.length) := by rw [hS]; simp
  have at_ : ∀ (k : Nat) (hk : k < ns.length), idxS S (.int k) = some (.int ns[k]) := fun k hk => by
    rw [hS, idx_lst (k := k) rfl (by simpa using hk)]
    simp
  have p18 : bopS .pow (.int 10) (.int 18) = .d (.int (10 ^ 18)) := bopS_pow (i := 10) (j := 18) (by decide)
  rw [← hS]
  have loop := for_all (I := .rng 0 63) (body := fBody G (.nm 2) lp2_law_well) (n := 63) (fun i ρ st => RowsI (50 * i) st ∧ ∃ a b c d, ρ = [some (.fz S), some (.loc 0), a, b, c, d]) (fun i ρ st _ _ => rfl)
    (fun i ρ st hi ⟨hr, a, b, c, d, e2⟩ => by
      subst e2
      have hr0 := hr
      obtain ⟨rows, hr, rfl⟩ := hr
      by_cases hs : i < ns.length
      · have hz := hb ns[i] (List.getElem_mem hs)
        have hzb := bits_lt ns[i]
        have m3 : mok 3 ns[i] = true := mok_of (N := 31) (M := 1048576) (by decide) (Nat.lt_of_lt_of_le hzb (Nat.pow_le_pow_right (by decide) hz)) (by decide)
        obtain ⟨z, hz_⟩ : ∃ z : Int, z = (if ns[i] < 0 then 2 - 3 * ns[i] else ns[i]) := ⟨_, rfl⟩
        have z0 : 0 ≤ z := by rw [hz_]; split <;> omega
        by_cases hc : z < 10 ^ 18
        · have k1 : mok z 16807 = true := mok_of (N := 61) (M := 31) (by omega) (by decide) (by decide)
          have k2 : mok (i : Int) 7919 = true := mok_of (N := 31) (M := 31) (by omega) (by decide) (by decide)
          have md : bopS .mod (.int (z * 16807 + (i : Int) * 7919 + 3)) (.int 2147483647) = .d (.int ((z * 16807 + (i : Int) * 7919 + 3).fmod 2147483647)) := bopS_mod (by decide)
          have b0 : 0 ≤ (z * 16807 + (i : Int) * 7919 + 3).fmod 2147483647 := Int.fmod_nonneg_of_pos _ (by decide)
          have b1 : (z * 16807 + (i : Int) * 7919 + 3).fmod 2147483647 < 2147483647 := Int.fmod_lt_of_pos _ (by decide)
          obtain ⟨m', o', st', e, hr'⟩ := well_mix (G := G) io (S := S) (spot := i) (c := z) (by omega) b0 (by omega) (n := 50 * i) (by omega) d hr0
          refine ⟨.int (0 + i), rfl, _, st', .inl ?_, ?_, some (.fz (.int i)), some (.fz (.int z)), some (.fz (.int m')), o', rfl⟩
          · simp only [fBody_nm, lp2_law_well]
            generalize (10 : Int) ^ 18 = A at *
            generalize (z * 16807 + (i : Int) * 7919 + 3).fmod 2147483647 = M at *
            by_cases hn : ns[i] < 0
            · rw [if_pos hn] at hz_
              simp [len, hs, at_ i hs, hn, bopS_mul m3, ← hz_, p18, hc, bopS_mul k1, bopS_mul k2, md, kRng_eq (i := 0) (j := 5) (by decide) (by decide), e]
            · rw [if_neg hn] at hz_
              rw [← hz_] at hn
              simp [len, hs, at_ i hs, ← hz_, hn, p18, hc, bopS_mul k1, bopS_mul k2, md, kRng_eq (i := 0) (j := 5) (by decide) (by decide), e]
          · obtain ⟨r, h1, h2⟩ := hr'
            exact ⟨r, by omega, h2⟩
        · obtain ⟨c', o', st', e, hr'⟩ := well_cut (G := G) io (S := S) (spot := i) (c := z) z0 (n := 50 * i) (by omega) c d hr0
          refine ⟨.int (0 + i), rfl, _, st', .inl ?_, ?_, some (.fz (.int i)), some (.fz (.int c')), c, o', rfl⟩
          · simp only [fBody_nm, lp2_law_well]
            generalize (10 : Int) ^ 18 = A at *
            by_cases hn : ns[i] < 0
            · rw [if_pos hn] at hz_
              simp [len, hs, at_ i hs, hn, bopS_mul m3, ← hz_, p18, hc, kRng_eq (i := 0) (j := 50) (by decide) (by decide), e]
            · rw [if_neg hn] at hz_
              rw [← hz_] at hn
              simp [len, hs, at_ i hs, ← hz_, hn, p18, hc, kRng_eq (i := 0) (j := 50) (by decide) (by decide), e]
          · obtain ⟨r, h1, h2⟩ := hr'
            exact ⟨r, by omega, h2⟩
      · refine ⟨.int (0 + i), rfl, _, [.lst (rows.map .int)], .inl ?_, ⟨rows, by omega, rfl⟩, some (.fz (.int i)), b, c, d, rfl⟩
        simp only [fBody_nm, lp2_law_well]
        have hs' : ¬ ((i : Int) < (ns.length : Int)) := by omega
        simp [len, hs]) 63 0 [some (.fz S), some (.loc 0), none, none, none, none] [.lst []] (by omega) ⟨⟨[], by simp, rfl⟩, _, _, _, _, rfl⟩
  obtain ⟨ρ', st', e, ⟨rows, hr, rfl⟩, a, b, c, d, rfl⟩ := loop
  refine ⟨[.int 0, .lst (rows.map .int)], ⟨0, rows, by omega, rfl⟩, ?_⟩
  have fl : fr 0 (.loc 0) [.lst (rows.map .int)] = .ok (.lst (rows.map .int)) [.fz (.lst (rows.map .int))] := fr_loc rfl (Nat.le_refl _)
  have rl : kRetl 0 (.loc 1) [.fz (.lst (rows.map .int)), .lst [.int 0, .lst (rows.map .int)]] = .rtl [.int 0, .lst (rows.map .int)] [.fz (.lst (rows.map .int)), .lst [.int 0, .lst (rows.map .int)]] := kRetl_eq rfl (by omega)
  simp [io, kRng_eq (i := 0) (j := 63) (by decide) (by decide), e, fl, rl]
end K04

/-! T24 -/
set_option Elab.async false
set_option linter.all false
set_option maxRecDepth 100000
set_option maxHeartbeats 4000000
namespace K04
open PySem PD L2 FR
/-! T24: a text bent -/
def SIG : List Nat := [48, 49, 50, 51, 52, 53, 54, 55, 56, 57, 45, 47, 44, 59, 32, 43, 124, 46, 10]
theorem sSig : Str.ofString "0123456789-/,; +|.\n" = TS SIG := by decide +kernel
theorem slc_to {a : List Nat} {j : Nat} {y : Int} (hy : y = (j : Int)) (hl : a.length ≤ LIM) : slcS (.str (TS a)) none (some y) = .d (.str (TS (a.take j))) := by
  subst hy
  show (if (TS a).length ≤ LIM then OpD.d (.str (cutS (TS a) none (some (j : Int)))) else .no) = _
  rw [if_pos (by rw [ts_len]; exact hl)]
  congr 2
  unfold cutS
  rw [ts_len, ts_cps]
  have e0 : HT.sIx a.length 0 none = 0 := rfl
  rw [e0]
  show TS _ = TS _
  congr 1
  by_cases h : j ≤ a.length
  · rw [sIx_nat h]; simp
  · rw [sIx_big (by omega), List.drop_zero, List.take_of_length_le (by omega), List.take_of_length_le (show a.length ≤ j by omega)]
theorem slc_from {a : List Nat} {i : Nat} {x : Int} (hx : x = (i : Int)) (hl : a.length ≤ LIM) : slcS (.str (TS a)) (some x) none = .d (.str (TS (a.drop i))) := by
  subst hx
  show (if (TS a).length ≤ LIM then OpD.d (.str (cutS (TS a) (some (i : Int)) none)) else .no) = _
  rw [if_pos (by rw [ts_len]; exact hl)]
  congr 2
  unfold cutS
  rw [ts_len, ts_cps]
  have e0 : HT.sIx a.length a.length none = a.length := rfl
  rw [e0]
  show TS _ = TS _
  congr 1
  by_cases h : i ≤ a.length
  · rw [sIx_nat h, List.take_of_length_le (by rw [List.length_drop]; omega)]
  · rw [sIx_big (by omega), List.drop_eq_nil_of_le (Nat.le_refl _), List.drop_eq_nil_of_le (show a.length ≤ i by omega)]
    simp
theorem law_bent_ok {ds : List D} (h : IsWell ds) {a : List Nat} (ha : a.length ≤ 50000) : ∃ (b : List Nat) (ds' : List D), b.length ≤ a.length + 1 ∧ IsWell ds' ∧ f_law_bent [.mu (.lst ds), .fz (.str (TS a))] = .ok (.str (TS b)) [.lst ds'] := by
  have hl : a.length ≤ LIM := by have : LIM = 16777216 := rfl; omega
  obtain ⟨p, ds1, p0, p1, h1, e1⟩ := pull_ok h (t := 60) (by decide)
  obtain ⟨q, ds2, q0, q1, h2, e2⟩ := pull_ok h1 (t := 60) (by decide)
  obtain ⟨r, ds3, r0, r1, h3, e3⟩ := pull_ok h2 (t := 19) (by decide)
  obtain ⟨w, ds4, w0, w1, h4, e4⟩ := pull_ok h3 (t := 3) (by decide)
  have m : mok p 60 = true := mok_of (N := 6) (M := 6) (by omega) (by decide) (by decide)
  have ln : bfnS .len [.str (TS a)] = .d (.int (a.length : Int)) := len_ts hl
  have ls : bfnS .len [.str (TS SIG)] = .d (.int 19) := len_ts (a := SIG) (by unfold LIM; decide)
  have mdd := bopS_mod (i := p * 60 + q) (j := (a.length : Int) + 1) (by omega)
  have f0 := Int.fmod_nonneg_of_pos (p * 60 + q) (show (0 : Int) < (a.length : Int) + 1 by omega)
  have f1 := Int.fmod_lt_of_pos (p * 60 + q) (show (0 : Int) < (a.length : Int) + 1 by omega)
  generalize (p * 60 + q).fmod ((a.length : Int) + 1) = P at mdd f0 f1
  obtain ⟨k, rfl⟩ : ∃ k : Nat, P = (k : Int) := ⟨P.toNat, by omega⟩
  obtain ⟨c, hc⟩ : ∃ c, SIG[r.toNat]? = some c := ⟨_, List.getElem?_eq_getElem (by show r.toNat < 19; omega)⟩
  have ix := idx_tsi (a := SIG) (i := r) (k := r.toNat) (by omega) (by unfold LIM; decide) hc
  have st := slc_to (a := a) (j := k) (y := (k : Int)) rfl hl
  have s1 := slc_from (a := a) (i := k) (x := (k : Int)) rfl hl
  have s2 := slc_from (a := a) (i := k + 1) (x := (k : Int) + 1) (by omega) hl
  have lim : ∀ x : List Nat, x.length ≤ 100002 → x.length ≤ LIM := fun x hx => by have : LIM = 16777216 := rfl; omega
  have a1 := bopS_adds (x := a.take k) (y := [c]) (by have : LIM = 16777216 := rfl; simp; omega)
  have a2 := bopS_adds (x := a.take k ++ [c]) (y := a.drop k) (by have : LIM = 16777216 := rfl; simp; omega)
  have a3 := bopS_adds (x := a.take k) (y := a.drop (k + 1)) (by have : LIM = 16777216 := rfl; simp; omega)
  have a4 := bopS_adds (x := a.take k ++ [c]) (y := a.drop (k + 1)) (by have : LIM = 16777216 := rfl; simp; omega)
  have hw : w = 0 ∨ w = 1 ∨ w = 2 := by omega
  rw [← sSig] at ls ix
  rw [show f_law_bent = runDef (md.gam g_law_bent) ⟨6, b_law_bent⟩ from rfl, runDef_eq]
  simp only [b_law_bent, contsOf, slotsOf]
  obtain ⟨G, hG⟩ : ∃ G : Gam, G = { md.gam g_law_bent with io := ([.lst ds] : List Cont).length } := ⟨_, rfl⟩
  have fns : G.fns = g_law_bent := by rw [hG]; rfl
  have io : G.io = 1 := by rw [hG]; rfl
  rw [← hG]
  rcases hw with rfl | rfl | rfl
  · refine ⟨a.take k ++ [c] ++ a.drop k, ds4, by simp; omega, h4, ?_⟩
    simp [fns, g_law_bent, io, kCal2_m1, e1, e2, e3, e4, bopS_mul m, ln, ls, mdd, ix, st, s1, s2, a1, a2]
  · refine ⟨a.take k ++ a.drop (k + 1), ds4, by simp; omega, h4, ?_⟩
    simp [fns, g_law_bent, io, kCal2_m1, e1, e2, e3, e4, bopS_mul m, ln, ls, mdd, ix, st, s1, s2, a3]
  · refine ⟨a.take k ++ [c] ++ a.drop (k + 1), ds4, by simp; omega, h4, ?_⟩
    simp [fns, g_law_bent, io, kCal2_m1, e1, e2, e3, e4, bopS_mul m, ln, ls, mdd, ix, st, s1, s2, a1, a4]
end K04

/-! T25 -/
set_option Elab.async false
set_option linter.all false
set_option maxRecDepth 100000
set_option maxHeartbeats 4000000
namespace K04
open PySem PD L2 FR
/-! T25: numbers written -/
/-- the signs of a whole number -/
def sgs (i : Int) : List Nat := (Str.ofString (toString i)).cps.toList
theorem sgs_ts (i : Int) : Str.ofString (toString i) = TS (sgs i) := ts_of _
def numW (v : Int × Int) : List Nat := if v.2 = 1 then sgs v.1 else sgs v.1 ++ [47] ++ sgs v.2
structure Wr (v : Int × Int) : Prop where
  l1 : v.1.natAbs.log2 < 1920
  l2 : v.2.natAbs.log2 < 1920
  n1 : (sgs v.1).length ≤ 1000
  n2 : (sgs v.2).length ≤ 1000
theorem fmt_int {i : Int} (h : i.natAbs.log2 < 1920) : fmtS (.int i) = some (TS (sgs i)) := by
  rw [← sgs_ts]; exact if_pos h
theorem str_int {i : Int} (h : i.natAbs.log2 < 1920) : bfnS .str [.int i] = .d (.str (TS (sgs i))) := by
  rw [← sgs_ts]; exact if_pos h
theorem emp_ts (x : List Nat) : Str.empty ++ TS x = TS x := by
  show (⟨#[] ++ x.toArray⟩ : Str) = ⟨x.toArray⟩
  simp
theorem app_ts (x y : List Nat) : TS x ++ TS y = TS (x ++ y) := by
  show (⟨x.toArray ++ y.toArray⟩ : Str) = ⟨(x ++ y).toArray⟩
  simp
theorem written_ok {v : Int × Int} (h : Wr v) : f_law_written [.fz (pr v)] = .ok (.str (TS (numW v))) [] := by
  have b1 := str_int h.l1
  have b2 := str_int h.l2
  have n1 := h.n1
  have n2 := h.n2
  have a1 := bopS_adds (x := sgs v.1) (y := [47]) (by have : LIM = 16777216 := rfl; simp; omega)
  have a2 := bopS_adds (x := sgs v.1 ++ [47]) (y := sgs v.2) (by have : LIM = 16777216 := rfl; simp; omega)
  rw [← sSl] at a1
  rw [show f_law_written = runDef (md.gam g_law_written) ⟨1, b_law_written⟩ from rfl, runDef_eq]
  simp only [b_law_written, contsOf, slotsOf]
  obtain ⟨G, hG⟩ : ∃ G : Gam, G = { md.gam g_law_written with io := ([] : List Cont).length } := ⟨_, rfl⟩
  have fns : G.fns = g_law_written := by rw [hG]; rfl
  have io : G.io = 0 := by rw [hG]; rfl
  have con : G.con = md.con.map (·.2) := by rw [hG]; rfl
  have exq : G.exm = exmL md.exm := by rw [hG]; rfl
  have gq : g_law_written = g_law_written := rfl
  rw [← hG]
  unfold numW pr
  by_cases h1 : v.2 = 1
  · simp [io, b1, h1]
  · simp [io, b1, h1, b2, a1, a2]
theorem number_text_ok {v : Int × Int} (h : Wr v) : f_number_text [.fz (pr v)] = .ok (.str (TS (numW v))) [] := by
  have b1 := fmt_int h.l1
  have b2 := fmt_int h.l2
  have n1 := h.n1
  have n2 := h.n2
  have c2 : cat2S (TS (sgs v.1)) (Str.ofString "/") = some (TS (sgs v.1 ++ [47])) := by
    unfold cat2S
    rw [sSl, emp_ts, app_ts, ts_len, ts_len, if_pos (by have : LIM = 16777216 := rfl; simp; omega)]
  have c3 : catS (TS (sgs v.1 ++ [47])) (TS (sgs v.2)) = some (TS (sgs v.1 ++ [47] ++ sgs v.2)) := by
    unfold catS
    rw [app_ts, ts_len, if_pos (by have : LIM = 16777216 := rfl; simp; omega)]
  rw [show f_number_text = runDef (md.gam g_number_text) ⟨1, b_number_text⟩ from rfl, runDef_eq]
  simp only [b_number_text, contsOf, slotsOf]
  obtain ⟨G, hG⟩ : ∃ G : Gam, G = { md.gam g_number_text with io := ([] : List Cont).length } := ⟨_, rfl⟩
  have fns : G.fns = g_number_text := by rw [hG]; rfl
  have io : G.io = 0 := by rw [hG]; rfl
  have con : G.con = md.con.map (·.2) := by rw [hG]; rfl
  have exq : G.exm = exmL md.exm := by rw [hG]; rfl
  have gq : g_number_text = g_number_text := rfl
  rw [← hG]
  unfold numW pr
  by_cases h1 : v.2 = 1
  · simp [io, b1, h1]
  · simp [io, b1, h1, b2, c2, c3]
end K04

/-! T26 -/
set_option Elab.async false
set_option linter.all false
set_option maxRecDepth 100000
set_option maxHeartbeats 4000000
namespace K04
open PySem PD L2 FR
/-! T26: rows written -/
theorem lc_tupD {G : Gam} {ρ : Slots} {st : Store} {own : List Nat} {i : Nat} {elt : Ex} {α : Type} {vs : List α} {g f : α → D} (hn : vs.length ≤ LIM)
    (h : ∀ v ∈ vs, ev G elt ((wipeS ρ own).set i (some (.fz (g v)))) st = .ok (.fz (f v)) st) : kLc G ρ own (.nm i) (.lit (.bl true)) elt (.tup (vs.map g)) st = .ok (.loc st.length) (st ++ [.lst (vs.map f)]) := by
  rw [kLc_eq (n := (vs.map g).length) rfl (by rw [List.length_map]; exact hn)]
  have loop := lc_all (I := .tup (vs.map g)) (body := lBody G own (.nm i) (.lit (.bl true)) elt ρ) (n := (vs.map g).length) (fun j acc st' => st' = st ∧ acc = (vs.take j).map f) (fun _ _ _ _ _ => rfl)
    (fun j acc st' hj ⟨e1, e2⟩ => by
      subst e1 e2
      rw [List.length_map] at hj
      refine ⟨g vs[j], by simp [hj], [f vs[j]], _, lBody_1 (h vs[j] (List.getElem_mem hj)), rfl, ?_⟩
      rw [List.take_succ_eq_append_getElem hj, List.map_append]
      rfl) (vs.map g).length 0 [] st (by omega) ⟨rfl, rfl⟩
  obtain ⟨acc, st', e, rfl, rfl⟩ := loop
  rw [e]
  simp
theorem strs_map {α : Type} {f : α → Str} : ∀ vs : List α, strs? (vs.map fun v => D.str (f v)) = some (vs.map f)
  | [] => rfl
  | v :: vs => by
    show (match strs? (vs.map fun v => D.str (f v)) with
      | some r => some (f v :: r)
      | none => none) = _
    rw [strs_map vs]
    rfl
/-- the text of a row -/
def rowW (vs : Row) : Str := Txt.join (Str.ofString ",") (vs.map fun v => TS (numW v))
theorem numW_len {v : Int × Int} (h : Wr v) : (numW v).length ≤ 2001 := by
  have := h.n1
  have := h.n2
  unfold numW
  split
  · omega
  · simp; omega
theorem sum_le : ∀ (vs : Row), (∀ v ∈ vs, Wr v) → ((vs.map fun v => TS (numW v)).map (·.length)).sum ≤ 2001 * vs.length
  | [], _ => by simp
  | v :: vs, h => by
    have h1 := numW_len (h v List.mem_cons_self)
    have h2 := sum_le vs fun u hu => h u (List.mem_cons_of_mem _ hu)
    simp only [List.map_cons, List.sum_cons, ts_len, List.length_cons] at h2 ⊢
    omega
theorem join_row {vs : Row} (hv : ∀ v ∈ vs, Wr v) (hl : vs.length ≤ 1000) : joinD (Str.ofString ",") (.lst (vs.map fun v => D.str (TS (numW v)))) = .d (.str (rowW vs)) := by
  show joinS _ _ = _
  unfold joinS
  rw [strs_map]
  have h1 := sum_le vs hv
  have h2 : (Str.ofString ",").length = 1 := by rw [sCo, ts_len]; rfl
  show (if _ then OpD.d _ else .no) = _
  rw [if_pos (by rw [h2, List.length_map]; have : LIM = 16777216 := rfl; omega)]
  rfl
theorem numbers_text_ok {vs : Row} (hv : ∀ v ∈ vs, Wr v) (hl : vs.length ≤ 1000) : f_numbers_text [.fz (prs vs)] = .ok (.str (rowW vs)) [] := by
  have jr := join_row hv hl
  unfold prs
  rw [show f_numbers_text = runDef (md.gam g_numbers_text) ⟨2, b_numbers_text⟩ from rfl, runDef_eq]
  simp only [b_numbers_text, contsOf, slotsOf]
  obtain ⟨G, hG⟩ : ∃ G : Gam, G = { md.gam g_numbers_text with io := ([] : List Cont).length } := ⟨_, rfl⟩
  have fns : G.fns = g_numbers_text := by rw [hG]; rfl
  have io : G.io = 0 := by rw [hG]; rfl
  have con : G.con = md.con.map (·.2) := by rw [hG]; rfl
  have exq : G.exm = exmL md.exm := by rw [hG]; rfl
  have gq : g_numbers_text = g_numbers_text := rfl
  rw [← hG]
  have lc := lc_tupD (G := G) (ρ := [some (.fz (.tup (vs.map pr))), none]) (st := []) (own := [1]) (i := 1) (elt := .call 0 (.cons (.var 1) .nil)) (vs := vs) (g := pr) (f := fun v => D.str (TS (numW v))) (by have : LIM = 16777216 := rfl; omega) fun v h => by
    have q := number_text_ok (hv v h)
    simp [wipeS, fns, gq, g_numbers_text, io, q]
  simp [io, lc, jr]
theorem law_line_ok {vs : Row} (hv : ∀ v ∈ vs, Wr v) (hl : vs.length ≤ 1000) : f_law_line [.fz (prs vs)] = .ok (.str (rowW vs)) [] := by
  have jr := join_row hv hl
  unfold prs
  rw [show f_law_line = runDef (md.gam g_law_line) ⟨2, b_law_line⟩ from rfl, runDef_eq]
  simp only [b_law_line, contsOf, slotsOf]
  obtain ⟨G, hG⟩ : ∃ G : Gam, G = { md.gam g_law_line with io := ([] : List Cont).length } := ⟨_, rfl⟩
  have fns : G.fns = g_law_line := by rw [hG]; rfl
  have io : G.io = 0 := by rw [hG]; rfl
  have con : G.con = md.con.map (·.2) := by rw [hG]; rfl
  have exq : G.exm = exmL md.exm := by rw [hG]; rfl
  have gq : g_law_line = g_law_line := rfl
  rw [← hG]
  have lc := lc_tupD (G := G) (ρ := [some (.fz (.tup (vs.map pr))), none]) (st := []) (own := [1]) (i := 1) (elt := .call 0 (.cons (.var 1) .nil)) (vs := vs) (g := pr) (f := fun v => D.str (TS (numW v))) (by have : LIM = 16777216 := rfl; omega) fun v h => by
    have q := written_ok (hv v h)
    simp [wipeS, fns, gq, g_law_line, io, q]
  simp [io, lc, jr]
end K04

/-! T27 -/
set_option Elab.async false
set_option linter.all false
set_option maxRecDepth 100000
set_option maxHeartbeats 4000000
namespace K04
open PySem PD L2 FR
/-! T27: polys and matrices written -/
theorem poly_text_ok {vs : Row} (hv : ∀ v ∈ vs, Wr v) (hl : vs.length ≤ 1000) : f_poly_text [.fz (prs vs)] = .ok (.str (if vs = [] then Str.ofString "0" else rowW vs)) [] := by
  have nt := numbers_text_ok hv hl
  have ln : bfnS .len [prs vs] = .d (.int (vs.length : Int)) := by unfold prs; rw [bfn_lent, List.length_map]
  rw [show f_poly_text = runDef (md.gam g_poly_text) ⟨1, b_poly_text⟩ from rfl, runDef_eq]
  simp only [b_poly_text, contsOf, slotsOf]
  obtain ⟨G, hG⟩ : ∃ G : Gam, G = { md.gam g_poly_text with io := ([] : List Cont).length } := ⟨_, rfl⟩
  have fns : G.fns = g_poly_text := by rw [hG]; rfl
  have io : G.io = 0 := by rw [hG]; rfl
  have con : G.con = md.con.map (·.2) := by rw [hG]; rfl
  have exq : G.exm = exmL md.exm := by rw [hG]; rfl
  have gq : g_poly_text = g_poly_text := rfl
  rw [← hG]
  by_cases h : vs = []
  · subst h
    simp [io, ln]
  · have lp : (0 : Int) < (vs.length : Int) := by have := List.length_pos_iff.mpr h; omega
    have lp2 : 0 < vs.length := List.length_pos_iff.mpr h
    simp [io, ln, lp, lp2, h, fns, gq, g_poly_text, nt]
/-- the text of a matrix -/
def matW (rs : List Row) : Str := Txt.join (Str.ofString ";") (rs.map rowW)
theorem matrix_text_ok {rs : List Row} (hv : ∀ vs ∈ rs, ∀ v ∈ vs, Wr v) (hl : ∀ vs ∈ rs, vs.length ≤ 1000) (hr : rs.length ≤ 30) (hs : ∀ vs ∈ rs, (rowW vs).length ≤ 100000) : f_matrix_text [.fz (.tup (rs.map prs))] = .ok (.str (matW rs)) [] := by
  have sm : ∀ l : List Row, (∀ vs ∈ l, (rowW vs).length ≤ 100000) → ((l.map rowW).map (·.length)).sum ≤ 100000 * l.length := fun l => by
    induction l with
    | nil => intro _; simp
    | cons v l ih =>
      intro h
      have h1 := h v List.mem_cons_self
      have h2 := ih fun u hu => h u (List.mem_cons_of_mem _ hu)
      simp only [List.map_cons, List.sum_cons, List.length_cons] at h2 ⊢
      omega
  have jr : joinD (Str.ofString ";") (.lst (rs.map fun v => D.str (rowW v))) = .d (.str (matW rs)) := by
    show joinS _ _ = _
    unfold joinS
    rw [strs_map]
    have h1 := sm rs hs
    have h2 : (Str.ofString ";").length = 1 := by rw [sSe, ts_len]; rfl
    show (if _ then OpD.d _ else .no) = _
    rw [if_pos (by rw [h2, List.length_map]; have : LIM = 16777216 := rfl; omega)]
    rfl
  rw [show f_matrix_text = runDef (md.gam g_matrix_text) ⟨2, b_matrix_text⟩ from rfl, runDef_eq]
  simp only [b_matrix_text, contsOf, slotsOf]
  obtain ⟨G, hG⟩ : ∃ G : Gam, G = { md.gam g_matrix_text with io := ([] : List Cont).length } := ⟨_, rfl⟩
  have fns : G.fns = g_matrix_text := by rw [hG]; rfl
  have io : G.io = 0 := by rw [hG]; rfl
  have con : G.con = md.con.map (·.2) := by rw [hG]; rfl
  have exq : G.exm = exmL md.exm := by rw [hG]; rfl
  have gq : g_matrix_text = g_matrix_text := rfl
  rw [← hG]
  have lc := lc_tupD (G := G) (ρ := [some (.fz (.tup (rs.map prs))), none]) (st := []) (own := [1]) (i := 1) (elt := .call 0 (.cons (.var 1) .nil)) (vs := rs) (g := prs) (f := fun v => D.str (rowW v)) (by have : LIM = 16777216 := rfl; omega) fun v h => by
    have q := numbers_text_ok (hv v h) (hl v h)
    simp [wipeS, fns, gq, g_matrix_text, io, q]
  simp [io, lc, jr]
end K04

/-! T28 -/
set_option Elab.async false
set_option linter.all false
set_option maxRecDepth 100000
set_option maxHeartbeats 4000000
namespace K04
open PySem PD L2 FR
/-! T28: figures within a text -/
/-- what stands behind begins with no figure -/
def NoF (rest : List Nat) : Prop := ∀ c, rest[0]? = some c → isF c = false
theorem take_app : ∀ (x : List Nat) {rest : List Nat}, (∀ c ∈ x, isF c = true) → NoF rest → (x ++ rest).takeWhile isF = x
  | [], rest, _, hr => by
    cases rest with
    | nil => rfl
    | cons c l =>
      have := hr c rfl
      rw [List.nil_append, List.takeWhile_cons, this]
      rfl
  | d :: x, rest, hx, hr => by
    rw [List.cons_append, List.takeWhile_cons, hx d List.mem_cons_self]
    simp only [if_true]
    rw [take_app x (fun c hc => hx c (List.mem_cons_of_mem _ hc)) hr]
theorem digs_app {pre x rest : List Nat} (hx : ∀ c ∈ x, isF c = true) (hr : NoF rest) : digs (pre ++ (x ++ rest)) pre.length = x := by
  unfold digs
  rw [List.drop_left]
  exact take_app x hx hr
theorem run_app {pre x rest : List Nat} (hx : ∀ c ∈ x, isF c = true) (hr : NoF rest) : runE (pre ++ (x ++ rest)) pre.length = pre.length + x.length := by
  rw [run_digs, digs_app hx hr]
theorem figP_app {pre rest : List Nat} {c : Nat} {x : List Nat} (hc : isF c = true) : figP (pre ++ (c :: x ++ rest)) pre.length = true := by
  unfold figP
  rw [List.getElem?_append_right (Nat.le_refl _), Nat.sub_self]
  exact hc
end K04

/-! T29 -/
set_option Elab.async false
set_option linter.all false
set_option maxRecDepth 100000
set_option maxHeartbeats 4000000
namespace K04
open PySem PD L2 FR
/-! T29: the signs of a whole number -/
theorem sgs_nat (n : Nat) : sgs (n : Int) = TL.numL n := TL.tl_num n
theorem numL_fig (n : Nat) : ∀ c ∈ TL.numL n, isF c = true := fun c hc => isF_iff.mpr (TL.numL_digits n c hc)
theorem numL_val' (n : Nat) : val (TL.numL n) = (n : Int) := by
  unfold val
  rw [TL.numL_val]
theorem numL_head : ∀ n : Nat, 0 < n → ∃ c x, TL.numL n = c :: x ∧ c ≠ 48 := by
  intro n
  induction n using Nat.strongRecOn with
  | ind n ih =>
    intro hn
    by_cases h : n < 10
    · exact ⟨48 + n, [], TL.numL_lt h, by omega⟩
    · obtain ⟨c, x, e, hc⟩ := ih (n / 10) (by omega) (by omega)
      exact ⟨c, x ++ [48 + n % 10], by rw [TL.numL_step (by omega), e]; rfl, hc⟩
theorem numL_zero : TL.numL 0 = [48] := TL.numL_lt (by decide)
end K04

/-! T30 -/
set_option Elab.async false
set_option linter.all false
set_option maxRecDepth 100000
set_option maxHeartbeats 4000000
namespace K04
open PySem PD L2 FR
/-! T30: a minus ahead -/
theorem sgs_neg {n : Nat} (h : 0 < n) : sgs (-(n : Int)) = 45 :: TL.numL n := by
  obtain ⟨k, rfl⟩ : ∃ k, n = k + 1 := ⟨n - 1, by omega⟩
  have e1 : toString (-(((k + 1 : Nat) : Nat) : Int)) = "-" ++ toString (k + 1) := rfl
  have e2 : toString (((k + 1 : Nat) : Nat) : Int) = toString (k + 1) := rfl
  have e3 := sgs_nat (k + 1)
  unfold sgs at e3 ⊢
  rw [e2] at e3
  rw [e1, ← e3]
  rw [Str.ofString_eq_toList, Str.ofString_eq_toList]
  simp
end K04

/-! T31 -/
set_option Elab.async false
set_option linter.all false
set_option maxRecDepth 100000
set_option maxHeartbeats 4000000
namespace K04
open PySem PD L2 FR
/-! T31: numbers that can be written -/
theorem numL_len60 {n : Nat} (h : n < 2 ^ 200) : (TL.numL n).length ≤ 100 := TL.numL_len (by decide) (Nat.lt_of_lt_of_le h (by decide +kernel))
theorem sgs_len {i : Int} (h : i.natAbs < 2 ^ 200) : (sgs i).length ≤ 101 := by
  by_cases h0 : 0 ≤ i
  · have e : i = (i.natAbs : Int) := by omega
    rw [e, sgs_nat]
    have := numL_len60 h
    omega
  · have e : i = -(i.natAbs : Int) := by omega
    rw [e, sgs_neg (by omega), List.length_cons]
    have := numL_len60 h
    omega
theorem log_lt {n : Nat} (h : n < 2 ^ 200) : n.log2 < 1920 := by
  by_cases h0 : n = 0
  · subst h0; decide
  · have := (Nat.log2_lt h0).mpr h
    omega
theorem wr_of {v : Int × Int} (h1 : v.1.natAbs < 2 ^ 200) (h2 : v.2.natAbs < 2 ^ 200) : Wr v := by
  have a := sgs_len h1
  have b := sgs_len h2
  exact ⟨log_lt h1, log_lt h2, by omega, by omega⟩
end K04

/-! T32 -/
set_option Elab.async false
set_option linter.all false
set_option maxRecDepth 100000
set_option maxHeartbeats 4000000
namespace K04
open PySem PD L2 FR
/-! T32: a whole number read back -/
theorem get_app {pre l : List Nat} : (pre ++ l)[pre.length]? = l[0]? := by
  rw [List.getElem?_append_right (Nat.le_refl _), Nat.sub_self]
theorem scan_pos {n : Nat} {pre rest : List Nat} (h : 0 < n) (hb : n < 2 ^ 200) (hr : NoF rest) (h47 : rest[0]? ≠ some 47) : scanS (pre ++ (TL.numL n ++ rest)) pre.length = .told ((n : Int), 1) (pre.length + (TL.numL n).length) := by
  obtain ⟨c, x, e, hc⟩ := numL_head n h
  have fg := numL_fig n
  have g0 : (pre ++ (TL.numL n ++ rest))[pre.length]? = some c := by rw [get_app, e]; rfl
  have cf : isF c = true := fg c (by rw [e]; exact List.mem_cons_self)
  have c45 : c ≠ 45 := fun z => by rw [z] at cf; exact absurd cf (by decide)
  have hf : K04.fst (pre ++ (TL.numL n ++ rest)) pre.length = pre.length := by
    unfold K04.fst
    rw [g0, if_neg (by simpa using c45)]
  have fp : figP (pre ++ (TL.numL n ++ rest)) pre.length = true := by unfold figP; rw [g0]; exact cf
  have dg := digs_app (pre := pre) fg hr
  have rn := run_app (pre := pre) fg hr
  have len := numL_len60 hb
  have g1 : (pre ++ (TL.numL n ++ rest))[pre.length + (TL.numL n).length]? ≠ some 47 := by
    rw [← List.append_assoc, List.getElem?_append_right (by rw [List.length_append]; exact Nat.le_refl _), List.length_append, Nat.sub_self]
    exact h47
  unfold scanS
  simp only [hf, rn, dg]
  rw [if_neg (by rw [fp]; decide), if_neg (by rw [g0]; simpa using hc), if_neg g1, if_neg (by omega), if_neg (by rw [g0]; simpa using c45), numL_val', Int.one_mul]
end K04

/-! T33 -/
set_option Elab.async false
set_option linter.all false
set_option maxRecDepth 100000
set_option maxHeartbeats 4000000
namespace K04
open PySem PD L2 FR
/-! T33: 0 and a number below 0 read back -/
theorem scan_nul {pre rest : List Nat} : scanS (pre ++ ([48] ++ rest)) pre.length = .told (0, 1) (pre.length + 1) := by
  have g0 : (pre ++ ([48] ++ rest))[pre.length]? = some 48 := by rw [get_app]; rfl
  have hf : K04.fst (pre ++ ([48] ++ rest)) pre.length = pre.length := by
    unfold K04.fst
    rw [g0, if_neg (by decide)]
  have fp : figP (pre ++ ([48] ++ rest)) pre.length = true := by unfold figP; rw [g0]; rfl
  unfold scanS
  simp only [hf]
  rw [if_neg (by rw [fp]; decide), if_pos g0, if_neg (by rw [g0]; decide)]
theorem scan_neg {n : Nat} {pre rest : List Nat} (h : 0 < n) (hb : n < 2 ^ 200) (hr : NoF rest) (h47 : rest[0]? ≠ some 47) : scanS (pre ++ (45 :: TL.numL n ++ rest)) pre.length = .told (-(n : Int), 1) (pre.length + 1 + (TL.numL n).length) := by
  obtain ⟨c, x, e, hc⟩ := numL_head n h
  have fg := numL_fig n
  have ea : pre ++ (45 :: TL.numL n ++ rest) = (pre ++ [45]) ++ (TL.numL n ++ rest) := by simp
  have lp : (pre ++ [45]).length = pre.length + 1 := by simp
  have gm : (pre ++ (45 :: TL.numL n ++ rest))[pre.length]? = some 45 := by rw [get_app]; rfl
  have hf : K04.fst (pre ++ (45 :: TL.numL n ++ rest)) pre.length = pre.length + 1 := by
    unfold K04.fst
    rw [if_pos gm]
  have g0 : (pre ++ (45 :: TL.numL n ++ rest))[pre.length + 1]? = some c := by rw [ea, ← lp, get_app, e]; rfl
  have cf : isF c = true := fg c (by rw [e]; exact List.mem_cons_self)
  have fp : figP (pre ++ (45 :: TL.numL n ++ rest)) (pre.length + 1) = true := by unfold figP; rw [g0]; exact cf
  have dg : digs (pre ++ (45 :: TL.numL n ++ rest)) (pre.length + 1) = TL.numL n := by rw [ea, ← lp]; exact digs_app fg hr
  have rn : runE (pre ++ (45 :: TL.numL n ++ rest)) (pre.length + 1) = pre.length + 1 + (TL.numL n).length := by rw [run_digs, dg]
  have len := numL_len60 hb
  have g1 : (pre ++ (45 :: TL.numL n ++ rest))[pre.length + 1 + (TL.numL n).length]? ≠ some 47 := by
    rw [ea, ← List.append_assoc, List.getElem?_append_right (by rw [List.length_append, lp]; exact Nat.le_refl _), List.length_append, lp, Nat.sub_self]
    exact h47
  unfold scanS
  simp only [hf, rn, dg]
  rw [if_neg (by rw [fp]; decide), if_neg (by rw [g0]; simpa using hc), if_neg g1, if_neg (by omega), if_pos gm, numL_val']
  congr 2
  omega
end K04

/-! T34 -/
set_option Elab.async false
set_option linter.all false
set_option maxRecDepth 100000
set_option maxHeartbeats 4000000
namespace K04
open PySem PD L2 FR
/-! T34: a quotient read back -/
/-- what stands behind a number -/
structure Stop (rest : List Nat) : Prop where
  f : NoF rest
  s : rest[0]? ≠ some 47
theorem head_ts {n : Nat} (h : 0 < n) {pre rest : List Nat} : figP (pre ++ (TL.numL n ++ rest)) pre.length = true ∧ (pre ++ (TL.numL n ++ rest))[pre.length]? ≠ some 48 ∧ (pre ++ (TL.numL n ++ rest))[pre.length]? ≠ some 45 := by
  obtain ⟨c, x, e, hc⟩ := numL_head n h
  have g0 : (pre ++ (TL.numL n ++ rest))[pre.length]? = some c := by rw [get_app, e]; rfl
  have cf : isF c = true := numL_fig n c (by rw [e]; exact List.mem_cons_self)
  have c45 : c ≠ 45 := fun z => by rw [z] at cf; exact absurd cf (by decide)
  exact ⟨by unfold figP; rw [g0]; exact cf, by rw [g0]; simpa using hc, by rw [g0]; simpa using c45⟩
theorem scan_quo {a pre2 rest : List Nat} {s p q : Nat} {sg : Int} (hp : 0 < p) (hq : 2 ≤ q) (hg : Nat.gcd p q = 1) (bp : p < 2 ^ 200) (bq : q < 2 ^ 200) (hr : Stop rest)
    (ha : a = pre2 ++ (TL.numL p ++ (47 :: (TL.numL q ++ rest)))) (hf : K04.fst a s = pre2.length) (hs : (if a[s]? = some 45 then (-1 : Int) else 1) = sg) :
    scanS a s = .told (sg * (p : Int), (q : Int)) (pre2.length + (TL.numL p).length + 1 + (TL.numL q).length) := by
  obtain ⟨h1, h2, _⟩ := head_ts (pre := pre2) (rest := 47 :: (TL.numL q ++ rest)) hp
  have nf : NoF (47 :: (TL.numL q ++ rest)) := fun c hc => by cases hc; rfl
  have dg := digs_app (pre := pre2) (numL_fig p) nf
  have rn := run_app (pre := pre2) (numL_fig p) nf
  rw [← ha] at h1 h2 dg rn
  have ea : a = (pre2 ++ TL.numL p ++ [47]) ++ (TL.numL q ++ rest) := by rw [ha]; simp
  have lp : (pre2 ++ TL.numL p ++ [47]).length = pre2.length + (TL.numL p).length + 1 := by simp; omega
  obtain ⟨k1, k2, _⟩ := head_ts (pre := pre2 ++ TL.numL p ++ [47]) (rest := rest) (show 0 < q by omega)
  have dg2 := digs_app (pre := pre2 ++ TL.numL p ++ [47]) (numL_fig q) hr.f
  have rn2 := run_app (pre := pre2 ++ TL.numL p ++ [47]) (numL_fig q) hr.f
  rw [← ea, lp] at k1 k2 dg2 rn2
  have g47 : a[pre2.length + (TL.numL p).length]? = some 47 := by
    rw [ha, ← List.append_assoc, List.getElem?_append_right (by rw [List.length_append]; exact Nat.le_refl _), List.length_append, Nat.sub_self]
    rfl
  have l1 := numL_len60 bp
  have l2 := numL_len60 bq
  unfold scanS
  simp only [hf, rn, dg, rn2, dg2, numL_val', hs]
  rw [if_neg (by rw [h1]; decide), if_neg h2, if_pos g47, if_neg (by rw [k1]; intro z; rcases z with z | z; exact absurd z (by decide); exact k2 z), if_neg (by omega), if_neg ?_]
  intro z
  rcases z with z | z
  · omega
  · exact z (by simpa using hg)
/-- a number in its one form -/
structure Lw (v : Int × Int) : Prop where
  d : 1 ≤ v.2
  g : Nat.gcd v.1.natAbs v.2.natAbs = 1
  n1 : v.1.natAbs < 2 ^ 200
  n2 : v.2.natAbs < 2 ^ 200
theorem scan_back {v : Int × Int} (h : Lw v) {pre rest : List Nat} (hr : Stop rest) : scanS (pre ++ (numW v ++ rest)) pre.length = .told v (pre.length + (numW v).length) := by
  obtain ⟨p, q⟩ := v
  obtain ⟨d, g, n1, n2⟩ := h
  simp only at d g n1 n2
  unfold numW
  simp only
  obtain ⟨q', rfl⟩ := Int.eq_ofNat_of_zero_le (show 0 ≤ q by omega)
  by_cases h1 : (q' : Int) = 1
  · rw [if_pos h1, h1]
    by_cases h0 : p = 0
    · subst h0
      have e : sgs 0 = [48] := by
        have := sgs_nat 0
        rw [numL_zero] at this
        exact this
      rw [e, scan_nul]
      rfl
    · by_cases hp : 0 < p
      · obtain ⟨p', rfl⟩ := Int.eq_ofNat_of_zero_le (Int.le_of_lt hp)
        rw [sgs_nat, scan_pos (by omega) (by simpa using n1) hr.f hr.s]
      · obtain ⟨p', rfl⟩ : ∃ p' : Nat, p = -(p' : Int) := ⟨p.natAbs, by omega⟩
        rw [sgs_neg (by omega), scan_neg (by omega) (by simpa using n1) hr.f hr.s, List.length_cons]
        congr 1
        omega
  · rw [if_neg h1]
    rw [sgs_nat q']
    have p0 : p ≠ 0 := fun z => by
      subst z
      simp at g
      omega
    by_cases hp : 0 < p
    · obtain ⟨p', rfl⟩ := Int.eq_ofNat_of_zero_le (Int.le_of_lt hp)
      rw [sgs_nat]
      have ea : pre ++ (TL.numL p' ++ [47] ++ TL.numL q' ++ rest) = pre ++ (TL.numL p' ++ (47 :: (TL.numL q' ++ rest))) := by simp
      rw [ea]
      obtain ⟨_, _, g45⟩ := head_ts (pre := pre) (rest := 47 :: (TL.numL q' ++ rest)) (show 0 < p' by omega)
      have r := scan_quo (a := pre ++ (TL.numL p' ++ (47 :: (TL.numL q' ++ rest)))) (pre2 := pre) (rest := rest) (s := pre.length) (p := p') (q := q') (sg := 1) (by omega) (by omega) (by simpa using g) (by simpa using n1) (by simpa using n2) hr rfl (by unfold K04.fst; rw [if_neg g45]) (by rw [if_neg g45])
      rw [r, Int.one_mul]
      congr 1
      simp
      omega
    · obtain ⟨p', rfl⟩ : ∃ p' : Nat, p = -(p' : Int) := ⟨p.natAbs, by omega⟩
      rw [sgs_neg (by omega)]
      have ea : pre ++ (45 :: TL.numL p' ++ [47] ++ TL.numL q' ++ rest) = (pre ++ [45]) ++ (TL.numL p' ++ (47 :: (TL.numL q' ++ rest))) := by simp
      have gm : (pre ++ (45 :: TL.numL p' ++ [47] ++ TL.numL q' ++ rest))[pre.length]? = some 45 := by simp
      have hf : K04.fst (pre ++ (45 :: TL.numL p' ++ [47] ++ TL.numL q' ++ rest)) pre.length = (pre ++ [45]).length := by
        unfold K04.fst
        rw [if_pos gm]
        simp
      have r := scan_quo (rest := rest) (p := p') (q := q') (sg := -1) (by omega) (by omega) (by simpa using g) (by simpa using n1) (by simpa using n2) hr ea hf (by rw [if_pos gm])
      rw [r]
      congr 1
      · congr 1
        omega
      · simp
        omega
end K04

/-! T35 -/
set_option Elab.async false
set_option linter.all false
set_option maxRecDepth 100000
set_option maxHeartbeats 4000000
namespace K04
open PySem PD L2 FR
/-! T35: rows read back -/
/-- the signs of rows, told apart by a sign -/
def joinN (c : Nat) : List (List Nat) → List Nat
  | [] => []
  | [x] => x
  | x :: y :: l => x ++ c :: joinN c (y :: l)
theorem sjoin_ts {S : Str} {c : Nat} (hS : S = TS [c]) : ∀ l : List (List Nat), Str.join S (l.map TS) = TS (joinN c l)
  | [] => rfl
  | [x] => rfl
  | x :: y :: l => by
    have e : Str.join S ((x :: y :: l).map TS) = TS x ++ S ++ Str.join S ((y :: l).map TS) := rfl
    rw [e, sjoin_ts hS (y :: l), hS, app_ts, app_ts]
    show TS (x ++ [c] ++ joinN c (y :: l)) = TS (x ++ c :: joinN c (y :: l))
    congr 1
    simp
theorem join_ts {S : Str} {c : Nat} (hS : S = TS [c]) (l : List (List Nat)) : Txt.join S (l.map TS) = TS (joinN c l) := by
  rw [TL.join_eq]
  exact sjoin_ts hS l
def rowN (vs : Row) : List Nat := joinN 44 (vs.map numW)
theorem rowW_ts (vs : Row) : rowW vs = TS (rowN vs) := by
  unfold rowW rowN
  rw [← join_ts sCo, List.map_map]
  rfl
theorem joinN_len {c B : Nat} : ∀ l : List (List Nat), (∀ x ∈ l, x.length ≤ B) → (joinN c l).length ≤ (B + 1) * l.length
  | [], _ => by simp [joinN]
  | [x], h => by
    have := h x List.mem_cons_self
    show x.length ≤ _
    simp
    omega
  | x :: y :: l, h => by
    have h1 := h x List.mem_cons_self
    have h2 := joinN_len (c := c) (y :: l) fun u hu => h u (List.mem_cons_of_mem _ hu)
    have e : (joinN c (x :: y :: l)).length = x.length + ((joinN c (y :: l)).length + 1) := by
      show (x ++ c :: joinN c (y :: l)).length = _
      rw [List.length_append, List.length_cons]
    rw [e, List.length_cons (a := x), Nat.mul_succ]
    omega
theorem len_joinN {c : Nat} : ∀ l : List (List Nat), (∀ x ∈ l, 1 ≤ x.length) → l.length ≤ (joinN c l).length
  | [], _ => by simp
  | [x], h => by
    have := h x List.mem_cons_self
    show _ ≤ x.length
    simpa using this
  | x :: y :: l, h => by
    have h1 := h x List.mem_cons_self
    have h2 := len_joinN (c := c) (y :: l) fun u hu => h u (List.mem_cons_of_mem _ hu)
    have e : (joinN c (x :: y :: l)).length = x.length + ((joinN c (y :: l)).length + 1) := by
      show (x ++ c :: joinN c (y :: l)).length = _
      rw [List.length_append, List.length_cons]
    rw [e, List.length_cons (a := x)]
    omega
theorem sgs_pos {i : Int} : 1 ≤ (sgs i).length := by
  have : ∀ n : Nat, 1 ≤ (TL.numL n).length := fun n => by
    by_cases h : n = 0
    · subst h; rw [numL_zero]; decide
    · obtain ⟨c, x, e, _⟩ := numL_head n (by omega)
      rw [e]; simp
  by_cases h0 : 0 ≤ i
  · have e : i = (i.natAbs : Int) := by omega
    rw [e, sgs_nat]
    exact this _
  · have e : i = -(i.natAbs : Int) := by omega
    rw [e, sgs_neg (by omega)]
    simp
theorem numW_pos {v : Int × Int} : 1 ≤ (numW v).length := by
  unfold numW
  have := sgs_pos (i := v.1)
  split
  · exact this
  · simp; omega
theorem wr_lw {v : Int × Int} (h : Lw v) : Wr v := wr_of h.n1 h.n2
theorem numW_le {v : Int × Int} (h : Lw v) : (numW v).length ≤ 203 := by
  have h1 := sgs_len h.n1
  have h2 := sgs_len h.n2
  unfold numW
  split
  · omega
  · simp; omega
theorem rowN_len {vs : Row} (h : ∀ v ∈ vs, Lw v) : (rowN vs).length ≤ 204 * vs.length := by
  have := joinN_len (c := 44) (B := 203) (vs.map numW) fun x hx => by
    obtain ⟨v, hv, rfl⟩ := List.mem_map.mp hx
    exact numW_le (h v hv)
  rw [List.length_map] at this
  exact this
theorem len_rowN (vs : Row) : vs.length ≤ (rowN vs).length := by
  have := len_joinN (c := 44) (vs.map numW) fun x hx => by
    obtain ⟨v, hv, rfl⟩ := List.mem_map.mp hx
    exact numW_pos
  rw [List.length_map] at this
  exact this
theorem stop_com (rest : List Nat) : Stop (44 :: rest) := by
  refine ⟨fun c hc => ?_, by simp⟩
  cases hc
  rfl
theorem stop_sem (rest : List Nat) : Stop (59 :: rest) := by
  refine ⟨fun c hc => ?_, by simp⟩
  cases hc
  rfl
theorem stop_nil : Stop [] := by
  refine ⟨fun c hc => ?_, by simp⟩
  cases hc
theorem get_app2 {pre x l : List Nat} : (pre ++ (x ++ l))[pre.length + x.length]? = l[0]? := by
  rw [← List.append_assoc, List.getElem?_append_right (by rw [List.length_append]; exact Nat.le_refl _), List.length_append, Nat.sub_self]
theorem nums_back : ∀ (vs : Row) (n : Nat), (∀ v ∈ vs, Lw v) → vs ≠ [] → vs.length ≤ n → ∀ {pre rest : List Nat}, Stop rest → rest[0]? ≠ some 44 → numsS (pre ++ (rowN vs ++ rest)) n pre.length = .told vs (pre.length + (rowN vs).length)
  | [], _, _, h, _, _, _, _, _ => absurd rfl h
  | [v], n, hv, _, hn, pre, rest, hr, h44 => by
    obtain ⟨m, rfl⟩ : ∃ m, n = m + 1 := ⟨n - 1, by simp at hn; omega⟩
    have e : rowN [v] = numW v := rfl
    rw [e, nums_cont (scan_back (hv v List.mem_cons_self) hr)]
    unfold contS
    rw [get_app2, if_neg h44]
    rfl
  | v :: u :: vs, n, hv, _, hn, pre, rest, hr, h44 => by
    obtain ⟨m, rfl⟩ : ∃ m, n = m + 1 := ⟨n - 1, by simp at hn; omega⟩
    have e : rowN (v :: u :: vs) = numW v ++ 44 :: rowN (u :: vs) := rfl
    have ea : pre ++ (rowN (v :: u :: vs) ++ rest) = pre ++ (numW v ++ (44 :: (rowN (u :: vs) ++ rest))) := by rw [e]; simp
    rw [ea, nums_cont (scan_back (hv v List.mem_cons_self) (stop_com _))]
    unfold contS
    rw [get_app2, if_pos (by rfl)]
    have lp : pre.length + (numW v).length + 1 = (pre ++ (numW v ++ [44])).length := by simp; omega
    have ea2 : pre ++ (numW v ++ (44 :: (rowN (u :: vs) ++ rest))) = (pre ++ (numW v ++ [44])) ++ (rowN (u :: vs) ++ rest) := by simp
    rw [ea2, lp, nums_back (u :: vs) m (fun w hw => hv w (List.mem_cons_of_mem _ hw)) (by simp) (by simp at hn ⊢; omega) hr h44]
    show Out.told _ _ = Out.told _ _
    congr 1
    rw [e]
    simp
    omega
end K04

/-! T36 -/
set_option Elab.async false
set_option linter.all false
set_option maxRecDepth 100000
set_option maxHeartbeats 4000000
namespace K04
open PySem PD L2 FR
/-! T36: numbers, polys and matrices read back whole -/
theorem read0 {v : Int × Int} (h : Lw v) : readS 0 (numW v) = .told (pr v) (numW v).length := by
  have s := scan_back h (pre := []) (rest := []) stop_nil
  rw [List.nil_append, List.append_nil] at s
  show endO _ ((scanS (numW v) 0).mp pr) = _
  have s' : scanS (numW v) 0 = .told v (numW v).length := by
    have := s
    simpa using this
  rw [s']
  show (if (numW v).length < (numW v).length then _ else _) = _
  rw [if_neg (by omega)]
theorem nums_whole {vs : Row} (hv : ∀ v ∈ vs, Lw v) (h : vs ≠ []) : numsS (rowN vs) ((rowN vs).length + 1) 0 = .told vs (rowN vs).length := by
  have l := len_rowN vs
  have s := nums_back vs ((rowN vs).length + 1) hv h (by omega) (pre := []) (rest := []) stop_nil (by simp)
  simpa using s
theorem read1 {vs : Row} (hv : ∀ v ∈ vs, Lw v) (h : vs ≠ []) (hl : vs.length ≤ 41) (hz : (lastV vs).1 ≠ 0) : readS 1 (rowN vs) = .told (prs vs) (rowN vs).length := by
  have lp : 0 < vs.length := List.length_pos_iff.mpr h
  show endO _ ((polyS (rowN vs)).mp prs) = _
  have s : polyS (rowN vs) = .told vs (rowN vs).length := by
    unfold polyS
    rw [nums_whole hv h]
    simp only
    rw [if_neg (fun z => hz z.2), if_neg (by omega), trim_id lp hz]
  rw [s]
  show (if (rowN vs).length < (rowN vs).length then _ else _) = _
  rw [if_neg (by omega)]
theorem read1_nil : readS 1 [48] = .told (prs []) 1 := by
  have s := nums_whole (vs := [(0, 1)]) (by simp; exact ⟨by decide, by decide, by decide +kernel, by decide +kernel⟩) (by simp)
  have e : rowN [(0, 1)] = [48] := by
    show sgs 0 = _
    have := sgs_nat 0
    rw [numL_zero] at this
    exact this
  rw [e] at s
  have p : polyS [48] = .told [] 1 := by
    unfold polyS
    have s' : numsS [48] ([48].length + 1) 0 = .told [(0, 1)] 1 := s
    rw [s']
    rfl
  show endO _ ((polyS [48]).mp prs) = _
  rw [p]
  rfl
def matN (rs : List Row) : List Nat := joinN 59 (rs.map rowN)
theorem matW_ts (rs : List Row) : matW rs = TS (matN rs) := by
  unfold matW matN
  rw [← join_ts sSe, List.map_map]
  congr 1
  exact List.map_congr_left fun vs _ => rowW_ts vs
theorem more_back {size : Nat} (hs : 0 < size) : ∀ (rs : List Row) (n : Nat) (got : List Row), (∀ vs ∈ rs, vs.length = size ∧ ∀ v ∈ vs, Lw v) → rs ≠ [] → rs.length ≤ n → got.length + rs.length ≤ size → ∀ {pre : List Nat}, (∃ a, a = pre ++ 59 :: matN rs ∧ moreS a n size got pre.length = .told (got ++ rs) a.length)
  | [], _, _, _, h, _, _, _ => absurd rfl h
  | [vs], n, got, hr, _, hn, hg, pre => by
    obtain ⟨m, rfl⟩ : ∃ m, n = m + 1 := ⟨n - 1, by simp at hn; omega⟩
    refine ⟨_, rfl, ?_⟩
    have e : matN [vs] = rowN vs := rfl
    rw [e]
    obtain ⟨hl, hv⟩ := hr vs List.mem_cons_self
    have hne : vs ≠ [] := fun z => by subst z; simp at hl; omega
    have len := len_rowN vs
    have b := nums_back vs ((pre ++ 59 :: rowN vs).length + 1) hv hne (by simp; omega) (pre := pre ++ [59]) (rest := []) stop_nil (by simp)
    have ea : (pre ++ [59]) ++ (rowN vs ++ []) = pre ++ 59 :: rowN vs := by simp
    have lp : (pre ++ [59]).length = pre.length + 1 := by simp
    rw [ea, lp] at b
    show (if (pre ++ 59 :: rowN vs)[pre.length]? = some 59 then _ else _) = _
    rw [if_pos (by simp), if_neg (by simp at hg; omega), b]
    simp only
    rw [if_neg (by rw [hl]; simp), more_idle]
    · congr 1
      simp
      omega
    · rw [List.getElem?_eq_none (by simp; omega)]
      simp
  | vs :: us :: rs, n, got, hr, _, hn, hg, pre => by
    obtain ⟨m, rfl⟩ : ∃ m, n = m + 1 := ⟨n - 1, by simp at hn; omega⟩
    refine ⟨_, rfl, ?_⟩
    have e : matN (vs :: us :: rs) = rowN vs ++ 59 :: matN (us :: rs) := rfl
    rw [e]
    obtain ⟨hl, hv⟩ := hr vs List.mem_cons_self
    have hne : vs ≠ [] := fun z => by subst z; simp at hl; omega
    have len := len_rowN vs
    have b := nums_back vs ((pre ++ 59 :: (rowN vs ++ 59 :: matN (us :: rs))).length + 1) hv hne (by simp; omega) (pre := pre ++ [59]) (rest := 59 :: matN (us :: rs)) (stop_sem _) (by simp)
    have ea : (pre ++ [59]) ++ (rowN vs ++ 59 :: matN (us :: rs)) = pre ++ 59 :: (rowN vs ++ 59 :: matN (us :: rs)) := by simp
    have lp : (pre ++ [59]).length = pre.length + 1 := by simp
    rw [ea, lp] at b
    obtain ⟨a2, ha2, hm⟩ := more_back hs (us :: rs) m (got ++ [vs]) (fun w hw => hr w (List.mem_cons_of_mem _ hw)) (by simp) (by simp at hn ⊢; omega) (by simp at hg ⊢; omega) (pre := pre ++ 59 :: rowN vs)
    have ea3 : a2 = pre ++ 59 :: (rowN vs ++ 59 :: matN (us :: rs)) := by rw [ha2]; simp
    have lp3 : (pre ++ 59 :: rowN vs).length = pre.length + 1 + (rowN vs).length := by simp; omega
    rw [ea3, lp3] at hm
    show (if (pre ++ 59 :: (rowN vs ++ 59 :: matN (us :: rs)))[pre.length]? = some 59 then _ else _) = _
    rw [if_pos (by simp), if_neg (by simp at hg; omega), b]
    simp only
    rw [if_neg (by rw [hl]; simp), hm]
    congr 1
    simp
theorem read2 {rs : List Row} {size : Nat} (hs : 0 < size) (h30 : size ≤ 30) (hl : rs.length = size) (hr : ∀ vs ∈ rs, vs.length = size ∧ ∀ v ∈ vs, Lw v) : readS 2 (matN rs) = .told (.tup (rs.map prs)) (matN rs).length := by
  show endO _ ((matS (matN rs)).mp fun r => .tup (r.map prs)) = _
  have s : matS (matN rs) = .told rs (matN rs).length := by
    match rs, hl, hr with
    | [], hl, _ => simp at hl; omega
    | [vs], hl, hr =>
      obtain ⟨hv1, hv⟩ := hr vs List.mem_cons_self
      have hne : vs ≠ [] := fun z => by subst z; simp at hv1; omega
      have e : matN [vs] = rowN vs := rfl
      unfold matS
      rw [e, nums_whole hv hne]
      simp only
      rw [more_idle (by rw [List.getElem?_eq_none (Nat.le_refl _)]; simp), hv1]
      unfold finM
      simp only
      rw [if_neg (by omega), if_neg (by omega)]
    | vs :: us :: rs, hl, hr =>
      obtain ⟨hv1, hv⟩ := hr vs List.mem_cons_self
      have hne : vs ≠ [] := fun z => by subst z; simp at hv1; omega
      have e : matN (vs :: us :: rs) = rowN vs ++ 59 :: matN (us :: rs) := rfl
      have len := len_rowN vs
      obtain ⟨a2, ha2, hm⟩ := more_back hs (us :: rs) (matN (vs :: us :: rs)).length [vs] (fun w hw => hr w (List.mem_cons_of_mem _ hw)) (by simp) (by
        rw [e]
        have : (us :: rs).length ≤ (matN (us :: rs)).length := by
          have := len_joinN (c := 59) ((us :: rs).map rowN) fun x hx => by
            obtain ⟨w, hw, rfl⟩ := List.mem_map.mp hx
            have h1 := (hr w (List.mem_cons_of_mem _ hw)).1
            have h2 := len_rowN w
            omega
          rw [List.length_map] at this
          exact this
        simp only [List.length_append, List.length_cons] at this ⊢
        omega) (by simp at hl ⊢; omega) (pre := rowN vs)
      rw [← e] at ha2
      rw [ha2] at hm
      have b := nums_back vs ((matN (vs :: us :: rs)).length + 1) hv hne (by rw [e]; simp; omega) (pre := []) (rest := 59 :: matN (us :: rs)) (stop_sem _) (by simp)
      rw [List.nil_append, ← e, List.length_nil, Nat.zero_add] at b
      unfold matS
      rw [b]
      simp only
      rw [hv1, hm]
      unfold finM
      simp only
      rw [if_neg (by simp at hl ⊢; omega), if_neg (by omega)]
      rfl
  rw [s]
  show (if (matN rs).length < (matN rs).length then _ else _) = _
  rw [if_neg (by omega)]
end K04

/-! T37 -/
set_option Elab.async false
set_option linter.all false
set_option maxRecDepth 100000
set_option maxHeartbeats 8000000
namespace K04
open PySem PD L2 FR
/-! T37: told texts read -/
theorem law_read_str {s : Str} (h : s.length ≤ 100000) {door : Nat} (hd : door ≤ 2) : f_law_read [.fz (.int (door : Int)), .fz (.str s)] = .ok (.bl true) [] := by
  rw [ts_of s] at h ⊢
  exact law_read_ok (by rw [ts_len] at h; exact h) hd
theorem str_app_len (x y : Str) : (x ++ y).length = x.length + y.length := by
  rw [ts_of x, ts_of y, app_ts]
  simp
theorem cat_str (x y : Str) (h : x.length + y.length ≤ 100000) : ∃ z : Str, z.length = x.length + y.length ∧ bopS .add (.str x) (.str y) = .d (.str z) := ⟨x ++ y, str_app_len x y, if_pos (by have : LIM = 16777216 := rfl; omega)⟩
theorem bopS_muls {x : Str} {j : Int} (h : 2 ≤ j ∧ j ≤ 100000 ∧ 1 ≤ x.length ∧ x.length * j.toNat ≤ 100000) : bopS .mul (.str x) (.int j) = .d (.str ⟨(List.replicate j.toNat x.cps).foldl (· ++ ·) #[]⟩) := if_pos h
theorem nines : ∃ N : Str, N.length = 400 ∧ bopS .mul (.str "9") (.int 400) = .d (.str N) := ⟨_, by decide +kernel, bopS_muls (x := "9") (j := 400) (by decide +kernel)⟩
theorem manys : ∃ N : Str, N.length = 80 ∧ bopS .mul (.str "1,") (.int 40) = .d (.str N) := ⟨_, by decide +kernel, bopS_muls (x := "1,") (j := 40) (by decide +kernel)⟩
def IsT (B : Nat) (d : D) : Prop := ∃ s : Str, s.length ≤ B ∧ d = .str s
theorem isi_five (ex : Str → Str → Option Bool) : isiS ex (.int 5) [.ty "str"] = some false := isi_is
theorem law_edges_ok : f_law_edges [] = .ok (.bl true) [] := by
  have rd := fun (s : Str) (h : s.length ≤ 100000) => law_read_str (s := s) h (door := 0) (by decide)
  have rd1 := fun (s : Str) (h : s.length ≤ 100000) => law_read_str (s := s) h (door := 1) (by decide)
  have rd2 := fun (s : Str) (h : s.length ≤ 100000) => law_read_str (s := s) h (door := 2) (by decide)
  simp only [show ((0 : Nat) : Int) = 0 from rfl, show ((1 : Nat) : Int) = 1 from rfl, show ((2 : Nat) : Int) = 2 from rfl] at rd rd1 rd2
  have lim : LIM = 16777216 := rfl
  obtain ⟨N, hN, eN⟩ := nines
  obtain ⟨M, hM, eM⟩ := manys
  have l1 : (Str.ofString "-").length = 1 := by decide +kernel
  have l2 : (Str.ofString "9").length = 1 := by decide +kernel
  have l3 : (Str.ofString "9x").length = 2 := by decide +kernel
  have l4 : (Str.ofString "1/").length = 2 := by decide +kernel
  have l5 : (Str.ofString "2/").length = 2 := by decide +kernel
  have l6 : (Str.ofString "9/").length = 2 := by decide +kernel
  have l7 : (Str.ofString "1").length = 1 := by decide +kernel
  have l8 : (Str.ofString "1,1").length = 3 := by decide +kernel
  have l9 : (Str.ofString "1,0").length = 3 := by decide +kernel
  have l10 : (Str.ofString "1,1;").length = 4 := by decide +kernel
  have l11 : (Str.ofString "1,").length = 2 := by decide +kernel
  obtain ⟨a1, h1, e1⟩ := cat_str (Str.ofString "-") N (by omega)
  obtain ⟨a2, h2, e2⟩ := cat_str N (Str.ofString "9") (by omega)
  obtain ⟨a3, h3, e3⟩ := cat_str N (Str.ofString "9x") (by omega)
  obtain ⟨a4, h4, e4⟩ := cat_str (Str.ofString "1/") N (by omega)
  obtain ⟨a5, h5, e5⟩ := cat_str a4 (Str.ofString "9") (by omega)
  obtain ⟨a6, h6, e6⟩ := cat_str (Str.ofString "2/") N (by omega)
  obtain ⟨a7, h7, e7⟩ := cat_str a6 (Str.ofString "9/") (by omega)
  obtain ⟨m1, g1, f1⟩ := cat_str M (Str.ofString "1") (by omega)
  obtain ⟨m2, g2, f2⟩ := cat_str M (Str.ofString "1,1") (by omega)
  obtain ⟨m3, g3, f3⟩ := cat_str M (Str.ofString "1,0") (by omega)
  obtain ⟨m4, g4, f4⟩ := cat_str M (Str.ofString "1,1;") (by omega)
  have r1 := rd1 m1 (by omega)
  have r2 := rd1 m2 (by omega)
  have r3 := rd1 m3 (by omega)
  have r4 := rd1 m4 (by omega)
  have r5 := rd2 m1 (by omega)
  rw [show f_law_edges = runDef (md.gam g_law_edges) ⟨4, b_law_edges⟩ from rfl, runDef_eq]
  simp only [b_law_edges, contsOf, slotsOf]
  obtain ⟨G, hG⟩ : ∃ G : Gam, G = { md.gam g_law_edges with io := ([] : List Cont).length } := ⟨_, rfl⟩
  have fns : G.fns = g_law_edges := by rw [hG]; rfl
  have io : G.io = 0 := by rw [hG]; rfl
  have con : G.con = md.con.map (·.2) := by rw [hG]; rfl
  have exq : G.exm = exmL md.exm := by rw [hG]; rfl
  have gq : g_law_edges = g_law_edges := rfl
  rw [← hG]
  -- the loops
  have loop0 : ∀ (ds : List D) (A : Option Val) (o c d : Option Val), (∀ x ∈ ds, IsT 1000 x) → ∃ o', forLoop (.tup ds) (fBody G (.nm 1) lp0_law_edges) ds.length 0 [A, o, c, d] [] = .nx [A, o', c, d] [] := fun ds A o c d hds => by
    obtain ⟨ρ', st', e, o', rfl, rfl⟩ := for_all (I := .tup ds) (body := fBody G (.nm 1) lp0_law_edges) (n := ds.length) (fun i ρ st => ∃ o, ρ = [A, o, c, d] ∧ st = []) (fun i ρ st _ _ => rfl)
      (fun i ρ st hi ⟨o, e1, e2⟩ => by
        subst e1 e2
        obtain ⟨s, hs, e⟩ := hds ds[i] (List.getElem_mem hi)
        obtain ⟨z, hz, ez⟩ := cat_str (Str.ofString "1,") s (by omega)
        refine ⟨.str s, by simp [hi, e], [A, some (.fz (.str s)), c, d], [], .inl ?_, _, rfl, rfl⟩
        simp only [fBody_nm, lp0_law_edges]
        simp [fns, g_law_edges, io, rd s (by omega), rd2 s (by omega), rd1 z (by omega), ez]) ds.length 0 _ [] (by omega) ⟨o, rfl, rfl⟩
    exact ⟨o', e⟩
  have loop1 : ∀ (ds : List D) (A : Option Val) (o c d : Option Val), (∀ x ∈ ds, IsT 1000 x) → ∃ o', forLoop (.tup ds) (fBody G (.nm 1) lp1_law_edges) ds.length 0 [A, o, c, d] [] = .nx [A, o', c, d] [] := fun ds A o c d hds => by
    obtain ⟨ρ', st', e, o', rfl, rfl⟩ := for_all (I := .tup ds) (body := fBody G (.nm 1) lp1_law_edges) (n := ds.length) (fun i ρ st => ∃ o, ρ = [A, o, c, d] ∧ st = []) (fun i ρ st _ _ => rfl)
      (fun i ρ st hi ⟨o, e1, e2⟩ => by
        subst e1 e2
        obtain ⟨s, hs, e⟩ := hds ds[i] (List.getElem_mem hi)
        refine ⟨.str s, by simp [hi, e], [A, some (.fz (.str s)), c, d], [], .inl ?_, _, rfl, rfl⟩
        simp only [fBody_nm, lp1_law_edges]
        simp [fns, g_law_edges, io, rd s (by omega), rd2 s (by omega), rd1 s (by omega)]) ds.length 0 _ [] (by omega) ⟨o, rfl, rfl⟩
    exact ⟨o', e⟩
  have loop2 : ∀ (ds : List D) (A : Option Val) (o c d : Option Val), (∀ x ∈ ds, IsT 1000 x) → ∃ o', forLoop (.tup ds) (fBody G (.nm 1) lp2_law_edges) ds.length 0 [A, o, c, d] [] = .nx [A, o', c, d] [] := fun ds A o c d hds => by
    obtain ⟨ρ', st', e, o', rfl, rfl⟩ := for_all (I := .tup ds) (body := fBody G (.nm 1) lp2_law_edges) (n := ds.length) (fun i ρ st => ∃ o, ρ = [A, o, c, d] ∧ st = []) (fun i ρ st _ _ => rfl)
      (fun i ρ st hi ⟨o, e1, e2⟩ => by
        subst e1 e2
        obtain ⟨s, hs, e⟩ := hds ds[i] (List.getElem_mem hi)
        refine ⟨.str s, by simp [hi, e], [A, some (.fz (.str s)), c, d], [], .inl ?_, _, rfl, rfl⟩
        simp only [fBody_nm, lp2_law_edges]
        simp [fns, g_law_edges, io, rd2 s (by omega), rd1 s (by omega)]) ds.length 0 _ [] (by omega) ⟨o, rfl, rfl⟩
    exact ⟨o', e⟩
  have loop3 : ∀ (ds : List D) (A : Option Val) (o c d : Option Val) (st0 : Store), (∀ x ∈ ds, ∀ ex : Str → Str → Option Bool, isiS ex x [.ty "str"] = some false) → ∃ d', forLoop (.tup ds) (fBody G (.nm 3) lp3_law_edges) ds.length 0 [A, o, c, d] st0 = .nx [A, o, c, d'] st0 := fun ds A o c d st0 hds => by
    obtain ⟨ρ', st', e, o', rfl, rfl⟩ := for_all (I := .tup ds) (body := fBody G (.nm 3) lp3_law_edges) (n := ds.length) (fun i ρ st => ∃ d, ρ = [A, o, c, d] ∧ st = st0) (fun i ρ st _ _ => rfl)
      (fun i ρ st hi ⟨o, e1, e2⟩ => by
        subst e1 e2
        have hn := hds ds[i] (List.getElem_mem hi)
        obtain ⟨x, hx⟩ : ∃ x, x = ds[i] := ⟨_, rfl⟩
        rw [← hx] at hn
        have n0 := law_read_no hn (door := 0) (by decide)
        have n1 := law_read_no hn (door := 1) (by decide)
        have n2 := law_read_no hn (door := 2) (by decide)
        simp only [show ((0 : Nat) : Int) = 0 from rfl, show ((1 : Nat) : Int) = 1 from rfl, show ((2 : Nat) : Int) = 2 from rfl] at n0 n1 n2
        refine ⟨x, by simp [hi, hx], _, _, .inl ?_, some (.fz x), rfl, rfl⟩
        simp only [fBody_nm, lp3_law_edges]
        simp [fns, g_law_edges, io, n0, n1, n2]) ds.length 0 _ st0 (by omega) ⟨d, rfl, rfl⟩
    exact ⟨o', e⟩
  obtain ⟨T0, hT0⟩ : ∃ T : List D, T = [.str N, .str a1, .str a2, .str a3, .str a4, .str a5, .str a7, .str "-"] := ⟨_, rfl⟩
  obtain ⟨T1, hT1⟩ : ∃ T : List D, T = [.str "", .str "-0", .str "00", .str "0/3", .str "3/01", .str "2/4", .str "2/4x", .str "3/1", .str "-3/", .str "7/", .str "0", .str "-4/3", .str "1,0", .str "0,0", .str "1,,2", .str ",1"] := ⟨_, rfl⟩
  obtain ⟨T2, hT2⟩ : ∃ T : List D, T = [.str "1;2", .str "1,2;3,4", .str "1,2;3,4;5,6", .str "1,2;3", .str "1,2;3,4,5", .str "1,2", .str "0;", .str "1,0;0,1x", .str "1,0;2/4", .str ";1"] := ⟨_, rfl⟩
  obtain ⟨T3, hT3⟩ : ∃ T : List D, T = [.non, .int 5, .lst [.str "1"], .tup [.str "1"], .bl true] := ⟨_, rfl⟩
  have t0 : ∀ st, kTup2 [.str N, .str a1, .str a2, .str a3, .str a4, .str a5, .str a7, .str "-"] st = .ok (.fz (.tup T0)) st := fun st => by rw [kTup2_eq (by unfold LIM; simp), ← hT0]
  have t1 : ∀ st, kTup2 [.str "", .str "-0", .str "00", .str "0/3", .str "3/01", .str "2/4", .str "2/4x", .str "3/1", .str "-3/", .str "7/", .str "0", .str "-4/3", .str "1,0", .str "0,0", .str "1,,2", .str ",1"] st = .ok (.fz (.tup T1)) st := fun st => by rw [kTup2_eq (by unfold LIM; simp), ← hT1]
  have t2 : ∀ st, kTup2 [.str "1;2", .str "1,2;3,4", .str "1,2;3,4;5,6", .str "1,2;3", .str "1,2;3,4,5", .str "1,2", .str "0;", .str "1,0;0,1x", .str "1,0;2/4", .str ";1"] st = .ok (.fz (.tup T2)) st := fun st => by rw [kTup2_eq (by unfold LIM; simp), ← hT2]
  have t3 : ∀ st, kTup2 [.non, .int 5, .lst [.str "1"], .tup [.str "1"], .bl true] st = .ok (.fz (.tup T3)) st := fun st => by rw [kTup2_eq (by unfold LIM; simp), ← hT3]
  have c0 : ∀ x ∈ T0, IsT 1000 x := by
    rw [hT0]
    simp only [List.mem_cons, List.not_mem_nil, or_false]
    rintro x (rfl | rfl | rfl | rfl | rfl | rfl | rfl | rfl)
    all_goals exact ⟨_, by omega, rfl⟩
  have c1 : ∀ x ∈ T1, IsT 1000 x := by
    rw [hT1]
    simp only [List.mem_cons, List.not_mem_nil, or_false]
    rintro x (rfl | rfl | rfl | rfl | rfl | rfl | rfl | rfl | rfl | rfl | rfl | rfl | rfl | rfl | rfl | rfl)
    all_goals exact ⟨_, by decide +kernel, rfl⟩
  have c2 : ∀ x ∈ T2, IsT 1000 x := by
    rw [hT2]
    simp only [List.mem_cons, List.not_mem_nil, or_false]
    rintro x (rfl | rfl | rfl | rfl | rfl | rfl | rfl | rfl | rfl | rfl)
    all_goals exact ⟨_, by decide +kernel, rfl⟩
  have c3 : ∀ x ∈ T3, ∀ ex : Str → Str → Option Bool, isiS ex x [.ty "str"] = some false := by
    rw [hT3]
    simp only [List.mem_cons, List.not_mem_nil, or_false]
    rintro x (rfl | rfl | rfl | rfl | rfl) ex
    · exact isi_ns
    · exact isi_is
    · exact isi_ls
    · exact isi_ts
    · exact isi_bs
  obtain ⟨o1, q1⟩ := loop0 T0 (some (.fz (.str N))) none none none c0
  obtain ⟨o2, q2⟩ := loop1 T1 (some (.fz (.str N))) o1 none none c1
  obtain ⟨o3, q3⟩ := loop2 T2 (some (.fz (.str N))) o2 none none c2
  obtain ⟨o4, q4⟩ := loop3 T3 (some (.fz (.str N))) o3 (some (.fz (.str M))) none [.fz (.lst [.str "1"])] c3
  simp [fns, g_law_edges, io, eN, eM, e1, e2, e3, e4, e5, e6, e7, t0, t1, t2, t3, q1, q2, q3, q4, f1, f2, f3, f4, r1, r2, r3, r4, r5, fr_at]
end K04

/-! T38 -/
set_option Elab.async false
set_option linter.all false
set_option maxRecDepth 100000
set_option maxHeartbeats 8000000
namespace K04
open PySem PD L2 FR
/-! T38: what is drawn; the great text -/
def nv (x : Rat) : Int × Int := (x.num, (x.den : Int))
theorem frD_nv (x : Rat) : frD x = pr (nv x) := rfl
theorem lw_nm {x : Rat} (h : Nm x) : Lw (nv x) := by
  have h1 := h.n
  have h2 := h.d
  refine ⟨?_, ?_, ?_, ?_⟩
  · have := x.den_pos
    show (1 : Int) ≤ (x.den : Int)
    omega
  · show Nat.gcd x.num.natAbs (x.den : Int).natAbs = 1
    rw [Int.natAbs_natCast]
    exact x.reduced
  · exact Nat.lt_of_lt_of_le h1 (Nat.pow_le_pow_right (by decide) (by decide))
  · show (x.den : Int).natAbs < _
    rw [Int.natAbs_natCast]
    exact Nat.lt_of_lt_of_le h2 (Nat.pow_le_pow_right (by decide) (by decide))
theorem draw1 {ds : List D} (h : IsWell ds) : ∃ (v : Int × Int) (ds' : List D), Lw v ∧ IsWell ds' ∧ f_law_number [.mu (.lst ds)] = .ok (pr v) [.lst ds'] := by
  obtain ⟨x, ds', hx, hw, e⟩ := number_ok h
  exact ⟨nv x, ds', lw_nm hx, hw, e⟩
abbrev numEx : Ex := .call 1 (.cons (.var 1) .nil)
theorem draw_loop : ∀ (k i : Nat) (ds : List D), IsWell ds → ∃ (vs : Row) (ds' : List D), vs.length = k ∧ (∀ v ∈ vs, Lw v) ∧ IsWell ds' ∧
    ∀ (G : Gam) (ρ : Slots) (own : List Nat) (s : Nat) (rest : Store) (acc : List D) (N : Nat), i + k = N → G.fns[1]? = some ⟨[true], [], f_law_number⟩ → G.io = 0 → (∀ d, ((wipeS ρ own).set s (some (.fz d)))[1]? = some (some (.loc 0))) →
      lcLoop (.rng 0 N) (lBody G own (.nm s) (.lit (.bl true)) numEx ρ) k i acc (.lst ds :: rest) = .ok (acc ++ vs.map pr) (.lst ds' :: rest)
  | 0, i, ds, h => ⟨[], ds, rfl, by simp, h, fun G ρ own s rest acc N e _ _ _ => by
      show (if Iter.size _ (.rng 0 N) = some i then Res.ok acc _ else .stuck) = _
      rw [if_pos (by show some N = some i; rw [← e]; rfl)]
      simp⟩
  | k + 1, i, ds, h => by
    obtain ⟨v, ds1, hv, hw, e⟩ := draw1 h
    obtain ⟨vs, ds2, hl, ha, hw2, run⟩ := draw_loop k (i + 1) ds1 hw
    refine ⟨v :: vs, ds2, by simp [hl], ?_, hw2, fun G ρ own s rest acc N eN fns io r1 => ?_⟩
    · intro y hy
      rcases List.mem_cons.mp hy with rfl | hy
      · exact hv
      · exact ha y hy
    · have body : lBody G own (.nm s) (.lit (.bl true)) numEx ρ (.int (0 + i)) (.lst ds :: rest) = .ok [pr v] (.lst ds1 :: rest) := lBody_1 (by
        simp [ev_var (r1 _), fns, io, kCal2_m, e])
      show (if Iter.size _ (.rng 0 N) = some (i + (k + 1)) then pick (some (.int (0 + i))) fun d => (lBody G own (.nm s) (.lit (.bl true)) numEx ρ d (.lst ds :: rest)).bind fun ds st' => lcLoop (.rng 0 N) (lBody G own (.nm s) (.lit (.bl true)) numEx ρ) k (i + 1) (acc ++ ds) st' else .stuck) = _
      rw [if_pos (by show some N = _; rw [← eN])]
      simp only [pick_some', body, Res.bind_ok']
      rw [run G ρ own s rest (acc ++ [pr v]) N (by omega) fns io r1]
      simp
theorem draw_row (k : Nat) {ds : List D} (hk : k < 1000) (h : IsWell ds) : ∃ (vs : Row) (ds' : List D), vs.length = k ∧ (∀ v ∈ vs, Lw v) ∧ IsWell ds' ∧
    ∀ (G : Gam) (ρ : Slots) (own : List Nat) (s : Nat) (rest : Store), G.fns[1]? = some ⟨[true], [], f_law_number⟩ → G.io = 0 → (∀ d, ((wipeS ρ own).set s (some (.fz d)))[1]? = some (some (.loc 0))) →
      kLc G ρ own (.nm s) (.lit (.bl true)) numEx (.rng 0 k) (.lst ds :: rest) = .ok (.loc (rest.length + 1)) (.lst ds' :: (rest ++ [.lst (vs.map pr)])) := by
  obtain ⟨vs, ds', hl, ha, hw, run⟩ := draw_loop k 0 ds h
  refine ⟨vs, ds', hl, ha, hw, fun G ρ own s rest fns io r1 => ?_⟩
  rw [kLc_eq (n := k) rfl (by unfold LIM; omega), run G ρ own s rest [] k (by omega) fns io r1]
  rw [List.nil_append]
  simp
abbrev rowEx : Ex := .bfn .tuple (.cons (.lc [4] (.nm 4) (.rng1 (.var 5)) (.lit (.bl true)) numEx) .nil)
theorem draw_loop2 (size : Nat) (hs : size < 1000) : ∀ (k i : Nat) (ds : List D), IsWell ds → ∃ (rs : List Row) (ds' : List D), rs.length = k ∧ (∀ vs ∈ rs, vs.length = size ∧ ∀ v ∈ vs, Lw v) ∧ IsWell ds' ∧
    ∀ (G : Gam) (ρ : Slots) (rest : Store) (acc : List D) (N : Nat), i + k = N → G.fns[1]? = some ⟨[true], [], f_law_number⟩ → G.io = 0 → (∀ d, ((wipeS ρ [7]).set 7 (some (.fz d)))[5]? = some (some (.fz (.int (size : Int))))) → (∀ d e, ((wipeS ((wipeS ρ [7]).set 7 (some (.fz d))) [4]).set 4 (some (.fz e)))[1]? = some (some (.loc 0))) →
      lcLoop (.rng 0 N) (lBody G [7] (.nm 7) (.lit (.bl true)) rowEx ρ) k i acc (.lst ds :: rest) = .ok (acc ++ rs.map prs) (.lst ds' :: (rest ++ rs.map fun vs => .lst (vs.map pr)))
  | 0, i, ds, h => ⟨[], ds, rfl, by simp, h, fun G ρ rest acc N e _ _ _ _ => by
      show (if Iter.size _ (.rng 0 N) = some i then Res.ok acc _ else .stuck) = _
      rw [if_pos (by show some N = some i; rw [← e]; rfl)]
      simp⟩
  | k + 1, i, ds, h => by
    obtain ⟨vs, ds1, hl1, ha1, hw, run1⟩ := draw_row size hs h
    obtain ⟨rs, ds2, hl, ha, hw2, run⟩ := draw_loop2 size hs k (i + 1) ds1 hw
    refine ⟨vs :: rs, ds2, by simp [hl], ?_, hw2, fun G ρ rest acc N eN fns io r5 r1 => ?_⟩
    · intro y hy
      rcases List.mem_cons.mp hy with rfl | hy
      · exact ⟨hl1, ha1⟩
      · exact ha y hy
    · have q0 : rngOk 0 = true := by decide
      have q1 : rngOk (size : Int) = true := rngOk_nat (by omega)
      have body : lBody G [7] (.nm 7) (.lit (.bl true)) rowEx ρ (.int (0 + i)) (.lst ds :: rest) = .ok [prs vs] (.lst ds1 :: (rest ++ [.lst (vs.map pr)])) := lBody_1 (by
        have rr := run1 G ((wipeS ρ [7]).set 7 (some (.fz (.int (0 + i))))) [4] 4 rest fns io (r1 _)
        have r5' := r5 (.int (0 + i))
        generalize (wipeS ρ [7]).set 7 (some (.fz (.int (0 + i)))) = ρ1 at *
        simp [ev_var r5', kRng_eq q0 q1, rr, prs])
      show (if Iter.size _ (.rng 0 N) = some (i + (k + 1)) then pick (some (.int (0 + i))) fun d => (lBody G [7] (.nm 7) (.lit (.bl true)) rowEx ρ d (.lst ds :: rest)).bind fun ds st' => lcLoop (.rng 0 N) (lBody G [7] (.nm 7) (.lit (.bl true)) rowEx ρ) k (i + 1) (acc ++ ds) st' else .stuck) = _
      rw [if_pos (by show some N = _; rw [← eN])]
      simp only [pick_some', body, Res.bind_ok']
      rw [run G ρ (rest ++ [Cont.lst (vs.map pr)]) (acc ++ [prs vs]) N (by omega) fns io r5 r1]
      simp
theorem draw_mat (size : Nat) {ds : List D} (hk : size < 1000) (h : IsWell ds) : ∃ (rs : List Row) (ds' : List D), rs.length = size ∧ (∀ vs ∈ rs, vs.length = size ∧ ∀ v ∈ vs, Lw v) ∧ IsWell ds' ∧
    ∀ (G : Gam) (ρ : Slots) (rest : Store), G.fns[1]? = some ⟨[true], [], f_law_number⟩ → G.io = 0 → (∀ d, ((wipeS ρ [7]).set 7 (some (.fz d)))[5]? = some (some (.fz (.int (size : Int))))) → (∀ d e, ((wipeS ((wipeS ρ [7]).set 7 (some (.fz d))) [4]).set 4 (some (.fz e)))[1]? = some (some (.loc 0))) →
      kLc G ρ [7] (.nm 7) (.lit (.bl true)) rowEx (.rng 0 size) (.lst ds :: rest) = .ok (.loc (rest.length + size + 1)) (.lst ds' :: (rest ++ (rs.map fun vs => .lst (vs.map pr)) ++ [.lst (rs.map prs)])) := by
  obtain ⟨rs, ds', hl, ha, hw, run⟩ := draw_loop2 size hk size 0 ds h
  refine ⟨rs, ds', hl, ha, hw, fun G ρ rest fns io r5 r1 => ?_⟩
  rw [kLc_eq (n := size) rfl (by unfold LIM; omega), run G ρ rest [] size (by omega) fns io r5 r1]
  rw [List.nil_append]
  simp [hl]
/-! the great text -/
theorem join_cst {sep : Str} {c : Nat} (hs : sep = TS [c]) (n : Nat) (hn : n ≤ 100) (s : Str) (hl : s.length ≤ 500) : ∃ z : Str, z.length ≤ (s.length + 1) * n ∧ joinD sep (.lst ((List.range n).map fun _ => .str s)) = .d (.str z) := by
  refine ⟨Txt.join sep ((List.range n).map fun _ => s), ?_, ?_⟩
  · have e : ((List.range n).map fun _ => s) = ((List.range n).map fun _ => s.cps.toList).map TS := by
      rw [List.map_map]
      exact List.map_congr_left fun _ _ => ts_of s
    rw [e, join_ts hs, ts_len]
    have sl : s.cps.toList.length = s.length := by
      have := ts_len s.cps.toList
      rw [← ts_of] at this
      exact this.symm
    have := joinN_len (c := c) (B := s.length) ((List.range n).map fun _ => s.cps.toList) fun x hx => by
      obtain ⟨_, _, rfl⟩ := List.mem_map.mp hx
      omega
    rw [List.length_map, List.length_range] at this
    exact this
  · show joinS _ _ = _
    unfold joinS
    rw [strs_map]
    have sm : ∀ m : Nat, (((List.range m).map fun _ => s).map (·.length)).sum = s.length * m := fun m => by
      induction m with
      | zero => simp
      | succ m ih => rw [List.range_succ, List.map_append, List.map_append, List.sum_append, ih, Nat.mul_succ]; simp
    have h2 : sep.length = 1 := by rw [hs, ts_len]; rfl
    show (if _ then OpD.d _ else .no) = _
    rw [if_pos (by
      rw [sm, h2, List.length_map, List.length_range]
      have : LIM = 16777216 := rfl
      have : s.length * n ≤ 500 * 100 := Nat.mul_le_mul hl hn
      omega)]
theorem law_great_ok {m : Nat} (h : m ≤ 1) : f_law_great [.fz (.int (m : Int))] = .ok (.bl true) [] := by
  have l1 : (Str.ofString "1").length = 1 := by decide +kernel
  obtain ⟨z, hz, ez⟩ := join_cst sCo (30 + m) (by omega) (Str.ofString "1") (by omega)
  have hz2 : z.length ≤ 62 := by
    have : ((Str.ofString "1").length + 1) * (30 + m) ≤ 2 * 31 := Nat.mul_le_mul (by omega) (by omega)
    omega
  obtain ⟨w, hw, ew⟩ := join_cst sSe (30 + m) (by omega) z (by omega)
  have hw2 : w.length ≤ 100000 := by
    have : (z.length + 1) * (30 + m) ≤ 63 * 31 := Nat.mul_le_mul (by omega) (by omega)
    omega
  have rd2 := law_read_str (s := w) hw2 (door := 2) (by decide)
  simp only [show ((2 : Nat) : Int) = 2 from rfl] at rd2
  rw [show f_law_great = runDef (md.gam g_law_great) ⟨3, b_law_great⟩ from rfl, runDef_eq]
  simp only [b_law_great, contsOf, slotsOf]
  obtain ⟨G, hG⟩ : ∃ G : Gam, G = { md.gam g_law_great with io := ([] : List Cont).length } := ⟨_, rfl⟩
  have fns : G.fns = g_law_great := by rw [hG]; rfl
  have io : G.io = 0 := by rw [hG]; rfl
  have con : G.con = md.con.map (·.2) := by rw [hG]; rfl
  have exq : G.exm = exmL md.exm := by rw [hG]; rfl
  have gq : g_law_great = g_law_great := rfl
  rw [← hG]
  have q0 : rngOk 0 = true := by decide
  have q1 : rngOk ((30 : Int) + (m : Int)) = true := by
    have := rngOk_nat (k := 30 + m) (by omega)
    rw [Int.natCast_add] at this
    exact this
  have en : ((30 : Int) + (m : Int) - 0).toNat = 30 + m := by omega
  have lc1 := lc_rngD (G := G) (ρ := [some (.fz (.int (m : Int))), none, none]) (st := []) (own := [2]) (i := 2) (n := 30 + m) (elt := .lit (.str "1")) (f := fun _ => .str "1") (by unfold LIM; omega) fun k hk => by simp [wipeS]
  have lc2 := lc_rngD (G := G) (ρ := [some (.fz (.int (m : Int))), some (.fz (.str z)), none]) (st := [.lst ((List.range (30 + m)).map fun _ => .str (Str.ofString "1"))]) (own := [2]) (i := 2) (n := 30 + m) (elt := .var 1) (f := fun _ => .str z) (by unfold LIM; omega) fun k hk => by simp [wipeS]
  have rng : ∀ st, kRng (.int 0) (.fz (.int ((30 : Int) + (m : Int)))) st = .ok (.rng 0 (30 + m)) st := fun st => by rw [kRng_eq q0 q1, en]
  obtain ⟨L, hL⟩ : ∃ L : List D, L = (List.range (30 + m)).map fun _ => .str (Str.ofString "1") := ⟨_, rfl⟩
  obtain ⟨L2, hL2⟩ : ∃ L : List D, L = (List.range (30 + m)).map fun _ => .str z := ⟨_, rfl⟩
  rw [← hL] at ez lc1 lc2
  rw [← hL2] at ew lc2
  simp [fns, g_law_great, io, rng, lc1, ez, lc2, ew, rd2]
end K04

/-! T39 -/
set_option Elab.async false
set_option linter.all false
set_option maxRecDepth 100000
set_option maxHeartbeats 8000000
namespace PD
open PySem L2
section
variable {G : Gam} {ρ : Slots} {st : Store}
@[simp] theorem ev_call0 {j : Nat} : ev G (.call0 j) ρ st = pick G.fns[j]? fun fi => kCall G.io fi [] st := by rfl
@[simp] theorem kCal2_z {muts : List Bool} {f : List PD.Arg → FRes} : kCal2 ⟨muts, [], f⟩ [] st = kRes [] st (f []) := by rfl
end
end PD
namespace K04
open PySem PD L2 FR
/-! T39: the law's last part -/
def r8_law : Sts := (.cons (.for_ (.nm 11) (.rng1 (.lit (.int (3)))) lp0_law) (.cons (.if_ (.or_ (.cmp .ne (.idx (.call 10 (.cons (.lit (.int (0))) (.cons (.idx (.var 8) (.lit (.int (0)))) .nil))) (.lit (.int (1)))) (.var 2)) (.or_ (.cmp .ne (.idx (.call 10 (.cons (.lit (.int (1))) (.cons (.idx (.var 8) (.lit (.int (1)))) .nil))) (.lit (.int (1)))) (.var 3)) (.cmp .ne (.idx (.call 10 (.cons (.lit (.int (2))) (.cons (.idx (.var 8) (.lit (.int (2)))) .nil))) (.lit (.int (1)))) (.var 6)))) (.cons (.ret (.lit (.bl false))) .nil) .nil) (.cons (.for_ (.nm 4) (.rng1 (.lit (.int (6)))) lp2_law) (.cons (.if_ (.and_ (.cmp .eq (.call 3 (.cons (.var 1) (.cons (.lit (.int (12))) .nil))) (.lit (.int (11)))) (.or_ (.not_ (.tru (.call 12 (.cons (.lit (.int (0))) .nil)))) (.not_ (.tru (.call 12 (.cons (.lit (.int (1))) .nil)))))) (.cons (.ret (.lit (.bl false))) .nil) .nil) (.cons (.ret (.call0 13)) .nil)))))
def r5_law : Sts := (.cons (.asg (.nm 8) (.lst (.cons (.call 4 (.cons (.var 2) .nil)) (.cons (.call 5 (.cons (.var 3) .nil)) (.cons (.join (.lit (.str ";")) (.lc [9] (.nm 9) (.seq (.var 6)) (.lit (.bl true)) (.call 5 (.cons (.var 9) .nil)))) .nil))))) (.cons (.if_ (.cmp .eq (.bfn .len (.cons (.var 3) .nil)) (.lit (.int (0)))) (.cons (.six 8 (.lit (.int (1))) (.lit (.str "0"))) .nil) .nil) (.cons (.asg (.nm 10) (.lst (.cons (.call 6 (.cons (.var 2) .nil)) (.cons (.call 7 (.cons (.var 3) .nil)) (.cons (.call 8 (.cons (.var 6) .nil)) .nil))))) (.cons (.for_ (.nm 11) (.rng1 (.lit (.int (3)))) lp0_law) (.cons (.if_ (.or_ (.cmp .ne (.idx (.call 10 (.cons (.lit (.int (0))) (.cons (.idx (.var 8) (.lit (.int (0)))) .nil))) (.lit (.int (1)))) (.var 2)) (.or_ (.cmp .ne (.idx (.call 10 (.cons (.lit (.int (1))) (.cons (.idx (.var 8) (.lit (.int (1)))) .nil))) (.lit (.int (1)))) (.var 3)) (.cmp .ne (.idx (.call 10 (.cons (.lit (.int (2))) (.cons (.idx (.var 8) (.lit (.int (2)))) .nil))) (.lit (.int (1)))) (.var 6)))) (.cons (.ret (.lit (.bl false))) .nil) .nil) (.cons (.for_ (.nm 4) (.rng1 (.lit (.int (6)))) lp2_law) (.cons (.if_ (.and_ (.cmp .eq (.call 3 (.cons (.var 1) (.cons (.lit (.int (12))) .nil))) (.lit (.int (11)))) (.or_ (.not_ (.tru (.call 12 (.cons (.lit (.int (0))) .nil)))) (.not_ (.tru (.call 12 (.cons (.lit (.int (1))) .nil)))))) (.cons (.ret (.lit (.bl false))) .nil) .nil) (.cons (.ret (.call0 13)) .nil))))))))
abbrev sl (S x p t sz m l T r U d tx a : Option Val) : Slots := [S, some (.loc 0), x, p, t, sz, m, l, T, r, U, d, tx, a]
theorem kRng_n {st : Store} {n : Nat} {i : Int} (hi : i = (n : Int)) (h : n < 1000) : kRng (.int 0) (.fz (.int i)) st = .ok (.rng 0 n) st := by
  subst hi
  rw [kRng_eq (by decide) (rngOk_nat (by omega))]
  congr 2
theorem read_ts {a : List Nat} (h : a.length ≤ 50000) {i : Int} (h0 : 0 ≤ i) (h1 : i < 3) : f_law_read [.fz (.int i), .fz (.str (TS a))] = .ok (.bl true) [] := by
  obtain ⟨k, rfl⟩ := Int.eq_ofNat_of_zero_le h0
  exact law_read_ok (show a.length ≤ 100000 by omega) (by omega)
theorem turns_ok {G : Gam} (fns : G.fns = g_law) (io : G.io = 0) {X : Store} {i B : Nat} {T : List D} (hB : B ≤ 40000) (hT : ∀ r : Int, 0 ≤ r → r < 3 → ∃ a : List Nat, a.length ≤ B ∧ idxS (.lst T) (.int r) = some (.str (TS a))) (hi : X[i]? = some (.lst T)) (S x p sz m l r U : Option Val) :
    ∀ (t d tx a : Option Val) (ds : List D), IsWell ds → ∃ (ds' : List D) (t' d' tx' a' : Option Val), IsWell ds' ∧ forLoop (.rng 0 6) (fBody G (.nm 4) lp2_law) 6 0 (sl S x p t sz m l (some (.loc (i + 1))) r U d tx a) (.lst ds :: X) = .nx (sl S x p t' sz m l (some (.loc (i + 1))) r U d' tx' a') (.lst ds' :: X) := by
  intro t d tx a ds hw
  obtain ⟨ρ', st', e, t', d', tx', a', ds', hw', rfl, rfl⟩ := for_all (I := .rng 0 6) (body := fBody G (.nm 4) lp2_law) (n := 6) (fun k ρ st => ∃ (t d tx a : Option Val) (ds : List D), IsWell ds ∧ ρ = sl S x p t sz m l (some (.loc (i + 1))) r U d tx a ∧ st = .lst ds :: X) (fun k ρ st _ _ => rfl)
    (fun k ρ st hk ⟨t, d, tx, a, ds, hw, e1, e2⟩ => by
      subst e1 e2
      obtain ⟨p1, ds1, p10, p11, h1, q1⟩ := pull_ok hw (t := 3) (by decide)
      obtain ⟨p2, ds2, p20, p21, h2, q2⟩ := pull_ok h1 (t := 3) (by decide)
      obtain ⟨p3, ds3, p30, p31, h3, q3⟩ := pull_ok h2 (t := 2) (by decide)
      obtain ⟨b0, hb0, ix0⟩ := hT p1 p10 p11
      have mdd := bopS_mod (i := (k : Int)) (j := 3) (by decide)
      have f0 := Int.fmod_nonneg_of_pos (k : Int) (show (0 : Int) < 3 by decide)
      have f1 := Int.fmod_lt_of_pos (k : Int) (show (0 : Int) < 3 by decide)
      obtain ⟨dd, hdd⟩ : ∃ dd, dd = (k : Int).fmod 3 := ⟨_, rfl⟩
      rw [← hdd] at mdd f0 f1
      obtain ⟨b1, hb1, ix1⟩ := hT dd f0 f1
      obtain ⟨n, hn⟩ : ∃ n : Nat, 1 + p3 = (n : Int) := ⟨(1 + p3).toNat, by omega⟩
      have hn2 : n ≤ 2 := by omega
      have inner : ∀ (b : List Nat) (a : Option Val), b.length ≤ B → ∃ (ds' : List D) (c : List Nat) (a' : Option Val), IsWell ds' ∧ c.length ≤ B + 2 ∧ forLoop (.rng 0 n) (fBody G (.nm 13) lp1_law) n 0 (sl S x p (some (.fz (.int k))) sz m l (some (.loc (i + 1))) r U (some (.fz (.int dd))) (some (.fz (.str (TS b)))) a) (.lst ds3 :: X) = .nx (sl S x p (some (.fz (.int k))) sz m l (some (.loc (i + 1))) r U (some (.fz (.int dd))) (some (.fz (.str (TS c)))) a') (.lst ds' :: X) := fun b a hb => by
        obtain ⟨ρ', st', e, ds', c, a', hw', hc, rfl, rfl⟩ := for_all (I := .rng 0 n) (body := fBody G (.nm 13) lp1_law) (n := n) (fun j ρ st => ∃ (ds' : List D) (c : List Nat) (a' : Option Val), IsWell ds' ∧ c.length ≤ B + j ∧ ρ = sl S x p (some (.fz (.int k))) sz m l (some (.loc (i + 1))) r U (some (.fz (.int dd))) (some (.fz (.str (TS c)))) a' ∧ st = .lst ds' :: X) (fun k ρ st _ _ => rfl)
          (fun j ρ st hj ⟨ds', c, a', hw', hc, e1, e2⟩ => by
            subst e1 e2
            obtain ⟨c2, ds2, hc2, hw2, eb⟩ := law_bent_ok hw' (a := c) (by omega)
            refine ⟨.int (0 + j), rfl, sl S x p (some (.fz (.int k))) sz m l (some (.loc (i + 1))) r U (some (.fz (.int dd))) (some (.fz (.str (TS c2)))) (some (.fz (.int j))), .lst ds2 :: X, .inl ?_, ds2, c2, _, hw2, by omega, rfl, rfl⟩
            simp only [fBody_nm, lp1_law, sl]
            simp [fns, g_law, io, kCal2_m1, eb]) n 0 _ _ (by omega) ⟨ds3, b, a, h3, by omega, rfl, rfl⟩
        exact ⟨ds', c, a', hw', by omega, e⟩
      obtain ⟨b, hbl, hb⟩ : ∃ b : List Nat, b.length ≤ B ∧ b = if p2 < 2 then b1 else b0 := ⟨_, by split <;> assumption, rfl⟩
      obtain ⟨ds', c, a', hw', hc, run⟩ := inner b a hbl
      have rd := read_ts (a := c) (by omega) f0 f1
      refine ⟨.int (0 + k), rfl, sl S x p (some (.fz (.int k))) sz m l (some (.loc (i + 1))) r U (some (.fz (.int dd))) (some (.fz (.str (TS c)))) a', .lst ds' :: X, .inl ?_, _, _, _, _, ds', hw', rfl, rfl⟩
      simp only [sl] at run
      simp only [fBody_nm, lp2_law, sl]
      by_cases c2 : p2 < 2
      · rw [if_pos c2] at hb
        subst hb
        simp [fns, g_law, io, mdd, kCal2_m1, q1, hi, ix0, q2, c2, ix1, q3, hn, kRng_n rfl (show n < 1000 by omega), run, rd]
      · rw [if_neg c2] at hb
        subst hb
        simp [fns, g_law, io, mdd, kCal2_m1, q1, hi, ix0, q2, c2, q3, hn, kRng_n rfl (show n < 1000 by omega), run, rd]) 6 0 _ _ (by omega) ⟨t, d, tx, a, ds, hw, rfl, rfl⟩
  exact ⟨ds', t', d', tx', a', hw', e⟩
theorem tail_ok {G : Gam} (fns : G.fns = g_law) (io : G.io = 0) {X : Store} {i j : Nat} {a0 a1 a2 : List Nat} {x : Int × Int} {p : Row} {m : List Row} {e0 e1 e2 : Nat} (h0 : a0.length ≤ 40000) (h1 : a1.length ≤ 40000) (h2 : a2.length ≤ 40000)
    (g0 : readS 0 a0 = .told (pr x) e0) (g1 : readS 1 a1 = .told (prs p) e1) (g2 : readS 2 a2 = .told (.tup (m.map prs)) e2)
    (hi : X[i]? = some (.lst [.str (TS a0), .str (TS a1), .str (TS a2)])) (hj : X[j]? = some (.lst [.str (TS a0), .str (TS a1), .str (TS a2)])) (S t sz l r d tx a : Option Val) {ds : List D} (hw : IsWell ds) :
    PD.fin 0 (exs G r8_law (sl S (some (.fz (pr x))) (some (.fz (prs p))) t sz (some (.fz (.tup (m.map prs)))) l (some (.loc (i + 1))) r (some (.loc (j + 1))) d tx a) (.lst ds :: X)) = .ok (.bl true) [] := by
  obtain ⟨T, hT⟩ : ∃ T : List D, T = [.str (TS a0), .str (TS a1), .str (TS a2)] := ⟨_, rfl⟩
  have i0 : idxS (.lst T) (.int 0) = some (.str (TS a0)) := by rw [hT]; simp
  have i1 : idxS (.lst T) (.int 1) = some (.str (TS a1)) := by rw [hT]; simp
  have i2 : idxS (.lst T) (.int 2) = some (.str (TS a2)) := by rw [hT]; exact idx_lst (k := 2) rfl (by simp)
  rw [← hT] at hi hj
  have at_ : ∀ r : Int, 0 ≤ r → r < 3 → ∃ a : List Nat, a.length ≤ 40000 ∧ idxS (.lst T) (.int r) = some (.str (TS a)) := fun r r0 r1 => by
    have : r = 0 ∨ r = 1 ∨ r = 2 := by omega
    rcases this with rfl | rfl | rfl
    · exact ⟨a0, h0, i0⟩
    · exact ⟨a1, h1, i1⟩
    · exact ⟨a2, h2, i2⟩
  obtain ⟨ρ', st', el, d', rfl, rfl⟩ := for_all (I := .rng 0 3) (body := fBody G (.nm 11) lp0_law) (n := 3) (fun k ρ st => ∃ (d : Option Val), ρ = sl S (some (.fz (pr x))) (some (.fz (prs p))) t sz (some (.fz (.tup (m.map prs)))) l (some (.loc (i + 1))) r (some (.loc (j + 1))) d tx a ∧ st = .lst ds :: X) (fun k ρ st _ _ => rfl)
    (fun k ρ st hk ⟨d, e1, e2⟩ => by
      subst e1 e2
      obtain ⟨b, hb, ix⟩ := at_ (k : Int) (by omega) (by omega)
      have rd := read_ts (a := b) (i := (k : Int)) (by omega) (by omega) (by omega)
      refine ⟨.int (0 + k), rfl, sl S (some (.fz (pr x))) (some (.fz (prs p))) t sz (some (.fz (.tup (m.map prs)))) l (some (.loc (i + 1))) r (some (.loc (j + 1))) (some (.fz (.int k))) tx a, .lst ds :: X, .inl ?_, _, rfl, rfl⟩
      simp only [fBody_nm, lp0_law, sl]
      simp [fns, g_law, io, hi, hj, ix, rd]) 3 0 _ _ (by omega) ⟨d, rfl, rfl⟩
  have due0 := law_due_ok (a := a0) (show a0.length ≤ 100000 by omega) (door := 0) (by decide)
  have due1 := law_due_ok (a := a1) (show a1.length ≤ 100000 by omega) (door := 1) (by decide)
  have due2 := law_due_ok (a := a2) (show a2.length ≤ 100000 by omega) (door := 2) (by decide)
  rw [g0] at due0
  rw [g1] at due1
  rw [g2] at due2
  simp only [outD, show ((0 : Nat) : Int) = 0 from rfl, show ((1 : Nat) : Int) = 1 from rfl, show ((2 : Nat) : Int) = 2 from rfl] at due0 due1 due2
  have k0 : eqS (pr x) (pr x) = some true := by rw [eqS_pr]; simp
  have k1 := eqS_prs p
  have k2 := eqS_mat m
  obtain ⟨ds1, t1, d1, tx1, b1, w1, run⟩ := turns_ok fns io (Nat.le_refl 40000) at_ hi S (some (.fz (pr x))) (some (.fz (prs p))) sz (some (.fz (.tup (m.map prs)))) l r (some (.loc (j + 1))) t d' tx a ds hw
  obtain ⟨q, ds2, q0, q1, w2, e3⟩ := pull_ok w1 (t := 12) (by decide)
  have gr0 := law_great_ok (m := 0) (by decide)
  have gr1 := law_great_ok (m := 1) (by decide)
  simp only [show ((0 : Nat) : Int) = 0 from rfl, show ((1 : Nat) : Int) = 1 from rfl] at gr0 gr1
  have ed := law_edges_ok
  simp only [sl] at el run
  simp only [r8_law, sl]
  by_cases c : q = 11
  · simp [kRng_n (n := 3) (i := 3) rfl (by decide), el, fns, g_law, io, hi, i0, due0, k0, i1, due1, k1, i2, due2, k2, kRng_n (n := 6) (i := 6) rfl (by decide), run, kCal2_m1, e3, c, gr0, gr1, ed]
  · simp [kRng_n (n := 3) (i := 3) rfl (by decide), el, fns, g_law, io, hi, i0, due0, k0, i1, due1, k1, i2, due2, k2, kRng_n (n := 6) (i := 6) rfl (by decide), run, kCal2_m1, e3, c, ed]
end K04

/-! K04Plain -/
set_option Elab.async false
set_option linter.all false
set_option maxRecDepth 100000
set_option maxHeartbeats 8000000
namespace K04
open PySem PD L2 FR
theorem tzn_last (vs : Row) : ∀ n k, tzn vs n = k + 1 → (vs.getD k (0, 1)).1 ≠ 0
  | 0, k, h => by cases h
  | n + 1, k, h => by
    unfold tzn at h
    split at h
    · exact tzn_last vs n k h
    · rename_i c
      have : n = k := by omega
      subst this
      exact c
theorem trim_last {vs : Row} (h : trimV vs ≠ []) : (lastV (trimV vs)).1 ≠ 0 := by
  have hl := tzn_le vs vs.length
  obtain ⟨k, hk⟩ : ∃ k, tzn vs vs.length = k + 1 := by
    refine ⟨tzn vs vs.length - 1, ?_⟩
    have : tzn vs vs.length ≠ 0 := fun z => h (by unfold trimV; rw [z]; rfl)
    omega
  have e := tzn_last vs _ k hk
  unfold lastV trimV
  rw [hk, List.length_take, Nat.min_eq_left (by omega)]
  simp only [List.getD, Nat.add_sub_cancel] at e ⊢
  rw [List.getElem?_take_of_lt (by omega)]
  exact e
theorem trim_mem {vs : Row} {v : Int × Int} (h : v ∈ trimV vs) : v ∈ vs := List.mem_of_mem_take h
theorem trim_len (vs : Row) : (trimV vs).length ≤ vs.length := by
  unfold trimV
  rw [List.length_take]
  omega
theorem b_law_split : b_law = .cons (.asg (.nm 1) (.call 0 (.cons (.var 0) .nil))) (.cons (.asg (.nm 2) (.call 1 (.cons (.var 1) .nil))) (.cons (.asg (.nm 3) (.call 2 (.cons (.lc [4] (.nm 4) (.rng1 (.call 3 (.cons (.var 1) (.cons (.lit (.int (7))) .nil)))) (.lit (.bl true)) numEx) .nil))) (.cons (.asg (.nm 5) (.bin .add (.lit (.int (1))) (.call 3 (.cons (.var 1) (.cons (.lit (.int (3))) .nil))))) (.cons (.asg (.nm 6) (.bfn .tuple (.cons (.lc [7] (.nm 7) (.rng1 (.var 5)) (.lit (.bl true)) rowEx) .nil))) r5_law)))) := rfl
theorem r5_split : r5_law = .cons (.asg (.nm 8) (.lst (.cons (.call 4 (.cons (.var 2) .nil)) (.cons (.call 5 (.cons (.var 3) .nil)) (.cons (.join (.lit (.str ";")) (.lc [9] (.nm 9) (.seq (.var 6)) (.lit (.bl true)) (.call 5 (.cons (.var 9) .nil)))) .nil))))) (.cons (.if_ (.cmp .eq (.bfn .len (.cons (.var 3) .nil)) (.lit (.int (0)))) (.cons (.six 8 (.lit (.int (1))) (.lit (.str "0"))) .nil) .nil) (.cons (.asg (.nm 10) (.lst (.cons (.call 6 (.cons (.var 2) .nil)) (.cons (.call 7 (.cons (.var 3) .nil)) (.cons (.call 8 (.cons (.var 6) .nil)) .nil))))) r8_law)) := rfl
theorem join_mat {rs : List Row} (hr : rs.length ≤ 30) (hs : ∀ vs ∈ rs, (rowW vs).length ≤ 100000) : joinD (Str.ofString ";") (.lst (rs.map fun v => D.str (rowW v))) = .d (.str (matW rs)) := by
  have sm : ∀ l : List Row, (∀ vs ∈ l, (rowW vs).length ≤ 100000) → ((l.map rowW).map (·.length)).sum ≤ 100000 * l.length := fun l => by
    induction l with
    | nil => intro _; simp
    | cons v l ih =>
      intro h
      have h1 := h v List.mem_cons_self
      have h2 := ih fun u hu => h u (List.mem_cons_of_mem _ hu)
      simp only [List.map_cons, List.sum_cons, List.length_cons] at h2 ⊢
      omega
  show joinS _ _ = _
  unfold joinS
  rw [strs_map]
  have h1 := sm rs hs
  have h2 : (Str.ofString ";").length = 1 := by rw [sSe, ts_len]; rfl
  show (if _ then OpD.d _ else .no) = _
  rw [if_pos (by rw [h2, List.length_map]; have : LIM = 16777216 := rfl; omega)]
  rfl
/-- from the texts on -/
theorem mid_ok {G : Gam} (fns : G.fns = g_law) (io : G.io = 0) {X : Store} {x : Int × Int} {p : Row} {m : List Row} {size : Nat} (hx : Lw x) (hp : ∀ v ∈ p, Lw v) (pl : p.length ≤ 7) (pz : p ≠ [] → (lastV p).1 ≠ 0) (s0 : 0 < size) (s1 : size ≤ 3) (ml : m.length = size) (hm : ∀ vs ∈ m, vs.length = size ∧ ∀ v ∈ vs, Lw v)
    (S t sz l r d tx a o8 o10 : Option Val) {ds : List D} (hw : IsWell ds) :
    PD.fin 0 (exs G r5_law (sl S (some (.fz (pr x))) (some (.fz (prs p))) t sz (some (.fz (.tup (m.map prs)))) l o8 none o10 d tx a) (.lst ds :: X)) = .ok (.bl true) [] := by
  have wx := wr_lw hx
  have wp : ∀ v ∈ p, Wr v := fun v hv => wr_lw (hp v hv)
  have wt := written_ok wx
  have nt := number_text_ok wx
  have lp := law_line_ok wp (by omega)
  have pt := poly_text_ok wp (by omega)
  rw [rowW_ts] at lp pt
  have rl : ∀ vs ∈ m, (rowW vs).length ≤ 100000 := fun vs hvs => by
    rw [rowW_ts, ts_len]
    have := rowN_len (hm vs hvs).2
    have := (hm vs hvs).1
    omega
  have mt := matrix_text_ok (rs := m) (fun vs hvs v hv => wr_lw ((hm vs hvs).2 v hv)) (fun vs hvs => by have := (hm vs hvs).1; omega) (by omega) rl
  have jm := join_mat (rs := m) (by omega) rl
  rw [matW_ts] at mt jm
  have lc := lc_tupD (G := G) (ρ := sl S (some (.fz (pr x))) (some (.fz (prs p))) t sz (some (.fz (.tup (m.map prs)))) l o8 none o10 d tx a) (st := .lst ds :: X) (own := [9]) (i := 9) (elt := .call 5 (.cons (.var 9) .nil)) (vs := m) (g := prs) (f := fun v => D.str (rowW v)) (by have : LIM = 16777216 := rfl; omega) fun v h => by
    have q := law_line_ok (vs := v) (fun u hu => wr_lw ((hm v h).2 u hu)) (by have := (hm v h).1; omega)
    simp [sl, wipeS, fns, g_law, io, q]
  obtain ⟨L, hL⟩ : ∃ L : List D, L = m.map fun v => D.str (rowW v) := ⟨_, rfl⟩
  rw [← hL] at lc jm
  have lnp : bfnS .len [prs p] = .d (.int (p.length : Int)) := by unfold prs; rw [bfn_lent, List.length_map]
  have n0 := numW_le hx
  have n2 : (matN m).length ≤ 40000 := by
    have := joinN_len (c := 59) (B := 700) (m.map rowN) fun y hy => by
      obtain ⟨w, hw, rfl⟩ := List.mem_map.mp hy
      have h1 := rowN_len (hm w hw).2
      have h2 := (hm w hw).1
      omega
    rw [List.length_map] at this
    unfold matN
    omega
  have g0 := read0 hx
  have g2 := read2 (rs := m) s0 (by omega) ml hm
  have l3 : ∀ (a b c : D) (st : Store), kLst2 [a, b, c] st = .ok (.loc st.length) (st ++ [.lst [a, b, c]]) := fun a b c st => kLst2_eq (by unfold LIM; simp)
  simp only [sl] at lc
  rw [r5_split]
  by_cases hp0 : p = []
  · subst hp0
    have s0' : Str.ofString "0" = TS [48] := K04.s0
    rw [if_pos rfl, s0'] at pt
    have g1 := read1_nil
    have tl := tail_ok fns io (X := X ++ [.lst L, .lst [.str (TS (numW x)), .str (TS [48]), .str (TS (matN m))], .lst [.str (TS (numW x)), .str (TS [48]), .str (TS (matN m))]]) (i := X.length + 1) (j := X.length + 2) (by omega) (by decide) n2 g0 g1 g2
      (by rw [List.getElem?_append_right (by omega), show X.length + 1 - X.length = 1 by omega]; rfl) (by rw [List.getElem?_append_right (by omega), show X.length + 2 - X.length = 2 by omega]; rfl) S t sz l none d tx a hw
    have six : ∀ (ρ : Slots) (y : D), kSix3 ρ (X.length + 1 + 1) (.fz (.int 1)) y (.lst ds :: (X ++ [.lst L, .lst [.str (TS (numW x)), .str (TS (rowN [])), .str (TS (matN m))]])) = .nx ρ (.lst ds :: (X ++ [.lst L, .lst [.str (TS (numW x)), y, .str (TS (matN m))]])) := fun ρ y => by
      rw [kSix3_eq (j := 1) (m := 1) (ds := [.str (TS (numW x)), .str (TS (rowN [])), .str (TS (matN m))]) (by simp) rfl (by simp)]
      simp [List.set_append]
    simp only [sl] at tl ⊢
    simp [fns, g_law, io, wt, lp, lc, jm, l3, lnp, nt, pt, mt, kSix_eq, six, s0', tl]
  · rw [if_neg hp0] at pt
    have g1 := read1 hp hp0 (by omega) (pz hp0)
    have n1 := rowN_len hp
    have p0 : ¬ (p.length : Int) = 0 := by have := List.length_pos_iff.mpr hp0; omega
    have tl := tail_ok fns io (X := X ++ [.lst L, .lst [.str (TS (numW x)), .str (TS (rowN p)), .str (TS (matN m))], .lst [.str (TS (numW x)), .str (TS (rowN p)), .str (TS (matN m))]]) (i := X.length + 1) (j := X.length + 2) (by omega) (by omega) n2 g0 g1 g2
      (by rw [List.getElem?_append_right (by omega), show X.length + 1 - X.length = 1 by omega]; rfl) (by rw [List.getElem?_append_right (by omega), show X.length + 2 - X.length = 2 by omega]; rfl) S t sz l none d tx a hw
    simp only [sl] at tl ⊢
    simp [fns, g_law, io, wt, lp, lc, jm, l3, lnp, nt, pt, mt, hp0, tl]
theorem plain : ∀ ns : List Int, ns.length ≤ 63 → (∀ z ∈ ns, Builtin.Int.intBits z ≤ 1048576) → f_law [.fz (.lst (ns.map D.int))] = .ok (.bl true) [] := by
  intro ns hl hb
  obtain ⟨ds0, w0, e0⟩ := well_ok hl hb
  obtain ⟨x, ds1, hx, w1, e1⟩ := draw1 w0
  obtain ⟨n, ds2, n0, n1, w2, e2⟩ := pull_ok w1 (t := 7) (by decide)
  obtain ⟨k, rfl⟩ := Int.eq_ofNat_of_zero_le n0
  obtain ⟨vs, ds3, hvl, hv, w3, run3⟩ := draw_row k (by omega) w2
  have tr := trim_gen (R := .lst (vs.map pr)) (vs := vs) (by omega) (by rw [bfn_lenl, List.length_map]) fun j hj => by
    rw [idx_lst (k := j) rfl (by rw [List.length_map]; exact hj), List.getElem_map]
    simp [List.getD, List.getElem?_eq_getElem hj]
  obtain ⟨z, ds4, z0, z1, w4, e4⟩ := pull_ok w3 (t := 3) (by decide)
  obtain ⟨s, hs⟩ : ∃ s : Nat, 1 + z = (s : Int) := ⟨(1 + z).toNat, by omega⟩
  obtain ⟨rs, ds5, hrl, hr, w5, run5⟩ := draw_mat s (by omega) w4
  rw [show f_law = runDef (md.gam g_law) ⟨14, b_law⟩ from rfl, runDef_eq]
  rw [b_law_split]; simp only [contsOf, slotsOf]
  obtain ⟨G, hG⟩ : ∃ G : Gam, G = { md.gam g_law with io := ([] : List Cont).length } := ⟨_, rfl⟩
  have fns : G.fns = g_law := by rw [hG]; rfl
  have io : G.io = 0 := by rw [hG]; rfl
  have con : G.con = md.con.map (·.2) := by rw [hG]; rfl
  have exq : G.exm = exmL md.exm := by rw [hG]; rfl
  have gq : g_law = g_law := rfl
  rw [← hG]
  have fn1 : G.fns[1]? = some ⟨[true], [], f_law_number⟩ := by rw [fns]; rfl
  obtain ⟨S, hS⟩ : ∃ S, S = D.lst (ns.map .int) := ⟨_, rfl⟩
  rw [← hS] at e0 ⊢
  have md := mid_ok fns io (X := [Cont.fz (.lst (vs.map pr))] ++ (rs.map fun vs => Cont.lst (vs.map pr)) ++ [Cont.lst (rs.map prs)]) (x := x) (p := trimV vs) (m := rs) (size := s) hx (fun v hv' => hv v (trim_mem hv')) (by have := trim_len vs; omega) trim_last (by omega) (by omega) hrl hr (some (.fz S)) none (some (.fz (.int (s : Int)))) none none none none none none none w5
  simp only [sl, prs] at md
  have r3 := run3 G [some (.fz S), some (.loc 0), some (.fz (pr x)), none, none, none, none, none, none, none, none, none, none, none] [4] 4 [] fn1 io (fun d => by rfl)
  have r5 := run5 G [some (.fz S), some (.loc 0), some (.fz (pr x)), some (.fz (.tup ((trimV vs).map pr))), none, some (.fz (.int (s : Int))), none, none, none, none, none, none, none, none] [.fz (.lst (vs.map pr))] fn1 io (fun d => by rfl) (fun d e => by rfl)
  simp only [List.length_nil, List.nil_append] at r3
  simp only [List.length_cons, List.length_nil] at r5
  have gt : (Cont.fz (.lst (vs.map pr)) :: ((rs.map fun vs => Cont.lst (vs.map pr)) ++ [Cont.lst (rs.map prs)]))[1 + s]? = some (Cont.lst (rs.map prs)) := by
    rw [Nat.add_comm, List.getElem?_cons_succ, List.getElem?_append_right (by rw [List.length_map, hrl]; exact Nat.le_refl _), List.length_map, hrl, Nat.sub_self]
    rfl
  simp only [List.cons_append, List.nil_append] at md
  simp [fns, g_law, io, e0, kCal2_m, kCal2_m1, e1, e2, kRng_n rfl (show k < 1000 by omega), r3, fr_at, tr, e4, hs, kRng_n rfl (show s < 1000 by omega), r5, gt, md]
end K04

/-! K04Chain -/
set_option Elab.async false
set_option linter.all false
set_option maxRecDepth 100000
set_option maxHeartbeats 0
/-! law_k04_whole_texts: each def keeps its promise (printed by gen.py). -/
namespace K04
open PySem PD L2

theorem supOk_BadText : sup_BadText.Ok := ⟨_, _, _, _, _, _, _, _, _, _, _, _, _, _, _, _, _, rfl, rfl, ⟨rfl, rfl, rfl, rfl, rfl, rfl, rfl, by decide +kernel⟩, by decide +kernel, by decide +kernel, by decide +kernel⟩
theorem supOk_TooLarge : sup_TooLarge.Ok := ⟨_, _, _, _, _, _, _, _, _, _, _, _, _, _, _, _, _, rfl, rfl, ⟨rfl, rfl, rfl, rfl, rfl, rfl, rfl, by decide +kernel⟩, by decide +kernel, by decide +kernel, by decide +kernel⟩
theorem sc_number_text : FnScope N_number_text ["x"] (defScope (top 14)) := ⟨rfl, rfl, rfl, by decide +kernel, rfl, by decide +kernel, by decide +kernel⟩
theorem ck_number_text : chkSs (md.tab N_number_text t_number_text 0) md.exc (defScope (top 14)) true b_number_text (defBody (top 14)) = true := by decide +kernel
theorem h_number_text {K : PySem.W.Frag} {mg : Str → Option Value} {w : World} {base : Heap} (E : EnvK PySem.Challenge.pw_trueruns_k04_whole_texts md K mg) : FnH ⟨K, mg⟩ PySem.Challenge.pw_trueruns_k04_whole_texts w base 1 "number_text" 1 ⟨[false], [], f_number_text⟩ :=
  fn_make E (x := "number_text") 0 (by rfl) [false] sc_number_text (by rfl) ck_number_text (fun _ _ _ _ _ _ us hl => match us, hl with | [_], _ => rfl) .nil
theorem sc_figures_end : FnScope N_figures_end ["text", "start"] (defScope (top 18)) := ⟨rfl, rfl, rfl, by decide +kernel, rfl, by decide +kernel, by decide +kernel⟩
theorem ck_figures_end : chkSs (md.tab N_figures_end t_figures_end 0) md.exc (defScope (top 18)) true b_figures_end (defBody (top 18)) = true := by decide +kernel
theorem h_figures_end {K : PySem.W.Frag} {mg : Str → Option Value} {w : World} {base : Heap} (E : EnvK PySem.Challenge.pw_trueruns_k04_whole_texts md K mg) : FnH ⟨K, mg⟩ PySem.Challenge.pw_trueruns_k04_whole_texts w base 1 "figures_end" 2 ⟨[false, false], [], f_figures_end⟩ :=
  fn_make E (x := "figures_end") 4 (by rfl) [false, false] sc_figures_end (by rfl) ck_figures_end (fun _ _ _ _ _ _ us hl => match us, hl with | [_, _], _ => rfl) .nil
theorem sc_check_lowest : FnScope N_check_lowest ["p", "q"] (defScope (top 19)) := ⟨rfl, rfl, rfl, by decide +kernel, rfl, by decide +kernel, by decide +kernel⟩
theorem ck_check_lowest : chkSs (md.tab N_check_lowest t_check_lowest 0) md.exc (defScope (top 19)) true b_check_lowest (defBody (top 19)) = true := by decide +kernel
theorem hN_check_lowest {K : PySem.W.Frag} {mg : Str → Option Value} {w : World} {base : Heap} (E : EnvK PySem.Challenge.pw_trueruns_k04_whole_texts md K mg) : FnHN ⟨K, mg⟩ PySem.Challenge.pw_trueruns_k04_whole_texts w base 1 "check_lowest" 2 ⟨[false, false], [], f_check_lowest⟩ :=
  fnN_make E (x := "check_lowest") 5 (by rfl) [false, false] (by rfl) (by rfl) sc_check_lowest (by rfl) ck_check_lowest (fun _ _ _ _ _ _ us hl => match us, hl with | [_, _], _ => rfl) .nil
theorem h_check_lowest {K : PySem.W.Frag} {mg : Str → Option Value} {w : World} {base : Heap} (E : EnvK PySem.Challenge.pw_trueruns_k04_whole_texts md K mg) : FnH ⟨K, mg⟩ PySem.Challenge.pw_trueruns_k04_whole_texts w base 1 "check_lowest" 2 ⟨[false, false], [], f_check_lowest⟩ :=
  fn_make E (x := "check_lowest") 5 (by rfl) [false, false] sc_check_lowest (by rfl) ck_check_lowest (fun _ _ _ _ _ _ us hl => match us, hl with | [_, _], _ => rfl) .nil
theorem sc_check_text : FnScope N_check_text ["thing"] (defScope (top 24)) := ⟨rfl, rfl, rfl, by decide +kernel, rfl, by decide +kernel, by decide +kernel⟩
theorem ck_check_text : chkSs (md.tab N_check_text t_check_text 0) md.exc (defScope (top 24)) true b_check_text (defBody (top 24)) = true := by decide +kernel
theorem h_check_text {K : PySem.W.Frag} {mg : Str → Option Value} {w : World} {base : Heap} (E : EnvK PySem.Challenge.pw_trueruns_k04_whole_texts md K mg) : FnH ⟨K, mg⟩ PySem.Challenge.pw_trueruns_k04_whole_texts w base 1 "check_text" 1 ⟨[false], [], f_check_text⟩ :=
  fn_make E (x := "check_text") 10 (by rfl) [false] sc_check_text (by rfl) ck_check_text (fun _ _ _ _ _ _ us hl => match us, hl with | [_], _ => rfl) .nil
theorem sc_law_well : FnScope N_law_well ["script"] (defScope (top 29)) := ⟨rfl, rfl, rfl, by decide +kernel, rfl, by decide +kernel, by decide +kernel⟩
theorem ck_law_well : chkSs (md.tab N_law_well t_law_well 0) md.exc (defScope (top 29)) true b_law_well (defBody (top 29)) = true := by decide +kernel
theorem h_law_well {K : PySem.W.Frag} {mg : Str → Option Value} {w : World} {base : Heap} (E : EnvK PySem.Challenge.pw_trueruns_k04_whole_texts md K mg) : FnH ⟨K, mg⟩ PySem.Challenge.pw_trueruns_k04_whole_texts w base 1 "_law_well" 1 ⟨[false], [], f_law_well⟩ :=
  fn_make E (x := "_law_well") 14 (by rfl) [false] sc_law_well (by rfl) ck_law_well (fun _ _ _ _ _ _ us hl => match us, hl with | [_], _ => rfl) .nil
theorem sc_law_pull : FnScope N_law_pull ["well", "top"] (defScope (top 30)) := ⟨rfl, rfl, rfl, by decide +kernel, rfl, by decide +kernel, by decide +kernel⟩
theorem ck_law_pull : chkSs (md.tab N_law_pull t_law_pull 0) md.exc (defScope (top 30)) true b_law_pull (defBody (top 30)) = true := by decide +kernel
theorem h_law_pull {K : PySem.W.Frag} {mg : Str → Option Value} {w : World} {base : Heap} (E : EnvK PySem.Challenge.pw_trueruns_k04_whole_texts md K mg) : FnH ⟨K, mg⟩ PySem.Challenge.pw_trueruns_k04_whole_texts w base 1 "_law_pull" 2 ⟨[true, false], [], f_law_pull⟩ :=
  fn_make E (x := "_law_pull") 15 (by rfl) [true, false] sc_law_pull (by rfl) ck_law_pull (fun _ _ _ _ _ _ us hl => match us, hl with | [_, _], _ => rfl) .nil
theorem sc_law_gcd : FnScope N_law_gcd ["one", "two"] (defScope (top 31)) := ⟨rfl, rfl, rfl, by decide +kernel, rfl, by decide +kernel, by decide +kernel⟩
theorem ck_law_gcd : chkSs (md.tab N_law_gcd t_law_gcd 0) md.exc (defScope (top 31)) true b_law_gcd (defBody (top 31)) = true := by decide +kernel
theorem h_law_gcd {K : PySem.W.Frag} {mg : Str → Option Value} {w : World} {base : Heap} (E : EnvK PySem.Challenge.pw_trueruns_k04_whole_texts md K mg) : FnH ⟨K, mg⟩ PySem.Challenge.pw_trueruns_k04_whole_texts w base 1 "_law_gcd" 2 ⟨[false, false], [], f_law_gcd⟩ :=
  fn_make E (x := "_law_gcd") 16 (by rfl) [false, false] sc_law_gcd (by rfl) ck_law_gcd (fun _ _ _ _ _ _ us hl => match us, hl with | [_, _], _ => rfl) .nil
theorem sc_law_whole : FnScope N_law_whole ["told"] (defScope (top 33)) := ⟨rfl, rfl, rfl, by decide +kernel, rfl, by decide +kernel, by decide +kernel⟩
theorem ck_law_whole : chkSs (md.tab N_law_whole t_law_whole 0) md.exc (defScope (top 33)) true b_law_whole (defBody (top 33)) = true := by decide +kernel
theorem h_law_whole {K : PySem.W.Frag} {mg : Str → Option Value} {w : World} {base : Heap} (E : EnvK PySem.Challenge.pw_trueruns_k04_whole_texts md K mg) : FnH ⟨K, mg⟩ PySem.Challenge.pw_trueruns_k04_whole_texts w base 1 "_law_whole" 1 ⟨[false], [], f_law_whole⟩ :=
  fn_make E (x := "_law_whole") 18 (by rfl) [false] sc_law_whole (by rfl) ck_law_whole (fun _ _ _ _ _ _ us hl => match us, hl with | [_], _ => rfl) .nil
theorem sc_law_trim : FnScope N_law_trim ["row"] (defScope (top 37)) := ⟨rfl, rfl, rfl, by decide +kernel, rfl, by decide +kernel, by decide +kernel⟩
theorem ck_law_trim : chkSs (md.tab N_law_trim t_law_trim 0) md.exc (defScope (top 37)) true b_law_trim (defBody (top 37)) = true := by decide +kernel
theorem h_law_trim {K : PySem.W.Frag} {mg : Str → Option Value} {w : World} {base : Heap} (E : EnvK PySem.Challenge.pw_trueruns_k04_whole_texts md K mg) : FnH ⟨K, mg⟩ PySem.Challenge.pw_trueruns_k04_whole_texts w base 1 "_law_trim" 1 ⟨[false], [], f_law_trim⟩ :=
  fn_make E (x := "_law_trim") 22 (by rfl) [false] sc_law_trim (by rfl) ck_law_trim (fun _ _ _ _ _ _ us hl => match us, hl with | [_], _ => rfl) .nil
theorem sc_law_written : FnScope N_law_written ["x"] (defScope (top 38)) := ⟨rfl, rfl, rfl, by decide +kernel, rfl, by decide +kernel, by decide +kernel⟩
theorem ck_law_written : chkSs (md.tab N_law_written t_law_written 0) md.exc (defScope (top 38)) true b_law_written (defBody (top 38)) = true := by decide +kernel
theorem h_law_written {K : PySem.W.Frag} {mg : Str → Option Value} {w : World} {base : Heap} (E : EnvK PySem.Challenge.pw_trueruns_k04_whole_texts md K mg) : FnH ⟨K, mg⟩ PySem.Challenge.pw_trueruns_k04_whole_texts w base 1 "_law_written" 1 ⟨[false], [], f_law_written⟩ :=
  fn_make E (x := "_law_written") 23 (by rfl) [false] sc_law_written (by rfl) ck_law_written (fun _ _ _ _ _ _ us hl => match us, hl with | [_], _ => rfl) .nil
theorem sc_law_is_figure : FnScope N_law_is_figure ["text", "spot"] (defScope (top 40)) := ⟨rfl, rfl, rfl, by decide +kernel, rfl, by decide +kernel, by decide +kernel⟩
theorem ck_law_is_figure : chkSs (md.tab N_law_is_figure t_law_is_figure 0) md.exc (defScope (top 40)) true b_law_is_figure (defBody (top 40)) = true := by decide +kernel
theorem h_law_is_figure {K : PySem.W.Frag} {mg : Str → Option Value} {w : World} {base : Heap} (E : EnvK PySem.Challenge.pw_trueruns_k04_whole_texts md K mg) : FnH ⟨K, mg⟩ PySem.Challenge.pw_trueruns_k04_whole_texts w base 1 "_law_is_figure" 2 ⟨[false, false], [], f_law_is_figure⟩ :=
  fn_make E (x := "_law_is_figure") 25 (by rfl) [false, false] sc_law_is_figure (by rfl) ck_law_is_figure (fun _ _ _ _ _ _ us hl => match us, hl with | [_, _], _ => rfl) .nil
theorem sc_numbers_text : FnScope N_numbers_text ["row"] (defScope (top 15)) := ⟨rfl, rfl, rfl, by decide +kernel, rfl, by decide +kernel, by decide +kernel⟩
theorem ck_numbers_text : chkSs (md.tab N_numbers_text t_numbers_text 1) md.exc (defScope (top 15)) true b_numbers_text (defBody (top 15)) = true := by decide +kernel
theorem h_numbers_text {K : PySem.W.Frag} {mg : Str → Option Value} {w : World} {base : Heap} (E : EnvK PySem.Challenge.pw_trueruns_k04_whole_texts md K mg) : FnH ⟨K, mg⟩ PySem.Challenge.pw_trueruns_k04_whole_texts w base 2 "numbers_text" 1 ⟨[false], [], f_numbers_text⟩ :=
  fn_make E (x := "numbers_text") 1 (by rfl) [false] sc_numbers_text (by rfl) ck_numbers_text (fun _ _ _ _ _ _ us hl => match us, hl with | [_], _ => rfl) (.cons ((h_number_text E).mono (by decide)) .nil)
theorem sc_scan_number : FnScope N_scan_number ["text", "start"] (defScope (top 20)) := ⟨rfl, rfl, rfl, by decide +kernel, rfl, by decide +kernel, by decide +kernel⟩
theorem ck_scan_number : chkSs (md.tabC N_scan_number t_scan_number 1 ["check_lowest"]) md.exc (defScope (top 20)) true b_scan_number (defBody (top 20)) = true := by decide +kernel
theorem h_scan_number {K : PySem.W.Frag} {mg : Str → Option Value} {w : World} {base : Heap} (E : EnvK PySem.Challenge.pw_trueruns_k04_whole_texts md K mg) : FnH ⟨K, mg⟩ PySem.Challenge.pw_trueruns_k04_whole_texts w base 2 "scan_number" 2 ⟨[false, false], [], f_scan_number⟩ :=
  fn_make_x E (x := "scan_number") 6 (by rfl) [false, false] (y := "check_lowest") (ny := 2) 1 (by rfl) (fun j' n' h => by rcases j' with _ | _ | j' <;> simp [t_scan_number] at h <;> first | exact ⟨rfl, h.symm⟩ | exact absurd h.1 (by decide) | (cases h)) sc_scan_number (by rfl) ck_scan_number (fun _ _ _ _ _ _ us hl => match us, hl with | [_, _], _ => rfl) (.cons ((h_figures_end E).mono (by decide)) (.cons ((h_check_lowest E).mono (by decide)) .nil)) ((hN_check_lowest E).mono (by decide))
theorem sc_law_frac : FnScope N_law_frac ["top", "bottom"] (defScope (top 32)) := ⟨rfl, rfl, rfl, by decide +kernel, rfl, by decide +kernel, by decide +kernel⟩
theorem ck_law_frac : chkSs (md.tab N_law_frac t_law_frac 1) md.exc (defScope (top 32)) true b_law_frac (defBody (top 32)) = true := by decide +kernel
theorem h_law_frac {K : PySem.W.Frag} {mg : Str → Option Value} {w : World} {base : Heap} (E : EnvK PySem.Challenge.pw_trueruns_k04_whole_texts md K mg) : FnH ⟨K, mg⟩ PySem.Challenge.pw_trueruns_k04_whole_texts w base 2 "_law_frac" 2 ⟨[false, false], [], f_law_frac⟩ :=
  fn_make E (x := "_law_frac") 17 (by rfl) [false, false] sc_law_frac (by rfl) ck_law_frac (fun _ _ _ _ _ _ us hl => match us, hl with | [_, _], _ => rfl) (.cons ((h_law_gcd E).mono (by decide)) .nil)
theorem sc_law_is_frac : FnScope N_law_is_frac ["told"] (defScope (top 34)) := ⟨rfl, rfl, rfl, by decide +kernel, rfl, by decide +kernel, by decide +kernel⟩
theorem ck_law_is_frac : chkSs (md.tab N_law_is_frac t_law_is_frac 1) md.exc (defScope (top 34)) true b_law_is_frac (defBody (top 34)) = true := by decide +kernel
theorem h_law_is_frac {K : PySem.W.Frag} {mg : Str → Option Value} {w : World} {base : Heap} (E : EnvK PySem.Challenge.pw_trueruns_k04_whole_texts md K mg) : FnH ⟨K, mg⟩ PySem.Challenge.pw_trueruns_k04_whole_texts w base 2 "_law_is_frac" 1 ⟨[false], [], f_law_is_frac⟩ :=
  fn_make E (x := "_law_is_frac") 19 (by rfl) [false] sc_law_is_frac (by rfl) ck_law_is_frac (fun _ _ _ _ _ _ us hl => match us, hl with | [_], _ => rfl) (.cons ((h_law_whole E).mono (by decide)) (.cons ((h_law_gcd E).mono (by decide)) .nil))
theorem sc_law_line : FnScope N_law_line ["row"] (defScope (top 39)) := ⟨rfl, rfl, rfl, by decide +kernel, rfl, by decide +kernel, by decide +kernel⟩
theorem ck_law_line : chkSs (md.tab N_law_line t_law_line 1) md.exc (defScope (top 39)) true b_law_line (defBody (top 39)) = true := by decide +kernel
theorem h_law_line {K : PySem.W.Frag} {mg : Str → Option Value} {w : World} {base : Heap} (E : EnvK PySem.Challenge.pw_trueruns_k04_whole_texts md K mg) : FnH ⟨K, mg⟩ PySem.Challenge.pw_trueruns_k04_whole_texts w base 2 "_law_line" 1 ⟨[false], [], f_law_line⟩ :=
  fn_make E (x := "_law_line") 24 (by rfl) [false] sc_law_line (by rfl) ck_law_line (fun _ _ _ _ _ _ us hl => match us, hl with | [_], _ => rfl) (.cons ((h_law_written E).mono (by decide)) .nil)
theorem sc_law_run : FnScope N_law_run ["text", "spot"] (defScope (top 41)) := ⟨rfl, rfl, rfl, by decide +kernel, rfl, by decide +kernel, by decide +kernel⟩
theorem ck_law_run : chkSs (md.tab N_law_run t_law_run 1) md.exc (defScope (top 41)) true b_law_run (defBody (top 41)) = true := by decide +kernel
theorem h_law_run {K : PySem.W.Frag} {mg : Str → Option Value} {w : World} {base : Heap} (E : EnvK PySem.Challenge.pw_trueruns_k04_whole_texts md K mg) : FnH ⟨K, mg⟩ PySem.Challenge.pw_trueruns_k04_whole_texts w base 2 "_law_run" 2 ⟨[false, false], [], f_law_run⟩ :=
  fn_make E (x := "_law_run") 26 (by rfl) [false, false] sc_law_run (by rfl) ck_law_run (fun _ _ _ _ _ _ us hl => match us, hl with | [_, _], _ => rfl) (.cons ((h_law_is_figure E).mono (by decide)) .nil)
theorem sc_law_bent : FnScope N_law_bent ["well", "text"] (defScope (top 50)) := ⟨rfl, rfl, rfl, by decide +kernel, rfl, by decide +kernel, by decide +kernel⟩
theorem ck_law_bent : chkSs (md.tab N_law_bent t_law_bent 1) md.exc (defScope (top 50)) true b_law_bent (defBody (top 50)) = true := by decide +kernel
theorem h_law_bent {K : PySem.W.Frag} {mg : Str → Option Value} {w : World} {base : Heap} (E : EnvK PySem.Challenge.pw_trueruns_k04_whole_texts md K mg) : FnH ⟨K, mg⟩ PySem.Challenge.pw_trueruns_k04_whole_texts w base 2 "_law_bent" 2 ⟨[true, false], [], f_law_bent⟩ :=
  fn_make E (x := "_law_bent") 35 (by rfl) [true, false] sc_law_bent (by rfl) ck_law_bent (fun _ _ _ _ _ _ us hl => match us, hl with | [_, _], _ => rfl) (.cons ((h_law_pull E).mono (by decide)) .nil)
theorem sc_poly_text : FnScope N_poly_text ["p"] (defScope (top 16)) := ⟨rfl, rfl, rfl, by decide +kernel, rfl, by decide +kernel, by decide +kernel⟩
theorem ck_poly_text : chkSs (md.tab N_poly_text t_poly_text 2) md.exc (defScope (top 16)) true b_poly_text (defBody (top 16)) = true := by decide +kernel
theorem h_poly_text {K : PySem.W.Frag} {mg : Str → Option Value} {w : World} {base : Heap} (E : EnvK PySem.Challenge.pw_trueruns_k04_whole_texts md K mg) : FnH ⟨K, mg⟩ PySem.Challenge.pw_trueruns_k04_whole_texts w base 3 "poly_text" 1 ⟨[false], [], f_poly_text⟩ :=
  fn_make E (x := "poly_text") 2 (by rfl) [false] sc_poly_text (by rfl) ck_poly_text (fun _ _ _ _ _ _ us hl => match us, hl with | [_], _ => rfl) (.cons ((h_numbers_text E).mono (by decide)) .nil)
theorem sc_matrix_text : FnScope N_matrix_text ["m"] (defScope (top 17)) := ⟨rfl, rfl, rfl, by decide +kernel, rfl, by decide +kernel, by decide +kernel⟩
theorem ck_matrix_text : chkSs (md.tab N_matrix_text t_matrix_text 2) md.exc (defScope (top 17)) true b_matrix_text (defBody (top 17)) = true := by decide +kernel
theorem h_matrix_text {K : PySem.W.Frag} {mg : Str → Option Value} {w : World} {base : Heap} (E : EnvK PySem.Challenge.pw_trueruns_k04_whole_texts md K mg) : FnH ⟨K, mg⟩ PySem.Challenge.pw_trueruns_k04_whole_texts w base 3 "matrix_text" 1 ⟨[false], [], f_matrix_text⟩ :=
  fn_make E (x := "matrix_text") 3 (by rfl) [false] sc_matrix_text (by rfl) ck_matrix_text (fun _ _ _ _ _ _ us hl => match us, hl with | [_], _ => rfl) (.cons ((h_numbers_text E).mono (by decide)) .nil)
theorem sc_scan_numbers : FnScope N_scan_numbers ["text", "start"] (defScope (top 21)) := ⟨rfl, rfl, rfl, by decide +kernel, rfl, by decide +kernel, by decide +kernel⟩
theorem ck_scan_numbers : chkSs (md.tab N_scan_numbers t_scan_numbers 2) md.exc (defScope (top 21)) true b_scan_numbers (defBody (top 21)) = true := by decide +kernel
theorem h_scan_numbers {K : PySem.W.Frag} {mg : Str → Option Value} {w : World} {base : Heap} (E : EnvK PySem.Challenge.pw_trueruns_k04_whole_texts md K mg) : FnH ⟨K, mg⟩ PySem.Challenge.pw_trueruns_k04_whole_texts w base 3 "scan_numbers" 2 ⟨[false, false], [], f_scan_numbers⟩ :=
  fn_make E (x := "scan_numbers") 7 (by rfl) [false, false] sc_scan_numbers (by rfl) ck_scan_numbers (fun _ _ _ _ _ _ us hl => match us, hl with | [_, _], _ => rfl) (.cons ((h_scan_number E).mono (by decide)) .nil)
theorem sc_read_number : FnScope N_read_number ["text"] (defScope (top 25)) := ⟨rfl, rfl, rfl, by decide +kernel, rfl, by decide +kernel, by decide +kernel⟩
theorem ck_read_number : chkSs (md.tab N_read_number t_read_number 2) md.exc (defScope (top 25)) true b_read_number (defBody (top 25)) = true := by decide +kernel
theorem h_read_number {K : PySem.W.Frag} {mg : Str → Option Value} {w : World} {base : Heap} (E : EnvK PySem.Challenge.pw_trueruns_k04_whole_texts md K mg) : FnH ⟨K, mg⟩ PySem.Challenge.pw_trueruns_k04_whole_texts w base 3 "read_number" 1 ⟨[false], [], f_read_number⟩ :=
  fn_make E (x := "read_number") 11 (by rfl) [false] sc_read_number (by rfl) ck_read_number (fun _ _ _ _ _ _ us hl => match us, hl with | [_], _ => rfl) (.cons ((h_scan_number E).mono (by decide)) (.cons ((h_check_text E).mono (by decide)) .nil))
theorem sc_law_is_row : FnScope N_law_is_row ["told"] (defScope (top 35)) := ⟨rfl, rfl, rfl, by decide +kernel, rfl, by decide +kernel, by decide +kernel⟩
theorem ck_law_is_row : chkSs (md.tab N_law_is_row t_law_is_row 2) md.exc (defScope (top 35)) true b_law_is_row (defBody (top 35)) = true := by decide +kernel
theorem h_law_is_row {K : PySem.W.Frag} {mg : Str → Option Value} {w : World} {base : Heap} (E : EnvK PySem.Challenge.pw_trueruns_k04_whole_texts md K mg) : FnH ⟨K, mg⟩ PySem.Challenge.pw_trueruns_k04_whole_texts w base 3 "_law_is_row" 1 ⟨[false], [], f_law_is_row⟩ :=
  fn_make E (x := "_law_is_row") 20 (by rfl) [false] sc_law_is_row (by rfl) ck_law_is_row (fun _ _ _ _ _ _ us hl => match us, hl with | [_], _ => rfl) (.cons ((h_law_is_frac E).mono (by decide)) .nil)
theorem sc_law_number : FnScope N_law_number ["well"] (defScope (top 36)) := ⟨rfl, rfl, rfl, by decide +kernel, rfl, by decide +kernel, by decide +kernel⟩
theorem ck_law_number : chkSs (md.tab N_law_number t_law_number 2) md.exc (defScope (top 36)) true b_law_number (defBody (top 36)) = true := by decide +kernel
theorem h_law_number {K : PySem.W.Frag} {mg : Str → Option Value} {w : World} {base : Heap} (E : EnvK PySem.Challenge.pw_trueruns_k04_whole_texts md K mg) : FnH ⟨K, mg⟩ PySem.Challenge.pw_trueruns_k04_whole_texts w base 3 "_law_number" 1 ⟨[true], [], f_law_number⟩ :=
  fn_make E (x := "_law_number") 21 (by rfl) [true] sc_law_number (by rfl) ck_law_number (fun _ _ _ _ _ _ us hl => match us, hl with | [_], _ => rfl) (.cons ((h_law_pull E).mono (by decide)) (.cons ((h_law_frac E).mono (by decide)) .nil))
theorem sc_law_scan : FnScope N_law_scan ["text", "start"] (defScope (top 42)) := ⟨rfl, rfl, rfl, by decide +kernel, rfl, by decide +kernel, by decide +kernel⟩
theorem ck_law_scan : chkSs (md.tab N_law_scan t_law_scan 2) md.exc (defScope (top 42)) true b_law_scan (defBody (top 42)) = true := by decide +kernel
theorem h_law_scan {K : PySem.W.Frag} {mg : Str → Option Value} {w : World} {base : Heap} (E : EnvK PySem.Challenge.pw_trueruns_k04_whole_texts md K mg) : FnH ⟨K, mg⟩ PySem.Challenge.pw_trueruns_k04_whole_texts w base 3 "_law_scan" 2 ⟨[false, false], [], f_law_scan⟩ :=
  fn_make E (x := "_law_scan") 27 (by rfl) [false, false] sc_law_scan (by rfl) ck_law_scan (fun _ _ _ _ _ _ us hl => match us, hl with | [_, _], _ => rfl) (.cons ((h_law_is_figure E).mono (by decide)) (.cons ((h_law_run E).mono (by decide)) (.cons ((h_law_gcd E).mono (by decide)) .nil)))
theorem sc_scan_poly : FnScope N_scan_poly ["text", "start"] (defScope (top 22)) := ⟨rfl, rfl, rfl, by decide +kernel, rfl, by decide +kernel, by decide +kernel⟩
theorem ck_scan_poly : chkSs (md.tab N_scan_poly t_scan_poly 3) md.exc (defScope (top 22)) true b_scan_poly (defBody (top 22)) = true := by decide +kernel
theorem h_scan_poly {K : PySem.W.Frag} {mg : Str → Option Value} {w : World} {base : Heap} (E : EnvK PySem.Challenge.pw_trueruns_k04_whole_texts md K mg) : FnH ⟨K, mg⟩ PySem.Challenge.pw_trueruns_k04_whole_texts w base 4 "scan_poly" 2 ⟨[false, false], [], f_scan_poly⟩ :=
  fn_make E (x := "scan_poly") 8 (by rfl) [false, false] sc_scan_poly (by rfl) ck_scan_poly (fun _ _ _ _ _ _ us hl => match us, hl with | [_, _], _ => rfl) (.cons ((h_scan_numbers E).mono (by decide)) .nil)
theorem sc_scan_matrix : FnScope N_scan_matrix ["text", "start"] (defScope (top 23)) := ⟨rfl, rfl, rfl, by decide +kernel, rfl, by decide +kernel, by decide +kernel⟩
theorem ck_scan_matrix : chkSs (md.tab N_scan_matrix t_scan_matrix 3) md.exc (defScope (top 23)) true b_scan_matrix (defBody (top 23)) = true := by decide +kernel
theorem h_scan_matrix {K : PySem.W.Frag} {mg : Str → Option Value} {w : World} {base : Heap} (E : EnvK PySem.Challenge.pw_trueruns_k04_whole_texts md K mg) : FnH ⟨K, mg⟩ PySem.Challenge.pw_trueruns_k04_whole_texts w base 4 "scan_matrix" 2 ⟨[false, false], [], f_scan_matrix⟩ :=
  fn_make E (x := "scan_matrix") 9 (by rfl) [false, false] sc_scan_matrix (by rfl) ck_scan_matrix (fun _ _ _ _ _ _ us hl => match us, hl with | [_, _], _ => rfl) (.cons ((h_scan_numbers E).mono (by decide)) .nil)
theorem sc_law_numbers : FnScope N_law_numbers ["text", "start"] (defScope (top 43)) := ⟨rfl, rfl, rfl, by decide +kernel, rfl, by decide +kernel, by decide +kernel⟩
theorem ck_law_numbers : chkSs (md.tab N_law_numbers t_law_numbers 3) md.exc (defScope (top 43)) true b_law_numbers (defBody (top 43)) = true := by decide +kernel
theorem h_law_numbers {K : PySem.W.Frag} {mg : Str → Option Value} {w : World} {base : Heap} (E : EnvK PySem.Challenge.pw_trueruns_k04_whole_texts md K mg) : FnH ⟨K, mg⟩ PySem.Challenge.pw_trueruns_k04_whole_texts w base 4 "_law_numbers" 2 ⟨[false, false], [], f_law_numbers⟩ :=
  fn_make E (x := "_law_numbers") 28 (by rfl) [false, false] sc_law_numbers (by rfl) ck_law_numbers (fun _ _ _ _ _ _ us hl => match us, hl with | [_, _], _ => rfl) (.cons ((h_law_scan E).mono (by decide)) .nil)
theorem sc_law_is_matrix : FnScope N_law_is_matrix ["told"] (defScope (top 48)) := ⟨rfl, rfl, rfl, by decide +kernel, rfl, by decide +kernel, by decide +kernel⟩
theorem ck_law_is_matrix : chkSs (md.tab N_law_is_matrix t_law_is_matrix 3) md.exc (defScope (top 48)) true b_law_is_matrix (defBody (top 48)) = true := by decide +kernel
theorem h_law_is_matrix {K : PySem.W.Frag} {mg : Str → Option Value} {w : World} {base : Heap} (E : EnvK PySem.Challenge.pw_trueruns_k04_whole_texts md K mg) : FnH ⟨K, mg⟩ PySem.Challenge.pw_trueruns_k04_whole_texts w base 4 "_law_is_matrix" 1 ⟨[false], [], f_law_is_matrix⟩ :=
  fn_make E (x := "_law_is_matrix") 33 (by rfl) [false] sc_law_is_matrix (by rfl) ck_law_is_matrix (fun _ _ _ _ _ _ us hl => match us, hl with | [_], _ => rfl) (.cons ((h_law_is_row E).mono (by decide)) .nil)
theorem sc_read_poly : FnScope N_read_poly ["text"] (defScope (top 26)) := ⟨rfl, rfl, rfl, by decide +kernel, rfl, by decide +kernel, by decide +kernel⟩
theorem ck_read_poly : chkSs (md.tab N_read_poly t_read_poly 4) md.exc (defScope (top 26)) true b_read_poly (defBody (top 26)) = true := by decide +kernel
theorem h_read_poly {K : PySem.W.Frag} {mg : Str → Option Value} {w : World} {base : Heap} (E : EnvK PySem.Challenge.pw_trueruns_k04_whole_texts md K mg) : FnH ⟨K, mg⟩ PySem.Challenge.pw_trueruns_k04_whole_texts w base 5 "read_poly" 1 ⟨[false], [], f_read_poly⟩ :=
  fn_make E (x := "read_poly") 12 (by rfl) [false] sc_read_poly (by rfl) ck_read_poly (fun _ _ _ _ _ _ us hl => match us, hl with | [_], _ => rfl) (.cons ((h_scan_poly E).mono (by decide)) (.cons ((h_check_text E).mono (by decide)) .nil))
theorem sc_read_matrix : FnScope N_read_matrix ["text"] (defScope (top 27)) := ⟨rfl, rfl, rfl, by decide +kernel, rfl, by decide +kernel, by decide +kernel⟩
theorem ck_read_matrix : chkSs (md.tab N_read_matrix t_read_matrix 4) md.exc (defScope (top 27)) true b_read_matrix (defBody (top 27)) = true := by decide +kernel
theorem h_read_matrix {K : PySem.W.Frag} {mg : Str → Option Value} {w : World} {base : Heap} (E : EnvK PySem.Challenge.pw_trueruns_k04_whole_texts md K mg) : FnH ⟨K, mg⟩ PySem.Challenge.pw_trueruns_k04_whole_texts w base 5 "read_matrix" 1 ⟨[false], [], f_read_matrix⟩ :=
  fn_make E (x := "read_matrix") 13 (by rfl) [false] sc_read_matrix (by rfl) ck_read_matrix (fun _ _ _ _ _ _ us hl => match us, hl with | [_], _ => rfl) (.cons ((h_scan_matrix E).mono (by decide)) (.cons ((h_check_text E).mono (by decide)) .nil))
theorem sc_law_poly_due : FnScope N_law_poly_due ["text"] (defScope (top 44)) := ⟨rfl, rfl, rfl, by decide +kernel, rfl, by decide +kernel, by decide +kernel⟩
theorem ck_law_poly_due : chkSs (md.tab N_law_poly_due t_law_poly_due 4) md.exc (defScope (top 44)) true b_law_poly_due (defBody (top 44)) = true := by decide +kernel
theorem h_law_poly_due {K : PySem.W.Frag} {mg : Str → Option Value} {w : World} {base : Heap} (E : EnvK PySem.Challenge.pw_trueruns_k04_whole_texts md K mg) : FnH ⟨K, mg⟩ PySem.Challenge.pw_trueruns_k04_whole_texts w base 5 "_law_poly_due" 1 ⟨[false], [], f_law_poly_due⟩ :=
  fn_make E (x := "_law_poly_due") 29 (by rfl) [false] sc_law_poly_due (by rfl) ck_law_poly_due (fun _ _ _ _ _ _ us hl => match us, hl with | [_], _ => rfl) (.cons ((h_law_numbers E).mono (by decide)) (.cons ((h_law_trim E).mono (by decide)) .nil))
theorem sc_law_matrix_due : FnScope N_law_matrix_due ["text"] (defScope (top 45)) := ⟨rfl, rfl, rfl, by decide +kernel, rfl, by decide +kernel, by decide +kernel⟩
theorem ck_law_matrix_due : chkSs (md.tab N_law_matrix_due t_law_matrix_due 4) md.exc (defScope (top 45)) true b_law_matrix_due (defBody (top 45)) = true := by decide +kernel
theorem h_law_matrix_due {K : PySem.W.Frag} {mg : Str → Option Value} {w : World} {base : Heap} (E : EnvK PySem.Challenge.pw_trueruns_k04_whole_texts md K mg) : FnH ⟨K, mg⟩ PySem.Challenge.pw_trueruns_k04_whole_texts w base 5 "_law_matrix_due" 1 ⟨[false], [], f_law_matrix_due⟩ :=
  fn_make E (x := "_law_matrix_due") 30 (by rfl) [false] sc_law_matrix_due (by rfl) ck_law_matrix_due (fun _ _ _ _ _ _ us hl => match us, hl with | [_], _ => rfl) (.cons ((h_law_numbers E).mono (by decide)) .nil)
theorem sc_law_due : FnScope N_law_due ["door", "text"] (defScope (top 46)) := ⟨rfl, rfl, rfl, by decide +kernel, rfl, by decide +kernel, by decide +kernel⟩
theorem ck_law_due : chkSs (md.tab N_law_due t_law_due 5) md.exc (defScope (top 46)) true b_law_due (defBody (top 46)) = true := by decide +kernel
theorem h_law_due {K : PySem.W.Frag} {mg : Str → Option Value} {w : World} {base : Heap} (E : EnvK PySem.Challenge.pw_trueruns_k04_whole_texts md K mg) : FnH ⟨K, mg⟩ PySem.Challenge.pw_trueruns_k04_whole_texts w base 6 "_law_due" 2 ⟨[false, false], [], f_law_due⟩ :=
  fn_make E (x := "_law_due") 31 (by rfl) [false, false] sc_law_due (by rfl) ck_law_due (fun _ _ _ _ _ _ us hl => match us, hl with | [_, _], _ => rfl) (.cons ((h_law_scan E).mono (by decide)) (.cons ((h_law_poly_due E).mono (by decide)) (.cons ((h_law_matrix_due E).mono (by decide)) .nil)))
theorem sc_law_asked : FnScope N_law_asked ["door", "text"] (defScope (top 47)) := ⟨rfl, rfl, rfl, by decide +kernel, rfl, by decide +kernel, by decide +kernel⟩
theorem ck_law_asked : chkSs (md.tab N_law_asked t_law_asked 5) md.exc (defScope (top 47)) true b_law_asked (defBody (top 47)) = true := by decide +kernel
theorem h_law_asked {K : PySem.W.Frag} {mg : Str → Option Value} {w : World} {base : Heap} (E : EnvK PySem.Challenge.pw_trueruns_k04_whole_texts md K mg) : FnH ⟨K, mg⟩ PySem.Challenge.pw_trueruns_k04_whole_texts w base 6 "_law_asked" 2 ⟨[false, false], [], f_law_asked⟩ :=
  fn_make E (x := "_law_asked") 32 (by rfl) [false, false] sc_law_asked (by rfl) ck_law_asked (fun _ _ _ _ _ _ us hl => match us, hl with | [_, _], _ => rfl) (.cons ((h_read_number E).mono (by decide)) (.cons ((h_read_poly E).mono (by decide)) (.cons ((h_read_matrix E).mono (by decide)) .nil)))
theorem sc_law_read : FnScope N_law_read ["door", "text"] (defScope (top 49)) := ⟨rfl, rfl, rfl, by decide +kernel, rfl, by decide +kernel, by decide +kernel⟩
theorem ck_law_read : chkSs (md.tab N_law_read t_law_read 6) md.exc (defScope (top 49)) true b_law_read (defBody (top 49)) = true := by decide +kernel
theorem h_law_read {K : PySem.W.Frag} {mg : Str → Option Value} {w : World} {base : Heap} (E : EnvK PySem.Challenge.pw_trueruns_k04_whole_texts md K mg) : FnH ⟨K, mg⟩ PySem.Challenge.pw_trueruns_k04_whole_texts w base 7 "_law_read" 2 ⟨[false, false], [], f_law_read⟩ :=
  fn_make E (x := "_law_read") 34 (by rfl) [false, false] sc_law_read (by rfl) ck_law_read (fun _ _ _ _ _ _ us hl => match us, hl with | [_, _], _ => rfl) (.cons ((h_law_due E).mono (by decide)) (.cons ((h_law_asked E).mono (by decide)) (.cons ((h_law_whole E).mono (by decide)) (.cons ((h_law_is_frac E).mono (by decide)) (.cons ((h_law_is_row E).mono (by decide)) (.cons ((h_law_is_matrix E).mono (by decide)) .nil))))))
theorem sc_law_edges : FnScope N_law_edges [] (defScope (top 51)) := ⟨rfl, rfl, rfl, by decide +kernel, rfl, by decide +kernel, by decide +kernel⟩
theorem ck_law_edges : chkSs (md.tab N_law_edges t_law_edges 7) md.exc (defScope (top 51)) true b_law_edges (defBody (top 51)) = true := by decide +kernel
theorem h_law_edges {K : PySem.W.Frag} {mg : Str → Option Value} {w : World} {base : Heap} (E : EnvK PySem.Challenge.pw_trueruns_k04_whole_texts md K mg) : FnH ⟨K, mg⟩ PySem.Challenge.pw_trueruns_k04_whole_texts w base 8 "_law_edges" 0 ⟨[], [], f_law_edges⟩ :=
  fn_make E (x := "_law_edges") 36 (by rfl) [] sc_law_edges (by rfl) ck_law_edges (fun _ _ _ _ _ _ us hl => match us, hl with | [], _ => rfl) (.cons ((h_law_read E).mono (by decide)) .nil)
theorem sc_law_great : FnScope N_law_great ["more"] (defScope (top 52)) := ⟨rfl, rfl, rfl, by decide +kernel, rfl, by decide +kernel, by decide +kernel⟩
theorem ck_law_great : chkSs (md.tab N_law_great t_law_great 7) md.exc (defScope (top 52)) true b_law_great (defBody (top 52)) = true := by decide +kernel
theorem h_law_great {K : PySem.W.Frag} {mg : Str → Option Value} {w : World} {base : Heap} (E : EnvK PySem.Challenge.pw_trueruns_k04_whole_texts md K mg) : FnH ⟨K, mg⟩ PySem.Challenge.pw_trueruns_k04_whole_texts w base 8 "_law_great" 1 ⟨[false], [], f_law_great⟩ :=
  fn_make E (x := "_law_great") 37 (by rfl) [false] sc_law_great (by rfl) ck_law_great (fun _ _ _ _ _ _ us hl => match us, hl with | [_], _ => rfl) (.cons ((h_law_read E).mono (by decide)) .nil)
theorem sc_law : FnScope N_law ["script"] (defScope (top 53)) := ⟨rfl, rfl, rfl, by decide +kernel, rfl, by decide +kernel, by decide +kernel⟩
theorem ck_law : chkSs (md.tab N_law t_law 8) md.exc (defScope (top 53)) true b_law (defBody (top 53)) = true := by decide +kernel
theorem h_law {K : PySem.W.Frag} {mg : Str → Option Value} {w : World} (E : EnvK PySem.Challenge.pw_trueruns_k04_whole_texts md K mg) : ∃ fd : FuncData, mg "law" = some (.ref (He.ga K "law")) ∧ (∀ (s : Shared) (v : Value), BindsTo s fd ⟨[v], []⟩ [("script", v)]) ∧
    ∀ base : Heap, FnOk PySem.Challenge.pw_trueruns_k04_whole_texts w K mg base L2.CX0 9 (He.ga K "law") fd ["script"] (fun vs H Q _ => spOf ⟨K, mg⟩ 1 f_law vs H Q (fun _ _ _ => False)) :=
  law_make E 38 (x := "law") (y := "script") (by rfl) sc_law (by rfl) ck_law (fun _ _ _ _ _ _ us hl => match us, hl with | [_], _ => rfl) fun base => (.cons ((h_law_well E).mono (by decide)) (.cons ((h_law_number E).mono (by decide)) (.cons ((h_law_trim E).mono (by decide)) (.cons ((h_law_pull E).mono (by decide)) (.cons ((h_law_written E).mono (by decide)) (.cons ((h_law_line E).mono (by decide)) (.cons ((h_number_text E).mono (by decide)) (.cons ((h_poly_text E).mono (by decide)) (.cons ((h_matrix_text E).mono (by decide)) (.cons ((h_law_read E).mono (by decide)) (.cons ((h_law_due E).mono (by decide)) (.cons ((h_law_bent E).mono (by decide)) (.cons ((h_law_great E).mono (by decide)) (.cons ((h_law_edges E).mono (by decide)) .nil))))))))))))))
end K04

/-! K04End -/
set_option Elab.async false
set_option linter.all false
set_option maxRecDepth 100000
set_option maxHeartbeats 0
open PySem PySem.W PySem.Calls PyProof.Rows
theorem PySem.Challenge.cw_trueruns_k04_whole_texts_holds : PySem.Challenge.rw_trueruns_k04_whole_texts.Holds := by
  w_on; o_law
  refine HandSHeadRun.head_imp (r := OpenLaw.row PySem.Challenge.rw_trueruns_k04_whole_texts) (q := view (OpenLaw.row PySem.Challenge.rw_trueruns_k04_whole_texts).prog [53]) (H := K04.hk) (ob := K04.ob) (M := 6000) (loose := K04.names) (d := HandSHeadRun.topDef (OpenLaw.row PySem.Challenge.rw_trueruns_k04_whole_texts).prog 53) (kwd := []) K04.ob_eq
    K04.run (by kernel_rfl) (by kernel_rfl) (by kernel_rfl) (by rfl) (by first | assumption | decide +kernel) (by decide +kernel) ⟨rfl, rfl, rfl, rfl, rfl, by decide +kernel⟩ ?hw ?hc
  case hw => w_witness2
  case hc =>
    refine PD.walk_ofP (l := PySem.Challenge.rw_trueruns_k04_whole_texts) (k := 9) (y := "script") (f := K04.f_law) rfl (by kernel_rfl) ⟨rfl, by decide, by decide⟩ ?hs ?F K04.plain
    case hs =>
      intro d hd
      simp only [K04.md, List.mem_cons, List.not_mem_nil, or_false] at hd
      rcases hd with rfl | rfl
      · exact K04.supOk_BadText
      · exact K04.supOk_TooLarge
    case F =>
      intro w mg K E
      exact K04.h_law E
