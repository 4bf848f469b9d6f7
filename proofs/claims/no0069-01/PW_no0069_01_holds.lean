import PyProof.Rows.All
import Wide.All
import OpenK.AllK
import Wide.FinOn
import Lean
import PySem.Challenge.RW_no0069_01
set_option Elab.async false
set_option maxRecDepth 100000
set_option linter.unusedVariables false
set_option genInjectivity false
set_option genSizeOf false
set_option genSizeOfSpec false
section
set_option maxHeartbeats 8000000
open PySem PySem.W PyProof.Rows
namespace Mine
open_top hd for PySem.Challenge.rw_no0069_01
end Mine
end

section
set_option maxHeartbeats 8000000
open PySem PySem.W PyProof.Rows PySem.Calls
namespace Mine
noncomputable def FillQ (_ : OpenLaw) (_ : Params → Frag) : Prop := True



end Mine
end

section
set_option maxHeartbeats 8000000
open PySem PySem.W PyProof.Rows PySem.Calls
namespace Mine

theorem rm {a b k n : Nat} (h : b + 1 = a) (hr : k < a) (hn : n + 1 ≤ k) : n < b := Nat.lt_of_lt_of_le hn (Nat.le_of_lt_succ (Nat.lt_of_lt_of_le hr (Nat.le_of_eq h.symm)))
section
variable {prog : Program} {w : World} {A : Around} {E : Value → Shared → Prop} {s : Shared} {h₀ h : Heap} {L D l : Addr} {m : Str → Option Value} {news news' : List (Addr × Obj)} {vs : List Value} {n : Nat} {k : Int} {t u : Tok} {v : Value}

theorem set_any {Q : Unit → Shared → Prop} (F : Fr h₀ L s.heap m) (N : News h₀ L s.heap news) (U : Upd D (listOf vs.toArray n) (listOf (vs.set k.toNat v).toArray n) news news') (h0 : 0 ≤ k) (h1 : k < vs.length) (hfit : k < 2 ^ 63)
    (h : ∀ h', Fr h₀ L h' m → News h₀ L h' news' → Q () { s with heap := h' }) :
    wpAny (model prog w) A (setItem (.ref D) (.int k t) v) Q E s := by
  obtain ⟨pre, post, rfl, rfl, a, b⟩ := U.split
  have z := N (D, listOf vs.toArray n) (List.mem_append.mpr (.inr (.head _)))
  refine ki_setAt z.1 h0 hfit (by rw [List.size_toArray]; omega) (h _ (F.change (Heap.SameBut.update ..) z.2.1 z.2.2) (ki_turn _ N a b ?_ ?_))
  · show vs.toArray.setIfInBounds k.toNat v = (vs.set k.toNat v).toArray
    apply Array.toList_inj.mp
    simp
  · simp

theorem add_news {a b : Addr} {ws : List Value} {n1 n2 : Nat} {Q : Value → Shared → Prop} (F : Fr h₀ L s.heap m) (N : News h₀ L s.heap news) (ha : (a, listOf vs.toArray n1) ∈ news) (hb : (b, listOf ws.toArray n2) ∈ news) (hz : vs.length + ws.length ≤ 1048576)
    (hq : ∀ D h', Fr h₀ L h' m → News h₀ L h' ((D, listOf (vs ++ ws).toArray 0) :: news) → (∀ p ∈ news, p.1 < D) → Q (.ref D) { s with heap := h' }) :
    wpAny (model prog w) A (binaryOp .Add (.ref a) (.ref b)) Q E s :=
  kmk_add_lit F N (PySem.IsL.isList (n := n1) (N _ ha).1) (PySem.IsL.isList (n := n2) (N _ hb).1) rfl hq (by rw [sizeLine_eq]; simpa using Nat.le_trans hz (by decide))
end
end Mine
end

section
set_option maxHeartbeats 8000000
open PySem PySem.W PyProof.Rows PySem.Calls
namespace Mine

/-- a loop that lets no exception through -/
noncomputable def NoErr (Q : Flow → Shared → Prop) : Result → Shared → Prop
  | .ok f, s' => Q f s'
  | .error _, _ => False

section
variable {prog : Program} {w : World} {A : Around} {E : Value → Shared → Prop} {s : Shared} {env : Env} {h₀ : Heap}

theorem for_mine {target iter : Expr} {body : List Stmt} {pos : Pos} {Q : Flow → Shared → Prop}
    (h : wpAny (model prog w) A (eval iter env) (fun x s₁ => wpAny (model prog w) A (pyIter x) (fun it s₂ => codeAny (model prog w) A (.forLoop target it body [] env) (NoErr Q) s₂) E s₁) E s)
    (hs : ∀ x, foldedSetIterable iter env x = pure x) :
    wpAny (model prog w) A (exec (.For target iter body [] pos) env) Q E s := by
  refine wpAny_For (wpAny_mono h (fun x s₁ h₁ => wpAny_mono h₁ (fun it s₂ h₂ => codeAny_mono h₂ ?_) fun _ _ e => e) fun _ _ e => e) hs
  intro r s' hr
  cases r with
  | ok f => exact hr
  | error e => exact hr.elim

end
end Mine
end

section
set_option maxHeartbeats 1000000
open PySem PySem.W PyProof.Rows PySem.Calls
set_option genInjectivity false
set_option genSizeOf false
set_option genSizeOfSpec false
namespace Mine

/-- values, tuples and bytes by value; lists, instances and their dicts by their number -/
inductive AV where
  | none
  | bool (b : Bool)
  | int (i : Int)
  | bytes (b : List UInt8)
  | tup (l : List AV)
  | ref (k : Nat)
  | raw (v : Value)
  | str (x : Str)
noncomputable abbrev Loc := List (Str × AV)
inductive AO where
  | list (l : List AV)
  | inst (C : Addr) (d : Nat)
  | dict (fs : Loc)
  | exc (C : Addr) (d : Option Nat)
noncomputable abbrev Hp := List AO
noncomputable abbrev Led := List (Addr × Obj)
noncomputable abbrev excObj (C : Addr) (d : Option Addr) (x : Value) : Obj := { cls := .ref C, dict := d, data := .fields #[x, .none, .none, .none, .bool false, .none] }
noncomputable abbrev tupObj (vs : List Value) (n : Nat) : Obj := { cls := .type "tuple", data := .seq vs.toArray n }

mutual
inductive VRep (news : Led) (al : List Addr) : Value → AV → Prop
  | none : VRep news al .none .none
  | bool (b : Bool) : VRep news al (.bool b) (.bool b)
  | int (i : Int) (t : Tok) : VRep news al (.int i t) (.int i)
  | bytes (b : List UInt8) (t : Tok) : VRep news al (.bytes b.toArray t) (.bytes b)
  | tup {a : Addr} {vs : List Value} {n : Nat} {l : List AV} : (a, tupObj vs n) ∈ news → VAll news al vs l → VRep news al (.ref a) (.tup l)
  | ref {a : Addr} {k : Nat} : al[k]? = some a → VRep news al (.ref a) (.ref k)
  | raw {v : Value} : handedIn v = true → v ≠ .none → VRep news al v (.raw v)
  | str (x : Str) (t : Tok) : VRep news al (.str x t) (.str x)
inductive VAll (news : Led) (al : List Addr) : List Value → List AV → Prop
  | nil : VAll news al [] []
  | cons {v : Value} {vs : List Value} {d : AV} {ds : List AV} : VRep news al v d → VAll news al vs ds → VAll news al (v :: vs) (d :: ds)
end

/-- entries of an instance's dict -/
inductive EAll (news : Led) (al : List Addr) : List DictEntry → Loc → Prop
  | nil : EAll news al [] []
  | cons {e : DictEntry} {es : List DictEntry} {x : Str} {t : Tok} {d : AV} {ds : Loc} : e.key = .str x t → VRep news al e.val d → EAll news al es ds → EAll news al (e :: es) ((x, d) :: ds)

inductive ORep (news : Led) (al : List Addr) (a : Addr) : AO → Prop
  | list {vs : List Value} {n : Nat} {l : List AV} : (a, listOf vs.toArray n) ∈ news → VAll news al vs l → ORep news al a (.list l)
  | inst {C dx : Addr} {d : Nat} : (a, instObj C dx) ∈ news → al[d]? = some dx → ORep news al a (.inst C d)
  | dict {es : List DictEntry} {n : Nat} {fs : Loc} : (a, dictOf es n) ∈ news → EAll news al es fs → ORep news al a (.dict fs)
  | exc0 {C : Addr} {x : Value} : (a, excObj C none x) ∈ news → ORep news al a (.exc C none)
  | exc1 {C dx : Addr} {d : Nat} {x : Value} : (a, excObj C (some dx) x) ∈ news → al[d]? = some dx → ORep news al a (.exc C (some d))

structure HRep (news : Led) (al : List Addr) (hp : Hp) : Prop where
  len : al.length = hp.length
  nd : al.Nodup
  ob : ∀ (k : Nat) (a : Addr) (o : AO), al[k]? = some a → hp[k]? = some o → ORep news al a o

noncomputable def LRep (news : Led) (al : List Addr) (m : Str → Option Value) (loc : Loc) : Prop := ∀ x v, loc.lookup x = some v → ∃ u, m x = some u ∧ VRep news al u v

structure Ext0 (news : Led) (bl : List Addr) (news' : Led) (bl' : List Addr) : Prop where
  al : ∃ t, bl' = bl ++ t
  tup : ∀ a vs n, (a, tupObj vs n) ∈ news → (a, tupObj vs n) ∈ news'
structure Ext (news : Led) (bl : List Addr) (news' : Led) (bl' : List Addr) : Prop extends Ext0 news bl news' bl' where
  keep : ∀ p ∈ news, p.1 ∉ bl → p ∈ news'
  fresh : ∀ a ∈ bl', a ∉ bl → ∀ p ∈ news, p.1 ≠ a

theorem Ext.refl {news : Led} {al : List Addr} : Ext news al news al := ⟨⟨⟨[], by simp⟩, fun _ _ _ h => h⟩, fun _ h _ => h, fun _ h k => absurd h k⟩
theorem Ext.trans {n1 n2 n3 : Led} {a1 a2 a3 : List Addr} (h : Ext n1 a1 n2 a2) (k : Ext n2 a2 n3 a3) : Ext n1 a1 n3 a3 := by
  obtain ⟨t, e⟩ := h.al
  obtain ⟨u, e'⟩ := k.al
  refine ⟨⟨⟨t ++ u, by rw [e', e, List.append_assoc]⟩, fun a vs n m => k.tup _ _ _ (h.tup _ _ _ m)⟩, fun p hp hn => ?_, fun a ha hn p hp => ?_⟩
  · refine k.keep p (h.keep p hp hn) fun q => ?_
    exact h.fresh p.1 q hn p hp rfl
  · by_cases c : a ∈ a2
    · exact h.fresh a c hn p hp
    · by_cases d : p.1 ∈ a1
      · intro q
        exact c (q ▸ (by rw [e]; exact List.mem_append.mpr (.inl d)))
      · exact k.fresh a ha c p (h.keep p hp d)
theorem Ext0.get {n1 n2 : Led} {a1 a2 : List Addr} (h : Ext0 n1 a1 n2 a2) {k : Nat} {a : Addr} (e : a1[k]? = some a) : a2[k]? = some a := by
  obtain ⟨t, e'⟩ := h.al
  rw [e', List.getElem?_append_left (List.getElem?_eq_some_iff.mp e).1, e]
theorem Ext.get {n1 n2 : Led} {a1 a2 : List Addr} (h : Ext n1 a1 n2 a2) {k : Nat} {a : Addr} (e : a1[k]? = some a) : a2[k]? = some a := h.toExt0.get e
theorem VRep.mono0 {n1 n2 : Led} {a1 a2 : List Addr} (x : Ext0 n1 a1 n2 a2) {v : Value} {d : AV} (h : VRep n1 a1 v d) : VRep n2 a2 v d :=
  VRep.rec (motive_1 := fun v d _ => VRep n2 a2 v d) (motive_2 := fun v d _ => VAll n2 a2 v d) .none .bool .int .bytes (fun m _ r => .tup (x.tup _ _ _ m) r) (fun h => .ref (x.get h)) .raw .str .nil (fun _ _ a b => .cons a b) h
theorem VAll.ind {news : Led} {al : List Addr} {C : List Value → List AV → Prop} (h0 : C [] []) (h1 : ∀ v vs d ds, VRep news al v d → VAll news al vs ds → C vs ds → C (v :: vs) (d :: ds)) {us : List Value} {vs : List AV} (h : VAll news al us vs) : C us vs :=
  VAll.rec (motive_1 := fun _ _ _ => True) (motive_2 := fun v d _ => C v d) trivial (fun _ => trivial) (fun _ _ => trivial) (fun _ _ => trivial) (fun _ _ _ => trivial) (fun _ => trivial) (fun _ _ => trivial) (fun _ _ => trivial) h0 (fun a b _ c => h1 _ _ _ _ a b c) h
theorem VAll.mono0 {n1 n2 : Led} {a1 a2 : List Addr} (x : Ext0 n1 a1 n2 a2) {v : List Value} {d : List AV} (h : VAll n1 a1 v d) : VAll n2 a2 v d :=
  h.ind (C := fun v d => VAll n2 a2 v d) .nil fun _ _ _ _ a _ c => .cons (a.mono0 x) c
theorem VRep.mono {n1 n2 : Led} {a1 a2 : List Addr} (x : Ext n1 a1 n2 a2) {v : Value} {d : AV} (h : VRep n1 a1 v d) : VRep n2 a2 v d := h.mono0 x.toExt0
theorem VAll.mono {n1 n2 : Led} {a1 a2 : List Addr} (x : Ext n1 a1 n2 a2) {v : List Value} {d : List AV} (h : VAll n1 a1 v d) : VAll n2 a2 v d := h.mono0 x.toExt0
theorem EAll.mono0 {n1 n2 : Led} {a1 a2 : List Addr} (x : Ext0 n1 a1 n2 a2) {es : List DictEntry} {fs : Loc} (h : EAll n1 a1 es fs) : EAll n2 a2 es fs := by
  induction h with
  | nil => exact .nil
  | cons a b _ ih => exact .cons a (b.mono0 x) ih
theorem EAll.mono {n1 n2 : Led} {a1 a2 : List Addr} (x : Ext n1 a1 n2 a2) {es : List DictEntry} {fs : Loc} (h : EAll n1 a1 es fs) : EAll n2 a2 es fs := h.mono0 x.toExt0
theorem LRep.mono0 {n1 n2 : Led} {a1 a2 : List Addr} (x : Ext0 n1 a1 n2 a2) {m : Str → Option Value} {loc : Loc} (h : LRep n1 a1 m loc) : LRep n2 a2 m loc := fun y v e => by
  obtain ⟨u, e1, e2⟩ := h y v e
  exact ⟨u, e1, e2.mono0 x⟩
theorem LRep.mono {n1 n2 : Led} {a1 a2 : List Addr} (x : Ext n1 a1 n2 a2) {m : Str → Option Value} {loc : Loc} (h : LRep n1 a1 m loc) : LRep n2 a2 m loc := h.mono0 x.toExt0

theorem VAll.length {news : Led} {al : List Addr} {vs : List Value} {l : List AV} (h : VAll news al vs l) : vs.length = l.length := h.ind (C := fun vs l => vs.length = l.length) rfl fun _ _ _ _ _ _ c => congrArg (· + 1) c
theorem VAll.append {news : Led} {al : List Addr} {ws : List Value} {k : List AV} (g : VAll news al ws k) {vs : List Value} {l : List AV} (h : VAll news al vs l) : VAll news al (vs ++ ws) (l ++ k) := h.ind (C := fun vs l => VAll news al (vs ++ ws) (l ++ k)) g fun _ _ _ _ a _ c => .cons a c
theorem VAll.get {news : Led} {al : List Addr} {vs : List Value} {l : List AV} {i : Nat} {v : AV} (h : VAll news al vs l) : l[i]? = some v → ∃ u, vs[i]? = some u ∧ VRep news al u v :=
  h.ind (C := fun vs l => ∀ i, l[i]? = some v → ∃ u, vs[i]? = some u ∧ VRep news al u v) (fun _ e => (by cases e)) (fun u _ _ _ a _ c i => Nat.casesOn i (fun e => ⟨u, rfl, Option.some.inj e ▸ a⟩) fun j e => c j e) i
theorem VAll.set {news : Led} {al : List Addr} {u : Value} {v : AV} (g : VRep news al u v) {vs : List Value} {l : List AV} (i : Nat) (h : VAll news al vs l) : VAll news al (vs.set i u) (l.set i v) :=
  h.ind (C := fun vs l => ∀ i, VAll news al (vs.set i u) (l.set i v)) (fun _ => .nil) (fun _ _ _ _ a b c i => Nat.casesOn i (.cons g b) fun j => .cons a (c j)) i
theorem VAll.drop {news : Led} {al : List Addr} {vs : List Value} {l : List AV} (i : Nat) (h : VAll news al vs l) : VAll news al (vs.drop i) (l.drop i) :=
  h.ind (C := fun vs l => ∀ i, VAll news al (vs.drop i) (l.drop i)) (fun i => by rw [List.drop_nil, List.drop_nil]; exact .nil) (fun _ _ _ _ a b c i => Nat.casesOn i (.cons a b) fun j => c j) i
theorem VAll.take {news : Led} {al : List Addr} {vs : List Value} {l : List AV} (i : Nat) (h : VAll news al vs l) : VAll news al (vs.take i) (l.take i) :=
  h.ind (C := fun vs l => ∀ i, VAll news al (vs.take i) (l.take i)) (fun i => by rw [List.take_nil, List.take_nil]; exact .nil) (fun _ _ _ _ a b c i => Nat.casesOn i .nil fun j => .cons a (c j)) i
@[elab_as_elim] theorem VRep.intC {news : Led} {al : List Addr} {i : Int} {C : Value → Prop} {u : Value} (r : VRep news al u (.int i)) (k : ∀ t, C (.int i t)) : C u := by
  cases r; exact k _
@[elab_as_elim] theorem VRep.boolC {news : Led} {al : List Addr} {i : Bool} {C : Value → Prop} {u : Value} (r : VRep news al u (.bool i)) (k : C (.bool i)) : C u := by
  cases r; exact k
@[elab_as_elim] theorem VRep.bytesC {news : Led} {al : List Addr} {b : List UInt8} {C : Value → Prop} {u : Value} (r : VRep news al u (.bytes b)) (k : ∀ t, C (.bytes b.toArray t)) : C u := by
  cases r; exact k _
@[elab_as_elim] theorem VRep.strC {news : Led} {al : List Addr} {b : Str} {C : Value → Prop} {u : Value} (r : VRep news al u (.str b)) (k : ∀ t, C (.str b t)) : C u := by
  cases r; exact k _
@[elab_as_elim] theorem VRep.noneC {news : Led} {al : List Addr} {C : Value → Prop} {u : Value} (r : VRep news al u .none) (k : C .none) : C u := by
  cases r; exact k
@[elab_as_elim] theorem VRep.refC {news : Led} {al : List Addr} {j : Nat} {C : Value → Prop} {u : Value} (r : VRep news al u (.ref j)) (k : ∀ a, al[j]? = some a → C (.ref a)) : C u := by
  cases r with | ref h => exact k _ h
@[elab_as_elim] theorem VRep.tupC {news : Led} {al : List Addr} {l : List AV} {C : Value → Prop} {u : Value} (r : VRep news al u (.tup l)) (k : ∀ a vs n, (a, tupObj vs n) ∈ news → VAll news al vs l → C (.ref a)) : C u := by
  cases r with | tup h r => exact k _ _ _ h r
@[elab_as_elim] theorem VRep.rawC {news : Led} {al : List Addr} {v : Value} {C : Value → Prop} {u : Value} (r : VRep news al u (.raw v)) (k : C v) : C u := by
  cases r; exact k
@[elab_as_elim] theorem VAll.nilC {news : Led} {al : List Addr} {C : List Value → Prop} {us : List Value} (r : VAll news al us []) (k : C []) : C us := by
  cases r; exact k
@[elab_as_elim] theorem VAll.consC {news : Led} {al : List Addr} {d : AV} {ds : List AV} {C : List Value → Prop} {us : List Value} (r : VAll news al us (d :: ds)) (k : ∀ u us, VRep news al u d → VAll news al us ds → C (u :: us)) : C us := by
  cases r with | cons a b => exact k _ _ a b
@[elab_as_elim] theorem VAll.oneC {news : Led} {al : List Addr} {d : AV} {C : List Value → Prop} {us : List Value} (r : VAll news al us [d]) (k : ∀ u, VRep news al u d → C [u]) : C us :=
  r.consC fun u us a b => b.nilC (C := fun us => C (u :: us)) (k u a)
@[elab_as_elim] theorem VAll.twoC {news : Led} {al : List Addr} {d e : AV} {C : List Value → Prop} {us : List Value} (r : VAll news al us [d, e]) (k : ∀ u v, VRep news al u d → VRep news al v e → C [u, v]) : C us :=
  r.consC fun u us a b => b.oneC (C := fun us => C (u :: us)) fun v c => k u v a c

structure FX where
  prog : Program
  w : World
  p : Program
  loose : List Str
  mean : ExcName → Option Value
  mg : Str → Option Value
  mb : Str → Option Value
  dp : Nat
  un : Nat
  gd : Option (List Code)
  cn : Str
  cs : Scope
  a : Addr
  ccd : Value
  cl : List (Str × Addr)
  cv : Loc
  outer : List Env
  A₀ : Around
  base : Heap
  h₀ : Heap
  L : Addr
  room : Nat
  B : Below A₀ base outer h₀
  X : (hd.heap_39 w.params).In h₀
  T : Top p loose mean mg mb h₀
  XB : (hd.heap_39 w.params).In base
  TB : Top p loose mean mg mb base
  D : KtsDicts (outer.filterMap (·.frame)) h₀
  hk : cs.kind = .function
  hdp : dp + room < recursionLimit
  hun : un + 8 * room < cLine
@[reducible] noncomputable def FX.env (X : FX) : Env := envX X.cn X.cs X.L X.a X.ccd X.cl
@[reducible] noncomputable def FX.A (X : FX) : Around := ktrTop X.dp X.un X.gd X.cn X.cs X.L X.a X.ccd X.cl X.outer
@[reducible] noncomputable def FX.M (X : FX) : Model := model X.prog X.w

/-- what the cells hold -/
noncomputable def CRep (cl : List (Str × Addr)) (cv : Loc) (news : Led) (al : List Addr) : Prop := ∀ x v, cv.lookup x = some v → ∃ c o u, cl.lookup x = some c ∧ (c, o) ∈ news ∧ c ∉ al ∧ o.data = .cell (some u) ∧ VRep news al u v
theorem CRep.mono {cl : List (Str × Addr)} {cv : Loc} {n1 n2 : Led} {a1 a2 : List Addr} (x : Ext n1 a1 n2 a2) (h : CRep cl cv n1 a1) : CRep cl cv n2 a2 := fun y v e => by
  obtain ⟨c, o, u, e1, e2, e3, e4, e5⟩ := h y v e
  exact ⟨c, o, u, e1, x.keep _ e2 e3, fun q => x.fresh c q e3 _ e2 rfl, e4, e5.mono x⟩
structure VR (X : FX) (news : Led) (al : List Addr) (m : Str → Option Value) (loc : Loc) : Prop where
  L : LRep news al m loc
  K : CRep X.cl X.cv news al
theorem VR.mono {X : FX} {n1 n2 : Led} {a1 a2 : List Addr} {m : Str → Option Value} {loc : Loc} (h : VR X n1 a1 m loc) (x : Ext n1 a1 n2 a2) : VR X n2 a2 m loc := ⟨h.L.mono x, h.K.mono x⟩
theorem VR.mv {X : FX} {n1 n2 : Led} {al : List Addr} {m : Str → Option Value} {loc : Loc} (h : VR X n1 al m loc) (x : Ext0 n1 al n2 al) (hk : ∀ c o u, (c, o) ∈ n1 → o.data = .cell u → (c, o) ∈ n2) : VR X n2 al m loc :=
  ⟨h.L.mono0 x, fun y v e => by
    obtain ⟨c, o, u, e1, e2, e3, e4, e5⟩ := h.K y v e
    exact ⟨c, o, u, e1, hk _ _ _ e2 e4, e3, e4, e5.mono0 x⟩⟩
structure Core (X : FX) (hp : Hp) (h : Heap) (m : Str → Option Value) (news : Led) (al : List Addr) : Prop where
  F : Fr X.h₀ X.L h m
  N : News X.h₀ X.L h news
  H : HRep news al hp
structure RepS (X : FX) (loc : Loc) (hp : Hp) (h : Heap) (m : Str → Option Value) (news : Led) (al : List Addr) : Prop where
  C : Core X hp h m news al
  V : VR X news al m loc

/-- e yields v and leaves hp' -/
noncomputable def EvJ (X : FX) (loc : Loc) (hp : Hp) (e : Expr) (v : AV) (hp' : Hp) : Prop :=
  ∀ s m news al (Q E : Value → Shared → Prop), RepS X loc hp s.heap m news al →
    (∀ u h' tk news' al', Ext news al news' al' → VRep news' al' u v → RepS X loc hp' h' m news' al' → Q u { s with heap := h', toks := tk }) → wpAny X.M X.A (eval e X.env) Q E s
noncomputable def EvsJ (X : FX) (loc : Loc) (hp : Hp) (es : List Expr) (vs : List AV) (hp' : Hp) : Prop :=
  ∀ pos s m news al (Q : List Value → Shared → Prop) E, RepS X loc hp s.heap m news al →
    (∀ us h' tk news' al', Ext news al news' al' → VAll news' al' us vs → RepS X loc hp' h' m news' al' → Q us { s with heap := h', toks := tk }) → wpAny X.M X.A (spliced (backTo pos (starEach es X.env))) Q E s
noncomputable def TestJ (X : FX) (loc : Loc) (hp : Hp) (e : Expr) (b : Bool) (hp' : Hp) : Prop :=
  ∀ s m news al (Q : Bool → Shared → Prop) E, RepS X loc hp s.heap m news al →
    (∀ h' tk news' al', Ext news al news' al' → RepS X loc hp' h' m news' al' → Q b { s with heap := h', toks := tk }) → wpAny X.M X.A (PySem.isTrue e X.env (eval e X.env)) Q E s
/-- a call of f -/
noncomputable def CallJ (X : FX) (hp : Hp) (f : Value) (vs : List AV) (v : AV) (hp' : Hp) : Prop :=
  ∀ s m news al us (Q E : Value → Shared → Prop), Core X hp s.heap m news al → VAll news al us vs →
    (∀ u h' tk news' al', Ext news al news' al' → VRep news' al' u v → Core X hp' h' m news' al' → Q u { s with heap := h', toks := tk }) → wpAny X.M X.A (call f us) Q E s

inductive AFlow where
  | next | brk | cont
  | ret (v : AV)
inductive FRep (news : Led) (al : List Addr) : Flow → AFlow → Prop
  | next : FRep news al .next .next
  | brk : FRep news al .brk .brk
  | cont : FRep news al .cont .cont
  | ret {u : Value} {v : AV} : VRep news al u v → FRep news al (.ret u) (.ret v)
noncomputable abbrev Post := AFlow → Loc → Hp → Prop
noncomputable def ExecJ (X : FX) (loc : Loc) (hp : Hp) (ss : List Stmt) (P : Post) : Prop :=
  ∀ s m news al (Q : Flow → Shared → Prop) E, RepS X loc hp s.heap m news al →
    (∀ fl af loc' hp' h' tk m' news' al', P af loc' hp' → FRep news' al' fl af → Ext news al news' al' → RepS X loc' hp' h' m' news' al' → Q fl { s with heap := h', toks := tk }) → wpAny X.M X.A (execs ss X.env) Q E s
noncomputable def StmJ (X : FX) (loc : Loc) (hp : Hp) (st : Stmt) (P : Post) : Prop :=
  ∀ s m news al (Q : Flow → Shared → Prop) E, RepS X loc hp s.heap m news al →
    (∀ fl af loc' hp' h' tk m' news' al', P af loc' hp' → FRep news' al' fl af → Ext news al news' al' → RepS X loc' hp' h' m' news' al' → Q fl { s with heap := h', toks := tk }) → wpAny X.M X.A (exec st X.env) Q E s
end Mine
end

section
set_option maxHeartbeats 1000000
open PySem PySem.W PyProof.Rows PySem.Calls
namespace Mine

theorem Ext.sub {news news' : Led} {al : List Addr} (h : ∀ p ∈ news, p ∈ news') : Ext news al news' al := ⟨⟨⟨[], by simp⟩, fun a vs n m => h _ m⟩, fun p hp _ => h p hp, fun _ h k => absurd h k⟩
theorem ORep.mono {n1 n2 : Led} {a1 a2 : List Addr} (x : Ext n1 a1 n2 a2) (h : ∀ p ∈ n1, p ∈ n2) {a : Addr} {o : AO} (r : ORep n1 a1 a o) : ORep n2 a2 a o := by
  cases r with
  | list m v => exact .list (h _ m) (v.mono x)
  | inst m e => exact .inst (h _ m) (x.get e)
  | dict m e => exact .dict (h _ m) (e.mono x)
  | exc0 m => exact .exc0 (h _ m)
  | exc1 m e => exact .exc1 (h _ m) (x.get e)
theorem ORep.at {news : Led} {al : List Addr} {a : Addr} {o : AO} (r : ORep news al a o) : ∃ ob, (a, ob) ∈ news := by
  cases r with
  | list m _ => exact ⟨_, m⟩
  | inst m _ => exact ⟨_, m⟩
  | dict m _ => exact ⟨_, m⟩
  | exc0 m => exact ⟨_, m⟩
  | exc1 m _ => exact ⟨_, m⟩
theorem HRep.sub {news news' : Led} {al : List Addr} {hp : Hp} (H : HRep news al hp) (h : ∀ p ∈ news, p ∈ news') : HRep news' al hp :=
  ⟨H.len, H.nd, fun k a o e1 e2 => (H.ob k a o e1 e2).mono (Ext.sub h) h⟩
theorem HRep.has {news : Led} {al : List Addr} {hp : Hp} (H : HRep news al hp) {k : Nat} {a : Addr} (e : al[k]? = some a) : ∃ ob, (a, ob) ∈ news := by
  have h1 : k < hp.length := by rw [← H.len]; exact (List.getElem?_eq_some_iff.mp e).1
  exact (H.ob k a hp[k] e (List.getElem?_eq_getElem h1)).at
theorem HRep.addr {news : Led} {al : List Addr} {hp : Hp} (H : HRep news al hp) {k : Nat} {o : AO} (e : hp[k]? = some o) : ∃ a, al[k]? = some a ∧ ORep news al a o := by
  have h1 : k < al.length := by rw [H.len]; exact (List.getElem?_eq_some_iff.mp e).1
  exact ⟨al[k], List.getElem?_eq_getElem h1, H.ob k _ o (List.getElem?_eq_getElem h1) e⟩
theorem Ext.push' {news : Led} {al : List Addr} {l : Addr} {o : Obj} (hl : ∀ p ∈ news, p.1 ≠ l) : Ext news al ((l, o) :: news) (al ++ [l]) := ⟨⟨⟨[l], rfl⟩, fun a vs n m => .tail _ m⟩, fun p hp _ => .tail _ hp, fun a ha hn p hp e => by
  rcases List.mem_append.mp ha with h | h
  · exact hn h
  · exact hl p hp (e.trans (List.mem_singleton.mp h))⟩
theorem Ext.push {news : Led} {al : List Addr} {l : Addr} {o : Obj} (hl : ∀ p ∈ news, @LT.lt Nat _ p.1 l) : Ext news al ((l, o) :: news) (al ++ [l]) := Ext.push' fun p hp => Nat.ne_of_lt (hl p hp)
theorem HRep.push' {news : Led} {al : List Addr} {hp : Hp} (H : HRep news al hp) {l : Addr} {o : Obj} {ao : AO} (hl : ∀ p ∈ news, p.1 ≠ l) (hr : ORep ((l, o) :: news) (al ++ [l]) l ao) :
    HRep ((l, o) :: news) (al ++ [l]) (hp ++ [ao]) := by
  have hx : Ext news al ((l, o) :: news) (al ++ [l]) := Ext.push' hl
  refine ⟨by simp [H.len], ?_, fun k a o' e1 e2 => ?_⟩
  · refine List.nodup_append.mpr ⟨H.nd, by simp, fun x hx' y hy e => ?_⟩
    rw [List.mem_singleton.mp hy] at e
    obtain ⟨k, hk⟩ := List.mem_iff_getElem?.mp hx'
    obtain ⟨ob, hob⟩ := H.has hk
    exact hl _ hob e
  · rcases Nat.lt_or_ge k al.length with h | h
    · rw [List.getElem?_append_left h] at e1
      rw [List.getElem?_append_left (by rw [← H.len]; exact h)] at e2
      exact (H.ob k a o' e1 e2).mono hx fun p hp => .tail _ hp
    · have e : k = al.length := by
        have := (List.getElem?_eq_some_iff.mp e1).1
        simp at this; omega
      subst e
      have h1 : a = l := by simpa using e1.symm
      have h2 : o' = ao := by rw [H.len] at e2; simpa using e2.symm
      rw [h1, h2]; exact hr

theorem HRep.push {news : Led} {al : List Addr} {hp : Hp} (H : HRep news al hp) {l : Addr} {o : Obj} {ao : AO} (hl : ∀ p ∈ news, @LT.lt Nat _ p.1 l) (hr : ORep ((l, o) :: news) (al ++ [l]) l ao) :
    HRep ((l, o) :: news) (al ++ [l]) (hp ++ [ao]) := H.push' (fun p hp => Nat.ne_of_lt (hl p hp)) hr
/-- the ledger less what stands at a -/
noncomputable def offA (a : Addr) (news : Led) : Led := news.filter fun p => decide (p.1 ≠ a)
theorem offA_ne {a : Addr} {news : Led} : ∀ p ∈ offA a news, p.1 ≠ a := fun p hp => by simpa [offA] using (List.mem_filter.mp hp).2
theorem offA_mem {a : Addr} {news : Led} {p : Addr × Obj} (h : p ∈ news) (n : p.1 ≠ a) : p ∈ offA a news := List.mem_filter.mpr ⟨h, by simpa using n⟩
theorem News.at' {h₀ h : Heap} {L a : Addr} {o : Obj} {news : Led} (N : News h₀ L h news) (m : (a, o) ∈ news) : News h₀ L h ((a, o) :: offA a news) := fun p hp => by
  rcases List.mem_cons.mp hp with e | hp
  · rw [e]; exact N _ m
  · exact N p (List.mem_filter.mp hp).1
theorem upd_at {a : Addr} {o o' : Obj} {news : Led} : Upd a o o' ((a, o) :: offA a news) ((a, o') :: offA a news) := .head offA_ne

theorem nodup_get {α : Type} : ∀ {l : List α} {i j : Nat} {a : α}, l.Nodup → l[i]? = some a → l[j]? = some a → i = j
  | [], i, j, a, _, h, _ => by cases h
  | x :: r, 0, 0, a, _, _, _ => rfl
  | x :: r, 0, j + 1, a, n, h, k => by
    have h' : x = a := by simpa using h
    have k' : r[j]? = some a := by simpa using k
    exact absurd (List.mem_of_getElem? k') (by rw [← h']; exact (List.nodup_cons.mp n).1)
  | x :: r, i + 1, 0, a, n, h, k => by
    have k' : x = a := by simpa using k
    have h' : r[i]? = some a := by simpa using h
    exact absurd (List.mem_of_getElem? h') (by rw [← k']; exact (List.nodup_cons.mp n).1)
  | x :: r, i + 1, j + 1, a, n, h, k => by
    have h' : r[i]? = some a := by simpa using h
    have k' : r[j]? = some a := by simpa using k
    rw [nodup_get (List.nodup_cons.mp n).2 h' k']
theorem HRep.upd {h₀ h : Heap} {L a : Addr} {news : Led} {al : List Addr} {hp : Hp} (H : HRep news al hp) (N : News h₀ L h news) {k : Nat} {o o' : Obj} {ao : AO} (hk : al[k]? = some a) (ho : (a, o) ∈ news)
    (hc : o.cls ≠ .type "tuple") (hr : Ext news al ((a, o') :: offA a news) al → ORep ((a, o') :: offA a news) al a ao) :
    HRep ((a, o') :: offA a news) al (hp.set k ao) ∧ Ext news al ((a, o') :: offA a news) al := by
  have hx : Ext news al ((a, o') :: offA a news) al := by
    refine ⟨⟨⟨[], by simp⟩, fun t vs n m => .tail _ (offA_mem m fun e => ?_)⟩, fun p hp hn => .tail _ (offA_mem hp fun e => hn (e ▸ List.mem_of_getElem? hk)), fun _ h k => absurd h k⟩
    have h1 := (N _ m).1
    have h2 := (N _ ho).1
    rw [show t = a from e] at h1
    rw [h1] at h2
    cases h2
    exact hc rfl
  refine ⟨⟨by simp [H.len], H.nd, fun j b o2 e1 e2 => ?_⟩, hx⟩
  by_cases hj : j = k
  · subst hj
    rw [hk] at e1
    cases e1
    have : j < hp.length := by rw [← H.len]; exact (List.getElem?_eq_some_iff.mp hk).1
    rw [List.getElem?_set_self this] at e2
    cases e2
    exact hr hx
  · rw [List.getElem?_set_ne (fun e => hj e.symm)] at e2
    have hne : b ≠ a := fun e => by
      subst e
      exact hj (nodup_get H.nd e1 hk)
    cases H.ob j b o2 e1 e2 with
    | list m v => exact .list (.tail _ (offA_mem m hne)) (v.mono hx)
    | inst m e => exact .inst (.tail _ (offA_mem m hne)) (hx.get e)
    | dict m e => exact .dict (.tail _ (offA_mem m hne)) (e.mono hx)
    | exc0 m => exact .exc0 (.tail _ (offA_mem m hne))
    | exc1 m e => exact .exc1 (.tail _ (offA_mem m hne)) (hx.get e)

section
variable {X : FX} {loc : Loc} {hp hp1 hp2 hp3 : Hp}

theorem RepS.next {loc : Loc} {hp hp' : Hp} {h h' : Heap} {m : Str → Option Value} {news news' : Led} {al al' : List Addr} (R : RepS X loc hp h m news al) (x : Ext news al news' al') (F : Fr X.h₀ X.L h' m) (N : News X.h₀ X.L h' news') (H : HRep news' al' hp') :
    RepS X loc hp' h' m news' al' := ⟨⟨F, N, H⟩, R.V.mono x⟩

/-- a new list -/
theorem Core.newList {h h' : Heap} {m : Str → Option Value} {news : Led} {al : List Addr} {l : Addr} {us : List Value} {n : Nat} {vs : List AV} (C : Core X hp h m news al) (v : VAll news al us vs)
    (F : Fr X.h₀ X.L h' m) (N : News X.h₀ X.L h' ((l, listOf us.toArray n) :: news)) (hl : ∀ p ∈ news, p.1 < l) :
    Core X (hp ++ [.list vs]) h' m ((l, listOf us.toArray n) :: news) (al ++ [l]) ∧ VRep ((l, listOf us.toArray n) :: news) (al ++ [l]) (.ref l) (.ref hp.length) := by
  refine ⟨⟨F, N, C.H.push hl (.list (.head _) (v.mono (Ext.push hl)))⟩, .ref ?_⟩
  rw [← C.H.len]; simp

/-- a call of the model's own that pushes nothing and leaves all -/
theorem e_name {x : Str} {p : Pos} {v : AV} (h : loc.lookup x = some v) (hl : X.env.kindOf x = some .local := by rfl) (hd : (x == ("__debug__" : Str)) = false := by decide) : EvJ X loc hp (.Name x p) v hp := by
  intro s m news al Q E R k
  obtain ⟨u, e1, e2⟩ := R.V.L x v h
  exact nameX_L R.C.F e1 (k u s.heap s.toks news al Ext.refl e2 R) X.hk hl hd
theorem e_cell {x : Str} {p : Pos} {v : AV} (h : X.cv.lookup x = some v) (hl : X.env.kindOf x = some .cell := by rfl) (hd : (x == ("__debug__" : Str)) = false := by decide) : EvJ X loc hp (.Name x p) v hp := by
  intro s m news al Q E R k
  obtain ⟨c, o, u, e1, e2, e3, e4, e5⟩ := R.V.K x v h
  exact nameX_C R.C.N e1 e2 e4 (k u s.heap s.toks news al Ext.refl e5 R) X.hk hl hd
theorem e_int {i : Int} {kk : Nat} {p : Pos} : EvJ X loc hp (.Constant (.int i) kk p) (.int i) hp := by
  intro s m news al Q E R k
  exact wpAny_Constant_int (k _ s.heap _ news al Ext.refl (.int _ _) R)
theorem e_bool {b : Bool} {kk : Nat} {p : Pos} : EvJ X loc hp (.Constant (.bool b) kk p) (.bool b) hp := by
  intro s m news al Q E R k
  exact Constant_bool (k _ s.heap s.toks news al Ext.refl (.bool _) R)
theorem e_none {kk : Nat} {p : Pos} : EvJ X loc hp (.Constant .none kk p) .none hp := by
  intro s m news al Q E R k
  exact Constant_none (k _ s.heap s.toks news al Ext.refl .none R)

theorem EvJ.intK {e : Expr} {a : Int} (h : EvJ X loc hp e (.int a) hp1) {s : Shared} {m : Str → Option Value} {news : Led} {al : List Addr} {Q E : Value → Shared → Prop} (R : RepS X loc hp s.heap m news al)
    (k : ∀ t h' tk news' al', Ext news al news' al' → RepS X loc hp1 h' m news' al' → Q (.int a t) { s with heap := h', toks := tk }) : wpAny X.M X.A (eval e X.env) Q E s :=
  h _ _ _ _ _ _ R fun _ h' tk _ _ x r R1 => r.intC (C := fun u => Q u { s with heap := h', toks := tk }) fun t => k t _ _ _ _ x R1
theorem bin_int {l r : Expr} {op : Operator} {p : Pos} {a b c : Int} (h1 : EvJ X loc hp l (.int a) hp1) (h2 : EvJ X loc hp1 r (.int b) hp2)
    (ho : ∀ t u (s : Shared) (Q E : Value → Shared → Prop), (∀ w tk, Q (.int c w) { s with toks := tk }) → wpAny X.M X.A (binaryOp op (.int a t) (.int b u)) Q E s) : EvJ X loc hp (.BinOp l op r p) (.int c) hp2 :=
  fun s m news al Q E R k => wpAny_BinOp (h1.intK R fun t _ _ _ _ x1 R1 => h2.intK R1 fun u _ _ _ _ x2 R2 => ho t u _ _ _ fun _ _ => k _ _ _ _ _ (x1.trans x2) (.int _ _) R2)
theorem e_addi {l r : Expr} {p : Pos} {a b : Int} (h1 : EvJ X loc hp l (.int a) hp1) (h2 : EvJ X loc hp1 r (.int b) hp2) : EvJ X loc hp (.BinOp l .Add r p) (.int (a + b)) hp2 := bin_int h1 h2 fun _ _ _ _ _ k => add_int (k _ _)
theorem e_subi {l r : Expr} {p : Pos} {a b : Int} (h1 : EvJ X loc hp l (.int a) hp1) (h2 : EvJ X loc hp1 r (.int b) hp2) : EvJ X loc hp (.BinOp l .Sub r p) (.int (a - b)) hp2 := bin_int h1 h2 fun _ _ _ _ _ k => sub_int (k _ _)
theorem e_modi {l r : Expr} {p : Pos} {a b : Int} (h1 : EvJ X loc hp l (.int a) hp1) (h2 : EvJ X loc hp1 r (.int b) hp2) (hb : b ≠ 0) : EvJ X loc hp (.BinOp l .Mod r p) (.int (a.fmod b)) hp2 := bin_int h1 h2 fun _ _ _ _ _ k => mod_int' hb (k _ _)
theorem e_divi {l r : Expr} {p : Pos} {a b : Int} (h1 : EvJ X loc hp l (.int a) hp1) (h2 : EvJ X loc hp1 r (.int b) hp2) (hb : b ≠ 0) (ha : b.natAbs.log2 < 9000) : EvJ X loc hp (.BinOp l .FloorDiv r p) (.int (a.fdiv b)) hp2 :=
  bin_int h1 h2 fun _ _ _ _ _ k => floordiv_int hb (k _ _) (.inl (PyProof.noPylong_of_log2 ha))
theorem e_muli {l r : Expr} {p : Pos} {a b : Int} (h1 : EvJ X loc hp l (.int a) hp1) (h2 : EvJ X loc hp1 r (.int b) hp2) (hlo : -2 ^ 64 < b) (hhi : b < 2 ^ 64) : EvJ X loc hp (.BinOp l .Mult r p) (.int (a * b)) hp2 :=
  bin_int h1 h2 fun _ _ _ _ _ k => mul_int (k _ _) (PySem.IntMulOk.of_right (PySem.intBits_le_64 hlo hhi))

/-- one comparison of ints -/
noncomputable def cmpI : CmpOp → Int → Int → Option Bool
  | .Lt, a, b => some (decide (a < b))
  | .LtE, a, b => some (decide (a ≤ b))
  | .Gt, a, b => some (decide (a > b))
  | .GtE, a, b => some (decide (a ≥ b))
  | .Eq, a, b => some (decide (a = b))
  | .NotEq, a, b => some (decide (a ≠ b))
  | _, _, _ => none
end
end Mine
end

section
set_option maxHeartbeats 1000000
open PySem PySem.W PyProof.Rows PySem.Calls
namespace Mine
theorem fillJ3 : FillQ PySem.Challenge.rw_no0069_01 hd.heap_39 := by
  k_fill
  trivial

section
variable {X : FX} {loc : Loc} {hp hp1 hp2 hp3 : Hp}

/-! lists of expressions -/
theorem es_nil : EvsJ X loc hp [] [] hp := by
  intro pos s m news al Q E R k
  exact args_nil (k [] s.heap s.toks news al Ext.refl .nil R)
theorem es_cons {e : Expr} {es : List Expr} {v : AV} {vs : List AV} (h1 : EvJ X loc hp e v hp1) (h2 : EvsJ X loc hp1 es vs hp2) (hs : ∀ env, starEach (e :: es) env = (false, eval e env) :: starEach es env := by intro _; rfl) : EvsJ X loc hp (e :: es) (v :: vs) hp2 := by
  intro pos s m news al Q E R k
  exact args_cons (h1 _ _ _ _ _ _ R fun u1 g1 t1 n1 a1 x1 r1 R1 => h2 _ _ _ _ _ _ _ R1 fun us g2 t2 n2 a2 x2 r2 R2 => k _ _ _ _ _ (x1.trans x2) (.cons (r1.mono x2) r2) R2) (hs _)

theorem e_tuple {es : List Expr} {kk : Nat} {p : Pos} {vs : List AV} (h : EvsJ X loc hp es vs hp1) (hb : Nat.ble vs.length 1000000 = true) : EvJ X loc hp (.Tuple es kk p) (.tup vs) hp1 := by
  intro s m news al Q E R k
  refine Tuple_ (h _ _ _ _ _ _ _ R fun us g1 t1 n1 a1 x1 r1 R1 => ?_)
  refine newTuple_N R1.C.F R1.C.N (fun h' F' N' => ?_) (by have := Nat.le_of_ble_eq_true hb; rw [r1.length, sizeLine_eq]; (exact Nat.le_trans (by assumption) (Nat.le_of_ble_eq_true rfl)))
  have x2 : Ext n1 a1 ((g1.objs.size, tupObj us 0) :: n1) a1 := Ext.sub fun p hp => .tail _ hp
  exact k _ _ _ _ _ (x1.trans x2) (.tup (.head _) (r1.mono x2)) (R1.next x2 F' N' (R1.C.H.sub fun p hp => .tail _ hp))
theorem e_list {es : List Expr} {p : Pos} {vs : List AV} (h : EvsJ X loc hp es vs hp1) (hb : Nat.ble vs.length 1000000 = true) : EvJ X loc hp (.List es p) (.ref hp1.length) (hp1 ++ [.list vs]) := by
  intro s m news al Q E R k
  refine List_ (h _ _ _ _ _ _ _ R fun us g1 t1 n1 a1 x1 r1 R1 => ?_)
  refine newList_K R1.C.F R1.C.N (fun l h' F' N' hl => ?_) (by have := Nat.le_of_ble_eq_true hb; rw [r1.length, sizeLine_eq]; (exact Nat.le_trans (by assumption) (Nat.le_of_ble_eq_true rfl)))
  obtain ⟨C', v'⟩ := R1.C.newList r1 F' N' hl
  exact k _ _ _ _ _ (x1.trans (Ext.push hl)) v' ⟨C', R1.V.mono (Ext.push hl)⟩

/-! what a comparison gives -/
noncomputable def CmpJ (X : FX) (hp : Hp) (op : CmpOp) (a b : AV) (c : Bool) : Prop :=
  ∀ s m news al u v (Q E : Value → Shared → Prop), Core X hp s.heap m news al → VRep news al u a → VRep news al v b →
    (∀ h' tk news' al', Ext news al news' al' → Core X hp h' m news' al' → Q (.bool c) { s with heap := h', toks := tk }) → wpAny X.M X.A (compareOp op u v) Q E s
theorem wp_pos {p q : Prop} (h : p) : if true = true then p else q := h
theorem wp_neg {p q : Prop} (h : q) : if false = true then p else q := h
theorem EvJ.boolK {e : Expr} {a : Bool} (h : EvJ X loc hp e (.bool a) hp1) {s : Shared} {m : Str → Option Value} {news : Led} {al : List Addr} {Q E : Value → Shared → Prop} (R : RepS X loc hp s.heap m news al)
    (k : ∀ h' tk news' al', Ext news al news' al' → RepS X loc hp1 h' m news' al' → Q (.bool a) { s with heap := h', toks := tk }) : wpAny X.M X.A (eval e X.env) Q E s :=
  h _ _ _ _ _ _ R fun _ h' tk _ _ x r R1 => r.boolC (C := fun u => Q u { s with heap := h', toks := tk }) (k _ _ _ _ x R1)
theorem cmpK {op : CmpOp} {a b : AV} {c : Bool} (h : ∀ u v (s : Shared) news al (Q E : Value → Shared → Prop), VRep news al u a → VRep news al v b → Q (.bool c) s → wpAny X.M X.A (compareOp op u v) Q E s) : CmpJ X hp op a b c :=
  fun s m news al u v Q E C r1 r2 k => h u v s news al Q E r1 r2 (k s.heap s.toks news al Ext.refl C)
theorem cmpII {op : CmpOp} {a b : Int} {c : Bool} (h : ∀ t w (s : Shared) (Q E : Value → Shared → Prop), Q (.bool c) s → wpAny X.M X.A (compareOp op (.int a t) (.int b w)) Q E s) : CmpJ X hp op (.int a) (.int b) c :=
  cmpK fun u v s _ _ Q E r1 r2 q => r1.intC fun t => r2.intC fun w => h t w s Q E q
theorem bne_dec (a b : Int) : (a != b) = decide (a ≠ b) := by by_cases h : a = b <;> simp [h]
theorem c_int {op : CmpOp} {a b : Int} {c : Bool} (h : cmpI op a b = some c) : CmpJ X hp op (.int a) (.int b) c := by
  cases op with
  | Eq => exact Option.some.inj h ▸ cmpII fun _ _ _ _ _ q => eq_int q
  | NotEq => exact Option.some.inj h ▸ cmpII fun _ _ _ Q _ q => ne_int (by rw [bne_dec]; exact q)
  | Lt => exact Option.some.inj h ▸ cmpII fun _ _ _ _ _ q => lt_int q
  | LtE => exact Option.some.inj h ▸ cmpII fun _ _ _ _ _ q => le_int q
  | Gt => exact Option.some.inj h ▸ cmpII fun _ _ _ _ _ q => gt_int q
  | GtE => exact Option.some.inj h ▸ cmpII fun _ _ _ _ _ q => ge_int q
  | _ => exact nomatch (show (none : Option Bool) = some c from h)
theorem c_bytes_ne {a b : List UInt8} : CmpJ X hp .NotEq (.bytes a) (.bytes b) (a != b) :=
  cmpK fun u v s _ _ Q E r1 r2 q => r1.bytesC fun t => r2.bytesC fun w => ne_bytes q
theorem c_bool_ne {a b : Bool} : CmpJ X hp .NotEq (.bool a) (.bool b) (a != b) :=
  cmpK fun u v s _ _ Q E r1 r2 q => r1.boolC (r2.boolC (ne_bool q))
theorem e_cmp {l r : Expr} {op : CmpOp} {p : Pos} {a b : AV} {c : Bool} (h1 : EvJ X loc hp l a hp1) (h2 : EvJ X loc hp1 r b hp2) (h3 : CmpJ X hp2 op a b c) (hm : behindInMarks op r = false := by rfl) : EvJ X loc hp (.Compare l [op] [r] p) (.bool c) hp2 := by
  intro s m news al Q E R k
  refine wpAny_Compare1 (h1 _ _ _ _ _ _ R fun u1 g1 t1 n1 a1 x1 r1 R1 => h2 _ _ _ _ _ _ R1 fun u2 g2 t2 n2 a2 x2 r2 R2 => ?_) hm
  exact h3 _ _ _ _ _ _ _ _ R2.C (r1.mono x2) r2 fun h' tk n3 a3 x3 C3 => k _ _ _ _ _ ((x1.trans x2).trans x3) (.bool _) ⟨C3, R2.V.mono x3⟩
theorem t_cmp {l r : Expr} {op : CmpOp} {p : Pos} {a b : AV} {c : Bool} (h1 : EvJ X loc hp l a hp1) (h2 : EvJ X loc hp1 r b hp2) (h3 : CmpJ X hp2 op a b c) (hm : behindInMarks op r = false := by rfl) : TestJ X loc hp (.Compare l [op] [r] p) c hp2 := by
  intro s m news al Q E R k
  refine wpAny_isTrue_Compare1 (h1 _ _ _ _ _ _ R fun u1 g1 t1 n1 a1 x1 r1 R1 => h2 _ _ _ _ _ _ R1 fun u2 g2 t2 n2 a2 x2 r2 R2 => ?_) hm
  exact h3 _ _ _ _ _ _ _ _ R2.C (r1.mono x2) r2 fun h' tk n3 a3 x3 C3 => wpAny_truthy_bool (k _ _ _ _ ((x1.trans x2).trans x3) ⟨C3, R2.V.mono x3⟩)

/-! tests -/
theorem t_plain {e : Expr} {b : Bool} (h : EvJ X loc hp e (.bool b) hp1) (hp' : ∀ env, PySem.isTrue e env (eval e env) = (do let v ← eval e env; standAt e.pos; holding [v] (truthy v)) := by intro _; rfl) : TestJ X loc hp e b hp1 := by
  intro s m news al Q E R k
  exact isTrue_plain (h.boolK R fun _ _ _ _ x1 R1 => wpAny_truthy_bool (k _ _ _ _ x1 R1)) (hp' _)
theorem t_not {e : Expr} {b : Bool} {p : Pos} (h : TestJ X loc hp e b hp1) : TestJ X loc hp (.UnaryOp .Not e p) (!b) hp1 := by
  intro s m news al Q E R k
  exact isTrue_not (h _ _ _ _ _ _ R fun g1 t1 n1 a1 x1 R1 => k _ _ _ _ x1 R1)
theorem t_and_nil {p : Pos} : TestJ X loc hp (.BoolOp .And [] p) true hp := by
  intro s m news al Q E R k
  exact isTrue_and_nil (k s.heap s.toks news al Ext.refl R)
theorem t_and_cons {e : Expr} {es : List Expr} {b c : Bool} {p : Pos} (h : TestJ X loc hp e b hp) (h2 : b = true → TestJ X loc hp (.BoolOp .And es p) c hp) : TestJ X loc hp (.BoolOp .And (e :: es) p) (b && c) hp := by
  intro s m news al Q E R k
  refine isTrue_and (h _ _ _ _ _ _ R fun g1 t1 n1 a1 x1 R1 => ?_)
  cases b with
  | true =>
    refine wp_pos ?_
    exact h2 rfl _ _ _ _ _ _ R1 fun g2 t2 n2 a2 x2 R2 => k _ _ _ _ (x1.trans x2) R2
  | false =>
    refine wp_neg ?_
    exact k _ _ _ _ x1 R1
theorem t_or_nil {p : Pos} : TestJ X loc hp (.BoolOp .Or [] p) false hp := by
  intro s m news al Q E R k
  exact isTrue_or_nil (k s.heap s.toks news al Ext.refl R)
theorem t_or_cons {e : Expr} {es : List Expr} {b c : Bool} {p : Pos} (h : TestJ X loc hp e b hp) (h2 : b = false → TestJ X loc hp (.BoolOp .Or es p) c hp) : TestJ X loc hp (.BoolOp .Or (e :: es) p) (b || c) hp := by
  intro s m news al Q E R k
  refine isTrue_or (h _ _ _ _ _ _ R fun g1 t1 n1 a1 x1 R1 => ?_)
  cases b with
  | true =>
    refine wp_pos ?_
    exact k _ _ _ _ x1 R1
  | false =>
    refine wp_neg ?_
    exact h2 rfl _ _ _ _ _ _ R1 fun g2 t2 n2 a2 x2 R2 => k _ _ _ _ (x1.trans x2) R2

theorem e_neg {e : Expr} {i : Int} {p : Pos} (h : EvJ X loc hp e (.int i) hp1) : EvJ X loc hp (.UnaryOp .USub e p) (.int (-i)) hp1 := by
  intro s m news al Q E R k
  exact UnaryOp_ (h.intK R fun t1 g1 k1 n1 a1 x1 R1 => neg_int (k _ _ _ _ _ x1 (.int _ _) R1))
theorem e_if {t b o : Expr} {p : Pos} {c : Bool} {v : AV} (h : TestJ X loc hp t c hp1) (h1 : c = true → EvJ X loc hp1 b v hp2) (h2 : c = false → EvJ X loc hp1 o v hp2) : EvJ X loc hp (.IfExp t b o p) v hp2 := by
  intro s m news al Q E R k
  refine IfExp_ (h _ _ _ _ _ _ R fun g1 t1 n1 a1 x1 R1 => ?_)
  cases c with
  | true =>
    refine wp_pos ?_
    exact h1 rfl _ _ _ _ _ _ R1 fun u g2 t2 n2 a2 x2 r2 R2 => k _ _ _ _ _ (x1.trans x2) r2 R2
  | false =>
    refine wp_neg ?_
    exact h2 rfl _ _ _ _ _ _ R1 fun u g2 t2 n2 a2 x2 r2 R2 => k _ _ _ _ _ (x1.trans x2) r2 R2
/-- or, and between two bools -/
theorem e_or {e f : Expr} {a b : Bool} {p : Pos} (h : EvJ X loc hp e (.bool a) hp) (h2 : a = false → EvJ X loc hp f (.bool b) hp) : EvJ X loc hp (.BoolOp .Or [e, f] p) (.bool (a || b)) hp := by
  intro s m news al Q E R k
  refine BoolOp_or (h.boolK R fun g1 t1 n1 a1 x1 R1 => wpAny_truthy_bool ?_)
  cases a with
  | true => refine wp_pos ?_; exact k _ _ _ _ _ x1 (.bool _) R1
  | false =>
    refine wp_neg ?_
    exact BoolOp_one (h2 rfl _ _ _ _ _ _ R1 fun u g2 t2 n2 a2 x2 r2 R2 => k _ _ _ _ _ (x1.trans x2) r2 R2)

/-! what was made and is not held may be forgotten -/
mutual
noncomputable def Small (n : Nat) : AV → Bool
  | .ref k => decide (k < n)
  | .tup l => SmallL n l
  | _ => true
noncomputable def SmallL (n : Nat) : List AV → Bool
  | [] => true
  | a :: r => Small n a && SmallL n r
end
theorem VRep.cut {news : Led} {al : List Addr} {n : Nat} {u : Value} {v : AV} (h : VRep news al u v) : Small n v = true → VRep news (al.take n) u v :=
  VRep.rec (motive_1 := fun u v _ => Small n v = true → VRep news (al.take n) u v) (motive_2 := fun us vs _ => SmallL n vs = true → VAll news (al.take n) us vs) (fun _ => .none) (fun b _ => .bool b) (fun i t _ => .int i t) (fun b t _ => .bytes b t) (fun m _ r e => .tup m (r e)) (fun h e => .ref ((List.getElem?_take_of_lt (of_decide_eq_true e)).trans h)) (fun h n _ => .raw h n) (fun x t _ => .str x t) (fun _ => .nil) (fun _ _ a b e => .cons (a (Bool.and_eq_true_iff.mp e).1) (b (Bool.and_eq_true_iff.mp e).2)) h
theorem VAll.cut {news : Led} {al : List Addr} {n : Nat} {u : List Value} {v : List AV} (h : VAll news al u v) : SmallL n v = true → VAll news (al.take n) u v :=
  h.ind (C := fun us vs => SmallL n vs = true → VAll news (al.take n) us vs) (fun _ => .nil) fun _ _ _ _ a _ c e => .cons (a.cut (Bool.and_eq_true_iff.mp e).1) (c (Bool.and_eq_true_iff.mp e).2)
end
end Mine
end

section
set_option maxHeartbeats 1000000
open PySem PySem.W PyProof.Rows PySem.Calls
namespace Mine

section
variable {prog : Program} {w : World} {A : Around} {E : Value → Shared → Prop} {s : Shared}
theorem bb_lookup : typeLookup (.type "bytes") "__bytes__" = pure (some (.builtin "bytes.__bytes__")) := by rw [typeLookup_type, builtinLookup_eq_fast]; kernel_rfl
theorem bb_new {b : Array UInt8} {t : Tok} {Q : Value → Shared → Prop} (hQ : Q (.bytes b t) s) :
    codeAny (model prog w) A (.call (.builtin "bytes.__new__") ⟨[.type "bytes", .bytes b t], []⟩) (wants Q E) s := by
  refine codeAny_of_tree ?_
  show wpAny _ A.in1 (do checkBuiltinCall "bytes.__new__" ⟨[.type "bytes", .bytes b t], []⟩; again (.builtin "bytes.__new__" ⟨[.type "bytes", .bytes b t], []⟩)) _ _ s
  refine wpAny_bind (wpAny_of_eq (F.bm_newCall _) (wpAny_pure ⟨plainId_quiet F.bm_plain _, codeAny_builtin F.bm_entry ?_⟩))
  rw [Around.under_plainId F.bm_plain _]
  have hT : s.TypeIs (.bytes b t) "bytes" := PySem.W.typeIs_bytes _ _ _
  unfold Builtin.«bytes.__new__»
  refine wpAny_bind (wpAny_of_eq (a := true) rfl ?_)
  refine bm_if_false rfl ?_
  refine wpAny_bind (wpAny_of_eq F.bm_sub ?_)
  refine bm_if_false rfl ?_
  refine wpAny_bind (wpAny_of_eq (F.bm_bind _) ?_)
  refine wpAny_bind (wpAny_of_eq (a := ()) rfl ?_)
  refine wpAny_bind (wpAny_of_eq (a := ()) rfl ?_)
  refine bm_if_false rfl ?_
  refine wpAny_bind (wpAny_specialOf hT bb_lookup ?_)
  refine wpAny_bind (wpAny_rule ?_)
  refine wpAny_bind (wpAny_of_eq (a := Value.type "bytes") rfl ?_)
  refine bm_if_true rfl ?_
  exact wpAny_pure hQ
theorem bb_call {b : Array UInt8} {t : Tok} {Q : Value → Shared → Prop} (hQ : Q (.bytes b t) s) : wpAny (model prog w) A (call (.type "bytes") [.bytes b t]) Q E s := by
  refine callType_codes (Q₁ := fun obj s₁ => s₁.TypeIs obj "bytes" ∧ Q obj s₁) F.bm_called (F.bm_typeCall _) F.entry_object_init
    (bb_new ⟨PySem.W.typeIs_bytes _ _ _, hQ⟩) fun obj s₁ h₁ => ?_
  exact ⟨h₁.1, F.args_object_init_2 obj _, object_init_meets F.bm_called.init.lookup F.bm_called.made (by decide) prog w A.in1 _ s₁ ⟨h₁.1, rfl, h₁.2⟩⟩
end

theorem VRep.small {news : Led} {al : List Addr} {u : Value} {v : AV} (h : VRep news al u v) : Small al.length v = true :=
  VRep.rec (motive_1 := fun u v _ => Small al.length v = true) (motive_2 := fun us vs _ => SmallL al.length vs = true) rfl (fun _ => rfl) (fun _ _ => rfl) (fun _ _ => rfl) (fun _ _ r => r) (fun h => decide_eq_true (List.getElem?_eq_some_iff.mp h).1) (fun _ _ => rfl) (fun _ _ => rfl) rfl (fun _ _ a b => Bool.and_eq_true_iff.mpr ⟨a, b⟩) h
theorem VAll.small {news : Led} {al : List Addr} {u : List Value} {v : List AV} (h : VAll news al u v) : SmallL al.length v = true :=
  h.ind (C := fun _ vs => SmallL al.length vs = true) rfl fun _ _ _ _ a _ c => Bool.and_eq_true_iff.mpr ⟨a.small, c⟩
theorem EAll.small {news : Led} {al : List Addr} {es : List DictEntry} {fs : Loc} (h : EAll news al es fs) : ∀ p ∈ fs, Small al.length p.2 = true := by
  induction h with
  | nil => exact fun _ h => nomatch h
  | cons a b _ ih =>
    intro p hp
    rcases List.mem_cons.mp hp with e | hp
    · rw [e]; exact b.small
    · exact ih p hp
theorem EAll.cut {news : Led} {al : List Addr} {n : Nat} {es : List DictEntry} {fs : Loc} (h : EAll news al es fs) : (∀ p ∈ fs, Small n p.2 = true) → EAll news (al.take n) es fs := by
  induction h with
  | nil => exact fun _ => .nil
  | cons a b _ ih => exact fun H => .cons a (b.cut (H _ (.head _))) (ih fun p hp => H p (.tail _ hp))
/-- the content of an object looks only below n -/
noncomputable def AO.Small (n : Nat) : AO → Prop
  | .list l => SmallL n l = true
  | .inst _ d => d < n
  | .dict fs => ∀ p ∈ fs, Mine.Small n p.2 = true
  | .exc _ none => True
  | .exc _ (some d) => d < n
theorem ORep.small {news : Led} {al : List Addr} {a : Addr} {o : AO} (h : ORep news al a o) : o.Small al.length := by
  cases h with
  | list _ v => exact v.small
  | inst _ e => exact (List.getElem?_eq_some_iff.mp e).1
  | dict _ e => exact e.small
  | exc0 _ => trivial
  | exc1 _ e => exact (List.getElem?_eq_some_iff.mp e).1
theorem ORep.cut {news : Led} {al : List Addr} {n : Nat} {a : Addr} {o : AO} (h : ORep news al a o) (s : o.Small n) : ORep news (al.take n) a o := by
  cases h with
  | list m v => exact .list m (v.cut s)
  | inst m e => exact .inst m (by rw [List.getElem?_take_of_lt s]; exact e)
  | dict m e => exact .dict m (e.cut s)
  | exc0 m => exact .exc0 m
  | exc1 m e => exact .exc1 m (by rw [List.getElem?_take_of_lt s]; exact e)

theorem HRep.cut {news n1 : Led} {al a1 : List Addr} {hp g : Hp} (H : HRep news al hp) (x : Ext news al n1 a1) (H1 : HRep n1 a1 (hp ++ g)) : a1.take hp.length = al ∧ HRep n1 al hp ∧ Ext news al n1 al := by
  have e : a1.take hp.length = al := by
    obtain ⟨t, e⟩ := x.al
    rw [e, ← H.len]; simp
  refine ⟨e, ⟨H.len, H.nd, fun k a o e1 e2 => ?_⟩, ⟨⟨⟨[], by simp⟩, x.tup⟩, x.keep, fun _ h k => absurd h k⟩⟩
  have s : o.Small hp.length := by rw [← H.len]; exact (H.ob k a o e1 e2).small
  have h1 := H1.ob k a o (x.get e1) (by rw [List.getElem?_append_left (List.getElem?_eq_some_iff.mp e2).1]; exact e2)
  rw [← e]
  exact h1.cut s

section
variable {X : FX} {loc : Loc} {hp hp1 hp2 hp3 g : Hp}
theorem RepS.cut {h h1 : Heap} {m : Str → Option Value} {news n1 : Led} {al a1 : List Addr} (R : RepS X loc hp h m news al) (x : Ext news al n1 a1) (R1 : RepS X loc (hp ++ g) h1 m n1 a1) : RepS X loc hp h1 m n1 al ∧ Ext news al n1 al := by
  obtain ⟨e, H, x'⟩ := R.C.H.cut x R1.C.H
  exact ⟨⟨⟨R1.C.F, R1.C.N, H⟩, R.V.mono x'⟩, x'⟩
theorem e_cut {e : Expr} {v : AV} (h : EvJ X loc hp e v (hp ++ g)) (hv : Small hp.length v = true) : EvJ X loc hp e v hp := by
  intro s m news al Q E R k
  refine h _ _ _ _ _ _ R fun u g1 t1 n1 a1 x1 r1 R1 => ?_
  obtain ⟨R', x'⟩ := R.cut x1 R1
  have r' := r1.cut hv
  rw [(R.C.H.cut x1 R1.C.H).1] at r'
  exact k _ _ _ _ _ x' r' R'
theorem t_cut {e : Expr} {b : Bool} (h : TestJ X loc hp e b (hp ++ g)) : TestJ X loc hp e b hp := by
  intro s m news al Q E R k
  refine h _ _ _ _ _ _ R fun g1 t1 n1 a1 x1 R1 => ?_
  obtain ⟨R', x'⟩ := R.cut x1 R1
  exact k _ _ _ _ x' R'

/-! calls of names -/
/-- the name of a built-in -/
theorem nm_built {x : Str} {p : Pos} {bv : Value} {s : Shared} {m : Str → Option Value} {news : Led} {al : List Addr} {Q E : Value → Shared → Prop} (R : RepS X loc hp s.heap m news al) (e : nsIn (hd.heap_39 X.w.params) mainGlobals x = some none) (hv : bootBuiltins x = some bv)
    (hx : X.env.kindOf x = some .globalImplicit) (hn : x ≠ ("__name__" : Str)) (hd : (x == ("__debug__" : Str)) = false) (h : Q bv s) : wpAny X.M X.A (eval (.Name x p) X.env) Q E s :=
  nameX_B R.C.F X.X (topRead_of X.T) e hv hn h X.hk hx hd
theorem nm_def {x : Str} {p : Pos} {v : Value} {s : Shared} {m : Str → Option Value} {news : Led} {al : List Addr} {Q E : Value → Shared → Prop} (R : RepS X loc hp s.heap m news al) (e : nsIn (hd.heap_39 X.w.params) mainGlobals x = some (some v))
    (hx : X.env.kindOf x = some .globalImplicit) (hd : (x == ("__debug__" : Str)) = false) (h : Q v s) : wpAny X.M X.A (eval (.Name x p) X.env) Q E s :=
  nameX_K R.C.F X.X (topRead_of X.T) e h X.hk hx hd

theorem e_callb {x : Str} {np p : Pos} {e : Expr} {es : List Expr} {id : String} {vs : List AV} {v : AV} (h1 : EvsJ X loc hp (e :: es) vs hp1) (h2 : CallJ X hp1 (.builtin id) vs v hp2) (hb : bootBuiltins x = some (.builtin id)) (en : nsIn (hd.heap_39 X.w.params) mainGlobals x = some none)
    (hx : X.env.kindOf x = some .globalImplicit := by rfl) (hn : x ≠ ("__name__" : Str) := by decide) (hd : (x == ("__debug__" : Str)) = false := by decide)
    (hs : ∀ env, starEach (e :: es) env = (false, eval e env) :: starEach es env := by intro _; rfl) (hpl : ∀ env, (backTo p (starEach es env)).any (·.1) = false := by intro _; rfl)
    (hc : ∀ env, eval (.Call (.Name x np) (e :: es) [] p) env = (do callWith p (← eval (.Name x np) env) [] (backTo p (starEach (e :: es) env)) (backToKw p (keywordEach [] env))) := by intro _; rfl) : EvJ X loc hp (.Call (.Name x np) (e :: es) [] p) v hp2 := by
  intro s m news al Q E R k
  refine Call_ (nm_built R en hb hx hn hd ?_) (hc _)
  refine PyProof.Rows.callWith_builtin1 (h1 _ _ _ _ _ _ _ R fun us g1 t1 n1 a1 x1 r1 R1 => ?_) (hs _) (hpl _)
  exact h2 _ _ _ _ _ _ _ R1.C r1 fun u g2 t2 n2 a2 x2 r2 C2 => k _ _ _ _ _ (x1.trans x2) r2 ⟨C2, R1.V.mono x2⟩
theorem e_callt {x : Str} {np p : Pos} {e : Expr} {es : List Expr} {T : String} {vs : List AV} {v : AV} (h1 : EvsJ X loc hp (e :: es) vs hp1) (h2 : CallJ X hp1 (.type T) vs v hp2) (hb : bootBuiltins x = some (.type T)) (en : nsIn (hd.heap_39 X.w.params) mainGlobals x = some none)
    (hx : X.env.kindOf x = some .globalImplicit := by rfl) (hn : x ≠ ("__name__" : Str) := by decide) (hd : (x == ("__debug__" : Str)) = false := by decide)
    (hs : ∀ env, starEach (e :: es) env = (false, eval e env) :: starEach es env := by intro _; rfl) (hpl : ∀ env, (backTo p (starEach es env)).any (·.1) = false := by intro _; rfl)
    (hc : ∀ env, eval (.Call (.Name x np) (e :: es) [] p) env = (do callWith p (← eval (.Name x np) env) [] (backTo p (starEach (e :: es) env)) (backToKw p (keywordEach [] env))) := by intro _; rfl) : EvJ X loc hp (.Call (.Name x np) (e :: es) [] p) v hp2 := by
  intro s m news al Q E R k
  refine Call_ (nm_built R en hb hx hn hd ?_) (hc _)
  refine PyProof.Rows.callWith_type1 (h1 _ _ _ _ _ _ _ R fun us g1 t1 n1 a1 x1 r1 R1 => ?_) (hs _) (hpl _)
  exact h2 _ _ _ _ _ _ _ R1.C r1 fun u g2 t2 n2 a2 x2 r2 C2 => k _ _ _ _ _ (x1.trans x2) r2 ⟨C2, R1.V.mono x2⟩
/-- a def of the text (or a class), called with arguments -/
theorem e_callf {x : Str} {np p : Pos} {e : Expr} {es : List Expr} {f : Addr} {vs : List AV} {v : AV} (h1 : EvsJ X loc hp (e :: es) vs hp1) (h2 : CallJ X hp1 (.ref f) vs v hp2) (en : nsIn (hd.heap_39 X.w.params) mainGlobals x = some (some (.ref f))) (hkeep : keepIn (hd.heap_39 X.w.params) (.ref f) = true)
    (hx : X.env.kindOf x = some .globalImplicit := by rfl) (hd : (x == ("__debug__" : Str)) = false := by decide)
    (hs : ∀ env, starEach (e :: es) env = (false, eval e env) :: starEach es env := by intro _; rfl) (hpl : ∀ env, (backTo p (starEach es env)).any (·.1) = false := by intro _; rfl)
    (hc : ∀ env, eval (.Call (.Name x np) (e :: es) [] p) env = (do callWith p (← eval (.Name x np) env) [] (backTo p (starEach (e :: es) env)) (backToKw p (keywordEach [] env))) := by intro _; rfl) : EvJ X loc hp (.Call (.Name x np) (e :: es) [] p) v hp2 := by
  intro s m news al Q E R k
  refine Call_ (nm_def R en hx hd ?_) (hc _)
  refine callWith_K X.X hkeep (h1 _ _ _ _ _ _ _ R fun us g1 t1 n1 a1 x1 r1 R1 => ⟨X.X.keeps R1.C.F.keep, ?_⟩) (hs _) (hpl _)
  exact h2 _ _ _ _ _ _ _ R1.C r1 fun u g2 t2 n2 a2 x2 r2 C2 => k _ _ _ _ _ (x1.trans x2) r2 ⟨C2, R1.V.mono x2⟩
theorem e_callf0 {x : Str} {np p : Pos} {f : Addr} {v : AV} (h2 : CallJ X hp (.ref f) [] v hp2) (en : nsIn (hd.heap_39 X.w.params) mainGlobals x = some (some (.ref f))) (hkeep : keepIn (hd.heap_39 X.w.params) (.ref f) = true)
    (hx : X.env.kindOf x = some .globalImplicit := by rfl) (hd : (x == ("__debug__" : Str)) = false := by decide)
    (hc : ∀ env, eval (.Call (.Name x np) [] [] p) env = (do callWith p (← eval (.Name x np) env) [] (backTo p (starEach [] env)) (backToKw p (keywordEach [] env))) := by intro _; rfl) : EvJ X loc hp (.Call (.Name x np) [] [] p) v hp2 := by
  intro s m news al Q E R k
  refine Call_ (nm_def R en hx hd ?_) (hc _)
  refine callWith_K0 (X.X.keeps R.C.F.keep) hkeep ?_
  exact h2 _ _ _ _ _ _ _ R.C .nil fun u g2 t2 n2 a2 x2 r2 C2 => k _ _ _ _ _ x2 r2 ⟨C2, R.V.mono x2⟩

/-! the built-ins -/
@[elab_as_elim] theorem Core.listC {h : Heap} {m : Str → Option Value} {news : Led} {al : List Addr} {i : Nat} {l : List AV} {C : Value → Prop} {u : Value} (Z : Core X hp h m news al) (r : VRep news al u (.ref i)) (hi : hp[i]? = some (.list l))
    (k : ∀ a vs n, al[i]? = some a → (a, listOf vs.toArray n) ∈ news → VAll news al vs l → C (.ref a)) : C u := by
  refine r.refC fun a ha => ?_
  obtain ⟨a', ha', ho⟩ := Z.H.addr hi
  cases Option.some.inj (ha.symm.trans ha')
  cases ho with
  | list hm hv => exact k _ _ _ ha hm hv
theorem small63 {n : Nat} (h : n ≤ 1000000) : (n : Int) < 2 ^ 63 := by omega
theorem size_le {α : Type} {vs : List α} {n : Nat} (h : vs.length ≤ n) : vs.toArray.size ≤ n := by rw [List.size_toArray]; exact h
theorem k_len_bytes {b : List UInt8} (hb : b.length ≤ 1000000) : CallJ X hp (.builtin "len") [.bytes b] (.int (b.length : Nat)) hp := fun s m news al us Q E C r k =>
  r.oneC fun u r1 => r1.bytesC fun t => len_bytes (size_le (Nat.le_trans hb (Nat.le_of_ble_eq_true rfl))) (by rw [List.size_toArray]; exact k _ s.heap _ _ _ Ext.refl (.int _ _) C)
theorem VAll.le {news : Led} {al : List Addr} {vs : List Value} {l : List AV} {n : Nat} (h : VAll news al vs l) (z : l.length ≤ n) : vs.toArray.size ≤ n := by rw [List.size_toArray, h.length]; exact z
theorem line_ge {n : Nat} (h : n ≤ 1000000) : n ≤ sizeLine := by rw [sizeLine_eq]; omega
theorem k_len_list {i : Nat} {l : List AV} (hi : hp[i]? = some (.list l)) (hb : l.length ≤ 1000000) : CallJ X hp (.builtin "len") [.ref i] (.int (l.length : Nat)) hp := fun s m news al us Q E C r k =>
  r.oneC fun u r1 => C.listC r1 hi fun a vs n ha hm hv => Calls.call_len_list (PySem.IsL.isList (C.N _ hm).1) (small63 (hv.le hb)) (by rw [List.size_toArray, hv.length]; exact k _ _ _ _ _ Ext.refl (.int _ _) C)
theorem Core.newListK {h h' : Heap} {m : Str → Option Value} {news : Led} {al : List Addr} {l : Addr} {us : List Value} {n : Nat} {vs : List AV} {G : Prop} (Z : Core X hp h m news al) (v : VAll news al us vs)
    (F : Fr X.h₀ X.L h' m) (N : News X.h₀ X.L h' ((l, listOf us.toArray n) :: news)) (hl : ∀ p ∈ news, p.1 < l)
    (k : Core X (hp ++ [.list vs]) h' m ((l, listOf us.toArray n) :: news) (al ++ [l]) → VRep ((l, listOf us.toArray n) :: news) (al ++ [l]) (.ref l) (.ref hp.length) → G) : G := k (Z.newList v F N hl).1 (Z.newList v F N hl).2
theorem k_copy {i : Nat} {l : List AV} (hi : hp[i]? = some (.list l)) (hb : l.length ≤ 1000000) : CallJ X hp (.type "list") [.ref i] (.ref hp.length) (hp ++ [.list l]) := fun s m news al us Q E C r k =>
  r.oneC fun u r1 => C.listC r1 hi fun a vs n ha hm hv => list_copyK C.F C.N (PySem.IsL.isList (C.N _ hm).1) (fun D c h' F' N' hl => C.newListK hv F' N' hl fun C' v' => k _ _ s.toks _ _ (Ext.push hl) v' C') (line_ge (hv.le hb))
theorem k_min {a b : Int} : CallJ X hp (.builtin "min") [.int a, .int b] (.int (if b < a then b else a)) hp := fun s m news al us Q E C r k =>
  r.twoC fun u v r1 r2 => r1.intC fun t => r2.intC fun w => min_two_N rfl C.F C.N fun h' tk F' N' => k _ _ _ _ _ Ext.refl (.int _ _) ⟨F', N', C.H⟩
theorem k_max {a b : Int} : CallJ X hp (.builtin "max") [.int a, .int b] (.int (if b > a then b else a)) hp := fun s m news al us Q E C r k =>
  r.twoC fun u v r1 r2 => r1.intC fun t => r2.intC fun w => max_two_N rfl C.F C.N fun h' tk F' N' => k _ _ _ _ _ Ext.refl (.int _ _) ⟨F', N', C.H⟩
theorem k_bytes {b : List UInt8} : CallJ X hp (.type "bytes") [.bytes b] (.bytes b) hp := fun s m news al us Q E C r k =>
  r.oneC fun u r1 => r1.bytesC fun t => bb_call (k _ s.heap s.toks _ _ Ext.refl (.bytes _ _) C)
end
end Mine
end

section
set_option maxHeartbeats 1000000
open PySem PySem.W PyProof.Rows PySem.Calls
namespace Mine

theorem news_append {prog : Program} {w : World} {A : Around} {E : Value → Shared → Prop} {s : Shared} {h₀ : Heap} {L D : Addr} {m : Str → Option Value} {news news' : Led} {vs : List Value} {n : Nat} {x : Value} {Q : Value → Shared → Prop} (F : Fr h₀ L s.heap m) (N : News h₀ L s.heap news) (U : Upd D (listOf vs.toArray n) (listOf (vs ++ [x]).toArray (n + 1)) news news') (hb : vs.length ≤ 1000000)
    (hq : ∀ h', Fr h₀ L h' m → News h₀ L h' news' → Q .none { s with heap := h' }) : wpAny (model prog w) A (call (.builtin "list.append") [.ref D, x]) Q E s := by
  have e : (vs ++ [x]).toArray = vs.toArray.push x := by simp
  rw [e] at U
  exact append_K (hsz := by rw [List.size_toArray, sizeLine_eq]; omega) F N U hq

theorem kl_cut_ex : ∀ (vs : List Value) (k : Nat) {y : Value}, vs[k]? = some y → ∃ p q, kl_cut vs k = some (p, y, q) ∧ vs.eraseIdx k = p ++ q
  | [], k, y, h => by cases h
  | x :: r, 0, y, h => by
    have e : x = y := by simpa using h
    subst e
    exact ⟨[], r, rfl, rfl⟩
  | x :: r, k + 1, y, h => by
    have h' : r[k]? = some y := by simpa using h
    obtain ⟨p, q, e1, e2⟩ := kl_cut_ex r k h'
    refine ⟨x :: p, q, ?_, ?_⟩
    · show (match kl_cut r k with | some (p, y, q) => some (x :: p, y, q) | none => none) = _
      rw [e1]
    · rw [List.eraseIdx_cons_succ, e2]; rfl
theorem VAll.eraseIdx {news : Led} {al : List Addr} : ∀ {vs : List Value} {l : List AV} (i : Nat), VAll news al vs l → VAll news al (vs.eraseIdx i) (l.eraseIdx i)
  | _, _, _, .nil => .nil
  | _, _, 0, .cons _ r => r
  | _, _, i + 1, .cons h r => .cons h (VAll.eraseIdx i r)
theorem seqIndex_nat {k : Int} {n : Nat} (h0 : 0 ≤ k) (h1 : k < n) : seqIndex? k n = some k.toNat := by
  have e0 : (if k < 0 then k + (n : Int) else k) = k := by rw [if_neg (by omega)]
  have e : (decide (0 ≤ k) && decide (k < (n : Int))) = true := by simp [h0, h1]
  show (if (decide (0 ≤ (if k < 0 then k + (n : Int) else k)) && decide ((if k < 0 then k + (n : Int) else k) < (n : Int))) = true then some (if k < 0 then k + (n : Int) else k).toNat else none) = _
  rw [e0, e]; rfl
theorem VRep.handed {news : Led} {al : List Addr} {u : Value} {v : AV} (h : VRep news al u v) : handedIn u = true := by cases h <;> first | rfl | assumption

section
variable {X : FX} {loc : Loc} {hp hp1 hp2 hp3 g : Hp}

/-- a list of the state, in the heap -/
theorem Core.list {h : Heap} {m : Str → Option Value} {news : Led} {al : List Addr} {u : Value} {i : Nat} {l : List AV} (C : Core X hp h m news al) (r : VRep news al u (.ref i)) (hi : hp[i]? = some (.list l)) :
    ∃ a vs n, u = .ref a ∧ al[i]? = some a ∧ (a, listOf vs.toArray n) ∈ news ∧ VAll news al vs l := by
  cases r with
  | ref ha =>
    obtain ⟨a', ha', ho⟩ := C.H.addr hi
    rw [ha] at ha'
    cases ha'
    cases ho with
    | list hm hv => exact ⟨_, _, _, rfl, ha, hm, hv⟩
theorem Core.setList {h h' : Heap} {m : Str → Option Value} {news : Led} {al : List Addr} {a : Addr} {i : Nat} {vs ws : List Value} {n n' : Nat} {l' : List AV} (C : Core X hp h m news al) (ha : al[i]? = some a) (hm : (a, listOf vs.toArray n) ∈ news)
    (F : Fr X.h₀ X.L h' m) (N : News X.h₀ X.L h' ((a, listOf ws.toArray n') :: offA a news)) (hv : VAll news al ws l') :
    Core X (hp.set i (.list l')) h' m ((a, listOf ws.toArray n') :: offA a news) al ∧ Ext news al ((a, listOf ws.toArray n') :: offA a news) al := by
  obtain ⟨H, x⟩ := C.H.upd C.N (o' := listOf ws.toArray n') (ao := .list l') ha hm (by simp) (fun x => .list (.head _) (hv.mono x))
  exact ⟨⟨F, N, H⟩, x⟩

theorem VAll.append' {news : Led} {al : List Addr} {vs ws : List Value} {l k : List AV} (h : VAll news al vs l) (g : VAll news al ws k) : VAll news al (vs ++ ws) (l ++ k) := VAll.append g h
theorem Core.setListK {h h' : Heap} {m : Str → Option Value} {news : Led} {al : List Addr} {a : Addr} {i : Nat} {vs ws : List Value} {n n' : Nat} {l' : List AV} {G : Prop} (C : Core X hp h m news al) (ha : al[i]? = some a) (hm : (a, listOf vs.toArray n) ∈ news)
    (F : Fr X.h₀ X.L h' m) (N : News X.h₀ X.L h' ((a, listOf ws.toArray n') :: offA a news)) (hv : VAll news al ws l') (k : Core X (hp.set i (.list l')) h' m ((a, listOf ws.toArray n') :: offA a news) al → Ext news al ((a, listOf ws.toArray n') :: offA a news) al → G) : G :=
  k (C.setList ha hm F N hv).1 (C.setList ha hm F N hv).2
theorem k_append {i : Nat} {l : List AV} {v : AV} (hi : hp[i]? = some (.list l)) (hb : l.length ≤ 1000000) : CallJ X hp (.builtin "list.append") [.ref i, v] .none (hp.set i (.list (l ++ [v]))) := fun s m news al us Q E C r k =>
  r.twoC fun u w r1 r3 => C.listC r1 hi fun a vs n ha hm hv => news_append C.F (News.at' C.N hm) upd_at (hv.length ▸ hb) fun h' F' N' => C.setListK ha hm F' N' (hv.append' (.cons r3 .nil)) fun C' x => k _ _ s.toks _ _ x .none C'

theorem VAll.getK {news : Led} {al : List Addr} {vs : List Value} {l : List AV} {i : Nat} {v : AV} {G : Prop} (h : VAll news al vs l) (e : l[i]? = some v) (k : ∀ u, vs[i]? = some u → VRep news al u v → G) : G := by
  obtain ⟨u, a, b⟩ := h.get e
  exact k u a b
theorem pop_cut {vs : List Value} {k : Nat} {y : Value} {G : Prop} (h : vs[k]? = some y) (g : ∀ p q, kl_cut vs k = some (p, y, q) → vs.eraseIdx k = p ++ q → G) : G := by
  obtain ⟨p, q, a, b⟩ := kl_cut_ex vs k h
  exact g p q a b
theorem k_pop {i : Nat} {l : List AV} {v : AV} {j : Int} (hi : hp[i]? = some (.list l)) (h0 : 0 ≤ j) (hj : l[j.toNat]? = some v) (hb : l.length ≤ 1000000) : CallJ X hp (.builtin "list.pop") [.ref i, .int j] v (hp.set i (.list (l.eraseIdx j.toNat))) := by
  have hlt : j.toNat < l.length := (List.getElem?_eq_some_iff.mp hj).1
  have hj2 : j < (l.length : Int) := (Int.toNat_lt h0).mp hlt
  have hj3 : j < 2 ^ 63 := by omega
  exact fun s m news al us Q E C r k => r.twoC fun u w r1 r3 => r3.intC fun t => C.listC r1 hi fun a vs n ha hm hv => hv.getK hj fun u hu ru => pop_cut hu fun p q e1 e2 =>
    kl_popAt (p := p) (q := q) (y := u) C.F (News.at' C.N hm) (fitsIndex_of h0 hj3) (seqIndex_nat h0 (by rw [List.size_toArray, hv.length]; exact hj2)) e1 upd_at (line_ge (hv.length ▸ hb)) fun h' F' N' =>
      C.setListK (ws := p ++ q) (l' := l.eraseIdx j.toNat) ha hm F' N' (e2 ▸ VAll.eraseIdx _ hv) fun C' x => k _ _ s.toks _ _ x (ru.mono x) C'

/-- a method of a list -/
theorem e_methl {o e : Expr} {es : List Expr} {name : Str} {ap p : Pos} {id : String} {i : Nat} {l : List AV} {vs : List AV} {v : AV} {pl : Env → Sem Bool} (h1 : EvJ X loc hp o (.ref i) hp1) (hi : hp1[i]? = some (.list l)) (h2 : EvsJ X loc hp1 (e :: es) vs hp2) (h3 : CallJ X hp2 (.builtin id) (.ref i :: vs) v hp3)
    (slot : Slot "list" name id) (hty : typeOf (.builtin id) = pure (.type "method_descriptor"))
    (hs : ∀ env, starEach (e :: es) env = (false, eval e env) :: starEach es env := by intro _; rfl) (hpl : ∀ env, (backTo p (starEach es env)).any (·.1) = false := by intro _; rfl)
    (hc : ∀ env, eval (.Call (.Attribute o name ap) (e :: es) [] p) env = (do let ov ← eval o env; standAt ap.atName; let (f, first) ← holding [ov] (getMethod ov name (pl env)); callWith p f first (backTo p (starEach (e :: es) env)) []) := by intro _; rfl) :
    EvJ X loc hp (.Call (.Attribute o name ap) (e :: es) [] p) v hp3 := by
  intro s m news al Q E R k
  refine MethodCall_ (h1 _ _ _ _ _ _ R fun u1 g1 t1 n1 a1 x1 r1 R1 => ?_) (hc _)
  have r1' := r1
  refine R1.C.listC r1 hi fun a ws n ha hm hv => ?_
  refine kl_method R1.C.N hm slot hty ?_
  refine callWith_method1 (h2 _ _ _ _ _ _ _ R1 fun us g2 t2 n2 a2 x2 r2 R2 => ?_) (hs _) (hpl _)
  exact h3 _ _ _ _ _ _ _ R2.C (.cons (.ref (x2.get ha)) r2) fun u g3 t3 n3 a3 x3 r3 C3 => k _ _ _ _ _ ((x1.trans x2).trans x3) r3 ⟨C3, R2.V.mono x3⟩

/-- an item of a list -/
theorem e_item {o e : Expr} {p : Pos} {i : Nat} {l : List AV} {j : Int} {v : AV} (h1 : EvJ X loc hp o (.ref i) hp1) (h2 : EvJ X loc hp1 e (.int j) hp2) (hi : hp2[i]? = some (.list l)) (h0 : 0 ≤ j) (hj : l[j.toNat]? = some v) (hb : l.length ≤ 1000000)
    (hs : ∀ a j t, subscripted e false (.ref a) (.int j t) = operate [.ref a, .int j t] (getItem (.ref a) (.int j t)) := by intro _ _ _; with_unfolding_all rfl) : EvJ X loc hp (.Subscript o e p) v hp2 := by
  have hlt : j.toNat < l.length := (List.getElem?_eq_some_iff.mp hj).1
  have hj3 : j < 2 ^ 63 := by omega
  exact fun s m news al Q E R k => Subscript_ (h1 _ _ _ _ _ _ R fun u1 g1 t1 n1 a1 x1 r1 R1 => h2.intK R1 fun t g2 t2 n2 a2 x2 R2 => R2.C.listC (r1.mono x2) hi fun a vs n ha hm hv => hv.getK hj fun u hu ru =>
    have hl := PySem.IsL.isList (R2.C.N _ hm).1
    tail_any hl.typeIs slot_list_getitem.lookup (wpAny_getItem_list hl h0 hj3 (by rw [List.getElem?_toArray]; exact hu) (k _ _ _ _ _ (x1.trans x2) ru R2)) (hs _ _ _))
/-- the last item of a list, by -1 -/
theorem e_last {o e : Expr} {p : Pos} {i : Nat} {l : List AV} {v : AV} (h1 : EvJ X loc hp o (.ref i) hp1) (h2 : EvJ X loc hp1 e (.int (-1)) hp2) (hi : hp2[i]? = some (.list (l ++ [v]))) (hb : l.length ≤ 1000000)
    (hs : ∀ a j t, subscripted e false (.ref a) (.int j t) = operate [.ref a, .int j t] (getItem (.ref a) (.int j t)) := by intro _ _ _; with_unfolding_all rfl) : EvJ X loc hp (.Subscript o e p) v hp2 := by
  have hz : (l ++ [v]).length = l.length + 1 := by rw [List.length_append]; rfl
  have hg : (l ++ [v])[l.length]? = some v := by rw [List.getElem?_append_right (Nat.le_refl _), Nat.sub_self]; rfl
  have h1n : -((l.length + 1 : Nat) : Int) ≤ -1 := by omega
  have e0 : ((-1 : Int) + ((l.length + 1 : Nat) : Int)).toNat = l.length := by omega
  exact fun s m news al Q E R k => Subscript_ (h1 _ _ _ _ _ _ R fun u1 g1 t1 n1 a1 x1 r1 R1 => h2.intK R1 fun t g2 t2 n2 a2 x2 R2 => R2.C.listC (r1.mono x2) hi fun a vs n ha hm hv => hv.getK hg fun u hu ru =>
    have hl := PySem.IsL.isList (R2.C.N _ hm).1
    have hs1 : vs.toArray.size = l.length + 1 := by rw [List.size_toArray, hv.length, hz]
    tail_any hl.typeIs slot_list_getitem.lookup (wpAny_getItem_list_neg (x := u) hl (by decide) (by rw [hs1]; exact h1n) (by decide) (by rw [hs1, e0, List.getElem?_toArray]; exact hu) (k _ _ _ _ _ (x1.trans x2) ru R2)) (hs _ _ _))
/-- an item of a tuple -/
theorem e_tupitem {o e : Expr} {p : Pos} {l : List AV} {j : Int} {v : AV} (h1 : EvJ X loc hp o (.tup l) hp1) (h2 : EvJ X loc hp1 e (.int j) hp2) (h0 : 0 ≤ j) (hj : l[j.toNat]? = some v) (hb : l.length ≤ 1000000)
    (hs : ∀ a j t, subscripted e false (.ref a) (.int j t) = operate [.ref a, .int j t] (getItem (.ref a) (.int j t)) := by intro _ _ _; with_unfolding_all rfl) : EvJ X loc hp (.Subscript o e p) v hp2 := by
  have hlt : j < (l.length : Int) := (Int.toNat_lt h0).mp (List.getElem?_eq_some_iff.mp hj).1
  have hj2 : -(2 ^ 63) ≤ j := by omega
  have hj3 : j < 2 ^ 63 := by omega
  exact fun s m news al Q E R k => Subscript_ (h1 _ _ _ _ _ _ R fun u1 g1 t1 n1 a1 x1 r1 R1 => h2.intK R1 fun t g2 t2 n2 a2 x2 R2 => (r1.mono x2).tupC fun a vs n hm hv => hv.getK hj fun u hu ru =>
    item_tupleT ⟨_, (R2.C.N _ hm).1, rfl, _, rfl⟩ hj2 hj3 (seqIndex_nat h0 (hv.length ▸ hlt)) hu (k _ _ _ _ _ (x1.trans x2) ru R2) (hs _ _ _))
end
end Mine
end

section
set_option maxHeartbeats 1000000
open PySem PySem.W PyProof.Rows PySem.Calls
namespace Mine

/-- what the one says, the other says -/
noncomputable def LSub (a b : Loc) : Prop := ∀ x v, a.lookup x = some v → b.lookup x = some v
theorem LSub.nil {b : Loc} : LSub [] b := fun _ _ h => by cases h
theorem LSub.cons {x : Str} {v : AV} {a b : Loc} (e : b.lookup x = some v) (h : LSub a b) : LSub ((x, v) :: a) b := fun y u hy => by
  rw [List.lookup_cons] at hy
  by_cases c : (y == x) = true
  · rw [c] at hy
    cases hy
    rw [beq_iff_eq.mp c]; exact e
  · rw [Bool.not_eq_true] at c
    rw [c] at hy
    exact h y u hy
theorem LSub.refl {a : Loc} : LSub a a := fun _ _ h => h
theorem LRep.weak {news : Led} {al : List Addr} {m : Str → Option Value} {a b : Loc} (r : LRep news al m b) (h : LSub a b) : LRep news al m a := fun x v e => r x v (h x v e)
theorem LRep.store {news : Led} {al : List Addr} {m : Str → Option Value} {loc : Loc} {x : Str} {u : Value} {v : AV} (r : LRep news al m loc) (h : VRep news al u v) : LRep news al (fun y => if y = x then some u else m y) ((x, v) :: loc) := fun y w e => by
  rw [List.lookup_cons] at e
  by_cases c : (y == x) = true
  · rw [c] at e
    cases e
    exact ⟨u, if_pos (beq_iff_eq.mp c), h⟩
  · rw [Bool.not_eq_true] at c
    rw [c] at e
    obtain ⟨u', e1, e2⟩ := r y w e
    exact ⟨u', by show (if y = x then some u else m y) = _; rw [if_neg fun h => by simp [h] at c, e1], e2⟩

theorem VR.weak {X : FX} {news : Led} {al : List Addr} {m : Str → Option Value} {a b : Loc} (r : VR X news al m b) (h : LSub a b) : VR X news al m a := ⟨r.L.weak h, r.K⟩
theorem VR.store {X : FX} {news : Led} {al : List Addr} {m : Str → Option Value} {loc : Loc} {x : Str} {u : Value} {v : AV} (r : VR X news al m loc) (h : VRep news al u v) : VR X news al (fun y => if y = x then some u else m y) ((x, v) :: loc) := ⟨r.L.store h, r.K⟩
/-- two rows of pairs, alike by name and value -/
inductive PAll (news : Led) (al : List Addr) : List (Str × Value) → Loc → Prop
  | nil : PAll news al [] []
  | cons {x : Str} {u : Value} {v : AV} {us : List (Str × Value)} {vs : Loc} : VRep news al u v → PAll news al us vs → PAll news al ((x, u) :: us) ((x, v) :: vs)
theorem PAll.snoc {news : Led} {al : List Addr} {x : Str} {u : Value} {v : AV} (h : VRep news al u v) {us : List (Str × Value)} {vs : Loc} (r : PAll news al us vs) : PAll news al (us ++ [(x, u)]) (vs ++ [(x, v)]) := by
  induction r with
  | nil => exact .cons h .nil
  | cons a _ ih => exact .cons a ih
theorem PAll.reverse {news : Led} {al : List Addr} {us : List (Str × Value)} {vs : Loc} (r : PAll news al us vs) : PAll news al us.reverse vs.reverse := by
  induction r with
  | nil => exact .nil
  | cons a _ ih => rw [List.reverse_cons, List.reverse_cons]; exact ih.snoc a
theorem PAll.lrep {news : Led} {al : List Addr} {us : List (Str × Value)} {vs : Loc} (r : PAll news al us vs) : LRep news al (fun y => us.lookup y) vs := by
  induction r with
  | nil => exact fun _ _ h => by cases h
  | @cons x u v us vs a _ ih =>
    intro y w e
    show ∃ u', List.lookup y ((x, u) :: us) = some u' ∧ _
    rw [List.lookup_cons] at e ⊢
    by_cases c : (y == x) = true
    · rw [c] at e ⊢
      cases e
      exact ⟨_, rfl, a⟩
    · rw [Bool.not_eq_true] at c
      rw [c] at e ⊢
      exact ih y w e
theorem VAll.zip {news : Led} {al : List Addr} : ∀ {us : List Value} {vs : List AV} (xs : List Str), VAll news al us vs → PAll news al (xs.zip us) (xs.zip vs)
  | _, _, [], _ => .nil
  | _, _, _ :: _, .nil => .nil
  | _, _, _ :: xs, .cons h r => .cons h (VAll.zip xs r)
theorem zip_keys {us : List Value} {xs : List Str} : ∀ y ∈ xs.zip us, y.1 ∈ xs := fun y h => (List.of_mem_zip h).1

/-- the frame's scope, as a fact -/
noncomputable def KS (X : FX) (S : Scope) : Prop := X.cs = S
theorem KS.kind {X : FX} {S : Scope} (h : KS X S) {x : Str} {k : Option NameKind} (e : S.names.lookup x = k) : X.env.kindOf x = k := by
  show X.cs.names.lookup x = k
  rw [h]; exact e
theorem KS.swap {X : FX} {S : Scope} (h : KS X S) {ts : List Expr} {v : Expr} {r : Sem (Option (List Str))} (e : ∀ cn L a ccd cl, swappedStores ts v (envX cn S L a ccd cl) = r) : swappedStores ts v X.env = r := by
  show swappedStores ts v (envX X.cn X.cs X.L X.a X.ccd X.cl) = r
  rw [h]; exact e _ _ _ _ _

section
variable {X : FX} {loc loc' : Loc} {hp hp1 hp2 hp3 g : Hp} {P P1 : Post}

theorem RepS.store {h : Heap} {m : Str → Option Value} {news : Led} {al : List Addr} {s : Shared} {x : Str} {u : Value} {v : AV} {Q : Unit → Shared → Prop} {E : Value → Shared → Prop} (R : RepS X loc hp s.heap m news al) (r : VRep news al u v)
    (hl : X.env.kindOf x = some .local) (k : ∀ h' tk m', RepS X ((x, v) :: loc) hp h' m' news al → Q () { s with heap := h', toks := tk }) : wpAny X.M X.A (storeName X.env x u) Q E s :=
  storeX_L R.C.F R.C.N (fun h' F' N' => k h' _ _ ⟨⟨F', N', R.C.H⟩, R.V.store r⟩) X.hk hl

/-! assignment to a target -/
noncomputable def AsgJ (X : FX) (loc : Loc) (hp : Hp) (t : Expr) (v : AV) (loc' : Loc) (hp' : Hp) : Prop :=
  ∀ s m news al u (Q : Unit → Shared → Prop) E, RepS X loc hp s.heap m news al → VRep news al u v →
    (∀ h' tk m' news' al', Ext news al news' al' → RepS X loc' hp' h' m' news' al' → Q () { s with heap := h', toks := tk }) → wpAny X.M X.A (assign t X.env u) Q E s
noncomputable def AsgsJ (X : FX) (loc : Loc) (hp : Hp) (ts : List Expr) (vs : List AV) (loc' : Loc) (hp' : Hp) : Prop :=
  ∀ s m news al us (Q : Unit → Shared → Prop) E, RepS X loc hp s.heap m news al → VAll news al us vs →
    (∀ h' tk m' news' al', Ext news al news' al' → RepS X loc' hp' h' m' news' al' → Q () { s with heap := h', toks := tk }) → wpAny X.M X.A (assignInOrder ((assignEach ts X.env).map (·.2)) us) Q E s
theorem a_name {x : Str} {p : Pos} {v : AV} (hl : X.env.kindOf x = some .local := by rfl) : AsgJ X loc hp (.Name x p) v ((x, v) :: loc) hp := by
  intro s m news al u Q E R r k
  exact PyProof.Rows.assign_Name (R.store (h := s.heap) r hl fun h' tk m' R' => k h' tk m' news al Ext.refl R')
theorem as_nil : AsgsJ X loc hp [] [] loc hp := by
  intro s m news al us Q E R r k
  cases r
  exact assignInOrder_nil (k s.heap s.toks m news al Ext.refl R)
theorem as_cons {t : Expr} {ts : List Expr} {v : AV} {vs : List AV} {loc1 loc2 : Loc} (h1 : AsgJ X loc hp t v loc1 hp1) (h2 : AsgsJ X loc1 hp1 ts vs loc2 hp2) (hs : ∀ env, assignEach (t :: ts) env = (false, assign t env) :: assignEach ts env := by intro _; rfl) : AsgsJ X loc hp (t :: ts) (v :: vs) loc2 hp2 := by
  intro s m news al us Q E R r k
  cases r with
  | cons r1 r2 =>
    rw [hs, List.map_cons]
    exact assignInOrder_cons (h1 _ _ _ _ _ _ _ R r1 fun h' tk m' n1 a1 x1 R1 => h2 _ _ _ _ _ _ _ R1 (r2.mono x1) fun h2 tk2 m2 n2 a2 x2 R2 => k _ _ _ _ _ (x1.trans x2) R2)
theorem a_tup {ts : List Expr} {kk : Nat} {p : Pos} {vs : List AV} (h : AsgsJ X loc hp ts vs loc' hp1) (hn : ∀ env, (assignEach ts env).length = vs.length := by intro _; rfl) (hstar : ∀ env, (assignEach ts env).findIdx? (·.1) = none := by intro _; rfl) :
    AsgJ X loc hp (.Tuple ts kk p) (.tup vs) loc' hp1 := by
  intro s m news al u Q E R r k
  cases r with
  | tup hm hv =>
    refine unpackN_ R.C.F R.C.N ⟨_, (R.C.N _ hm).1, rfl, _, rfl⟩ rfl (by simpa [hv.length] using hn _) (hstar _) fun h' F' N' => ?_
    exact h _ _ _ _ _ _ _ ⟨⟨F', N', R.C.H⟩, R.V⟩ hv k

/-! statements -/
theorem x_nil (h : P .next loc hp) : ExecJ X loc hp [] P := by
  intro s m news al Q E R k
  exact wpAny_execs_nil (k _ _ _ _ _ s.toks _ _ _ h .next Ext.refl R)
theorem x_cons {st : Stmt} {ss : List Stmt} (h1 : StmJ X loc hp st P1) (h2 : ∀ loc' hp', P1 .next loc' hp' → ExecJ X loc' hp' ss P) (h3 : ∀ af loc' hp', af ≠ .next → P1 af loc' hp' → P af loc' hp') : ExecJ X loc hp (st :: ss) P := by
  intro s m news al Q E R k
  refine wpAny_execs_cons (h1 _ _ _ _ _ _ R fun fl af loc' hp' h' tk m' n' a' hP hF hx R' => ?_)
  cases hF with
  | next => exact h2 _ _ hP _ _ _ _ _ _ R' fun fl2 af2 loc2 hp2 h2' tk2 m2 n2 a2 hP2 hF2 hx2 R2 => k _ _ _ _ _ _ _ _ _ hP2 hF2 (hx.trans hx2) R2
  | brk => exact k _ _ _ _ _ _ _ _ _ (h3 _ _ _ (by simp) hP) .brk hx R'
  | cont => exact k _ _ _ _ _ _ _ _ _ (h3 _ _ _ (by simp) hP) .cont hx R'
  | ret r => exact k _ _ _ _ _ _ _ _ _ (h3 _ _ _ (by simp) hP) (.ret r) hx R'
theorem x_mono {ss : List Stmt} (h : ExecJ X loc hp ss P1) (m : ∀ af loc' hp', P1 af loc' hp' → P af loc' hp') : ExecJ X loc hp ss P := by
  intro s m' news al Q E R k
  exact h _ _ _ _ _ _ R fun fl af loc' hp' h' tk m' n' a' hP => k _ _ _ _ _ _ _ _ _ (m _ _ _ hP)
theorem x_weak {ss : List Stmt} (e : LSub loc' loc) (h : ExecJ X loc' hp ss P) : ExecJ X loc hp ss P := by
  intro s m' news al Q E R k
  exact h _ _ _ _ _ _ ⟨R.C, R.V.weak e⟩ k
/-- one statement that goes on, then the rest -/
noncomputable def GoJ (X : FX) (loc : Loc) (hp : Hp) (st : Stmt) (loc' : Loc) (hp' : Hp) : Prop := StmJ X loc hp st fun af l h => af = .next ∧ l = loc' ∧ h = hp'
theorem x_go {st : Stmt} {ss : List Stmt} (h1 : GoJ X loc hp st loc' hp1) (h2 : ExecJ X loc' hp1 ss P) : ExecJ X loc hp (st :: ss) P :=
  x_cons h1 (fun l h ⟨_, e1, e2⟩ => by subst e1; subst e2; exact h2) fun af l h n ⟨e, _⟩ => absurd e n
theorem x_ret {e : Expr} {p : Pos} {v : AV} {ss : List Stmt} (h : EvJ X loc hp e v hp1) (hP : P (.ret v) loc hp1) : ExecJ X loc hp (.Return (some e) p :: ss) P := by
  refine x_cons (P1 := fun af l h => af = .ret v ∧ l = loc ∧ h = hp1) ?_ (fun l h ⟨e, _⟩ => by cases e) fun af l h n ⟨e, e1, e2⟩ => by subst e; subst e1; subst e2; exact hP
  intro s m news al Q E R k
  exact wpAny_Return_some (h _ _ _ _ _ _ R fun u h' tk n' a' hx r R' => k _ _ _ _ _ _ _ _ _ ⟨rfl, rfl, rfl⟩ (.ret r) hx R')
theorem x_brk {p : Pos} {ss : List Stmt} (hP : P .brk loc hp) : ExecJ X loc hp (.Break p :: ss) P := by
  refine x_cons (P1 := fun af l h => af = .brk ∧ l = loc ∧ h = hp) ?_ (fun l h ⟨e, _⟩ => by cases e) fun af l h n ⟨e, e1, e2⟩ => by subst e; subst e1; subst e2; exact hP
  intro s m news al Q E R k
  exact wpAny_Break (k _ _ _ _ s.heap s.toks _ _ _ ⟨rfl, rfl, rfl⟩ .brk Ext.refl R)
theorem x_cont {p : Pos} {ss : List Stmt} (hP : P .cont loc hp) : ExecJ X loc hp (.Continue p :: ss) P := by
  refine x_cons (P1 := fun af l h => af = .cont ∧ l = loc ∧ h = hp) ?_ (fun l h ⟨e, _⟩ => by cases e) fun af l h n ⟨e, e1, e2⟩ => by subst e; subst e1; subst e2; exact hP
  intro s m news al Q E R k
  exact wpAny_Continue (k _ _ _ _ s.heap s.toks _ _ _ ⟨rfl, rfl, rfl⟩ .cont Ext.refl R)
theorem g_expr {e : Expr} {p : Pos} {v : AV} (h : EvJ X loc hp e v hp1) (hi : interactive X.env = false := by rfl) (hs : swapsWith e none p.line X.env = pure false := by rfl) : GoJ X loc hp (.Expr e p) loc hp1 := by
  intro s m news al Q E R k
  exact wpAny_Expr_any (h _ _ _ _ _ _ R fun u h' tk n' a' hx r R' => k _ _ _ _ _ _ _ _ _ ⟨rfl, rfl, rfl⟩ .next hx R') hi hs
theorem g_asg {e t : Expr} {p : Pos} {v : AV} (h1 : EvJ X loc hp e v hp1) (h2 : AsgJ X loc hp1 t v loc' hp2)
    (hs : swapsWithSole [t] e p.line X.env = pure false := by rfl) (hw : swappedStores [t] e X.env = pure none := by rfl) (he : ∀ env, assignEach [t] env = [(false, assign t env)] := by intro _; rfl) : GoJ X loc hp (.Assign [t] e p) loc' hp2 := by
  intro s m news al Q E R k
  rw [exec_Assign]
  refine wpAny_bind (wpAny_standAt ?_)
  rw [hs]
  refine wpAny_bind (wpAny_pure ?_)
  rw [if_neg (by decide)]
  refine wpAny_bind (h1 _ _ _ _ _ _ R fun u h' tk n1 a1 x1 r R1 => ?_)
  rw [hw, he]
  refine wpAny_bind (wpAny_pure ?_)
  show wpAny X.M X.A (do assignAll u [assign t X.env]; pure .next) Q E _
  refine wpAny_bind (h2 _ _ _ _ _ _ _ R1 r fun h2' tk2 m2 n2 a2 x2 R2 => wpAny_pure ?_)
  exact k _ _ _ _ _ _ _ _ _ ⟨rfl, rfl, rfl⟩ .next (x1.trans x2) R2
/-- names, from a written tuple: stored from the last to the first -/
noncomputable def bindAll : List Str → List AV → Loc → Loc
  | x :: xs, v :: vs, l => bindAll xs vs ((x, v) :: l)
  | _, _, l => l
theorem bind_all : ∀ {xs : List Str} {vs : List AV} {loc : Loc} {s : Shared} {m : Str → Option Value} {news : Led} {al : List Addr} {us : List Value} {Q : Unit → Shared → Prop} {E : Value → Shared → Prop}, RepS X loc hp s.heap m news al → VAll news al us vs → xs.length = vs.length → (∀ x ∈ xs, X.env.kindOf x = some .local) →
    (∀ h' tk m', RepS X (bindAll xs vs loc) hp h' m' news al → Q () { s with heap := h', toks := tk }) → wpAny X.M X.A (assignInOrder (xs.map fun n => bindName X.env n) us) Q E s
  | [], _, loc, s, m, news, al, us, Q, E, R, r, e, _, k => by
    cases r with
    | nil => exact assignInOrder_nil (k s.heap s.toks m R)
    | cons _ _ => simp at e
  | x :: xs, _, loc, s, m, news, al, us, Q, E, R, r, e, hl, k => by
    cases r with
    | nil => simp at e
    | cons r1 r2 =>
      rw [List.map_cons]
      refine assignInOrder_cons (bindName_ (R.store (h := s.heap) r1 (hl x (.head _)) fun h' tk m' R' => ?_))
      exact bind_all R' r2 (by simpa using e) (fun y hy => hl y (.tail _ hy)) fun h2 tk2 m2 R2 => k h2 tk2 m2 R2
theorem VAll.reverse {news : Led} {al : List Addr} : ∀ {us : List Value} {vs : List AV}, VAll news al us vs → VAll news al us.reverse vs.reverse
  | _, _, .nil => .nil
  | _, _, .cons h r => by rw [List.reverse_cons, List.reverse_cons]; exact (VAll.reverse r).append' (.cons h .nil)
theorem g_swap {elts : List Expr} {kk : Nat} {tp p : Pos} {e : Expr} {names : List Str} {vs : List AV} (h : EvJ X loc hp e (.tup vs) hp1) (hw : swappedStores [.Tuple elts kk tp] e X.env = pure (some names)) (hl : ∀ x ∈ names, X.env.kindOf x = some .local)
    (hn : names.length = vs.length := by rfl) (hs : swapsWithSole [.Tuple elts kk tp] e p.line X.env = pure false := by rfl) : GoJ X loc hp (.Assign [.Tuple elts kk tp] e p) (bindAll names.reverse vs.reverse loc) hp1 := by
  intro s m news al Q E R k
  refine Assign_Tuple_swapped (h _ _ _ _ _ _ R fun u h' tk n1 a1 x1 r R1 => ?_) hs hw
  cases r with
  | tup hm hv =>
    refine unpackItemsN_ R1.C.F R1.C.N ⟨_, (R1.C.N _ hm).1, rfl, _, rfl⟩ rfl (by rw [List.size_toArray, hv.length]; exact hn) fun h2 F2 N2 => ?_
    refine bind_all ⟨⟨F2, N2, R1.C.H⟩, R1.V⟩ (by simpa using hv.reverse) (by simpa using hn) (fun x hx => hl x (List.mem_reverse.mp hx)) fun h3 tk3 m3 R3 => ?_
    exact k _ _ _ _ _ _ _ _ _ ⟨rfl, rfl, rfl⟩ .next x1 R3
/-- what stands behind a block: the rest, or the way out -/
noncomputable def Seq (X : FX) (ss : List Stmt) (P : Post) : Post
  | .next, l, h => ExecJ X l h ss P
  | .brk, l, h => P .brk l h
  | .cont, l, h => P .cont l h
  | .ret v, l, h => P (.ret v) l h
theorem x_then {st : Stmt} {ss : List Stmt} (h1 : StmJ X loc hp st (Seq X ss P)) : ExecJ X loc hp (st :: ss) P :=
  x_cons h1 (fun _ _ h => h) fun af l h n q => by
    cases af with
    | next => exact absurd rfl n
    | brk => exact q
    | cont => exact q
    | ret v => exact q
theorem m_if {t : Expr} {b : Bool} {body orelse : List Stmt} {p : Pos} (h : TestJ X loc hp t b hp1) (h1 : b = true → ExecJ X loc hp1 body P) (h2 : b = false → ExecJ X loc hp1 orelse P) : StmJ X loc hp (.If t body orelse p) P := by
  intro s m news al Q E R k
  refine wpAny_If (h _ _ _ _ _ _ R fun h' tk n1 a1 x1 R1 => ?_)
  cases b with
  | true =>
    refine wp_pos ?_
    exact h1 rfl _ _ _ _ _ _ R1 fun fl af l' p' h2 tk2 m2 n2 a2 hP hF x2 R2 => k _ _ _ _ _ _ _ _ _ hP hF (x1.trans x2) R2
  | false =>
    refine wp_neg ?_
    exact h2 rfl _ _ _ _ _ _ R1 fun fl af l' p' h2 tk2 m2 n2 a2 hP hF x2 R2 => k _ _ _ _ _ _ _ _ _ hP hF (x1.trans x2) R2
theorem x_if {t : Expr} {b : Bool} {body orelse : List Stmt} {p : Pos} {ss : List Stmt} (h : TestJ X loc hp t b hp1) (h1 : b = true → ExecJ X loc hp1 body (Seq X ss P)) (h2 : b = false → ExecJ X loc hp1 orelse (Seq X ss P)) : ExecJ X loc hp (.If t body orelse p :: ss) P :=
  x_then (m_if h h1 h2)
end
end Mine
end

section
set_option maxHeartbeats 1000000
open PySem PySem.W PyProof.Rows PySem.Calls
namespace Mine

/-- what hangs off a changed ledger that holds no tuple at I -/
theorem HRep.off {h₀ h : Heap} {L I : Addr} {news : Led} {al : List Addr} {hp : Hp} {o o' : Obj} (H : HRep news al hp) (N : News h₀ L h news) (ho : (I, o) ∈ news) (hc : o.cls ≠ .type "tuple") (hn : I ∉ al) :
    HRep ((I, o') :: offA I news) al hp ∧ Ext0 news al ((I, o') :: offA I news) al := by
  have hx : Ext0 news al ((I, o') :: offA I news) al := by
    refine ⟨⟨[], by simp⟩, fun t vs n m => .tail _ (offA_mem m fun e => ?_)⟩
    have h1 := (N _ m).1
    have h2 := (N _ ho).1
    rw [show t = I from e] at h1
    rw [h1] at h2
    cases h2
    exact hc rfl
  refine ⟨⟨H.len, H.nd, fun j b o2 e1 e2 => ?_⟩, hx⟩
  have hne : b ≠ I := fun e => hn (e ▸ List.mem_of_getElem? e1)
  cases H.ob j b o2 e1 e2 with
  | list m v => exact .list (.tail _ (offA_mem m hne)) (v.mono0 hx)
  | inst m e => exact .inst (.tail _ (offA_mem m hne)) (hx.get e)
  | dict m e => exact .dict (.tail _ (offA_mem m hne)) (e.mono0 hx)
  | exc0 m => exact .exc0 (.tail _ (offA_mem m hne))
  | exc1 m e => exact .exc1 (.tail _ (offA_mem m hne)) (hx.get e)

theorem HRep.drop {I : Addr} {news : Led} {al : List Addr} {hp : Hp} (H : HRep news al hp) (hn : I ∉ al) (tN : ∀ a vs n, (a, tupObj vs n) ∈ news → a ≠ I) : HRep (offA I news) al hp ∧ Ext0 news al (offA I news) al := by
  have hx : Ext0 news al (offA I news) al := ⟨⟨[], by simp⟩, fun t vs n m => offA_mem m (tN t vs n m)⟩
  refine ⟨⟨H.len, H.nd, fun j b o2 e1 e2 => ?_⟩, hx⟩
  have hne : b ≠ I := fun e => hn (e ▸ List.mem_of_getElem? e1)
  cases H.ob j b o2 e1 e2 with
  | list m v => exact .list (offA_mem m hne) (v.mono0 hx)
  | inst m e => exact .inst (offA_mem m hne) (hx.get e)
  | dict m e => exact .dict (offA_mem m hne) (e.mono0 hx)
  | exc0 m => exact .exc0 (offA_mem m hne)
  | exc1 m e => exact .exc1 (offA_mem m hne) (hx.get e)
theorem FX.dicts (X : FX) {g : Heap} {m : Str → Option Value} (F : Fr X.h₀ X.L g m) : KtsDicts ((X.env :: X.outer).filterMap (·.frame)) g := fun b hb => by
  rcases List.mem_cons.mp (show b ∈ X.L :: X.outer.filterMap (·.frame) from hb) with e | hb
  · obtain ⟨o, es, ep, ho, hd, _⟩ := F.ns
    exact ⟨o, es, ep, e ▸ ho, hd⟩
  · obtain ⟨o, es, n, ho, hd⟩ := X.D b hb
    exact ⟨o, es, n, F.keep _ _ ho, hd⟩
/-- the same frame, its ground shaken at the frames below -/
@[reducible] noncomputable def FX.turn (X : FX) (g : Heap) (B : Below X.A₀ X.base X.outer g) (K : (hd.heap_39 X.w.params).In g) (T : Top X.p X.loose X.mean X.mg X.mb g) (D : KtsDicts (X.outer.filterMap (·.frame)) g) : FX := { X with h₀ := g, B := B, X := K, T := T, D := D }
inductive Tu (v : Bool) (X : FX) : FX → Prop
  | mk (g : Heap) (t : KtsTurn (X.outer.filterMap (·.frame)) X.h₀ g) (e : v = false → g = X.h₀) (B : Below X.A₀ X.base X.outer g) (K : (hd.heap_39 X.w.params).In g) (T : Top X.p X.loose X.mean X.mg X.mb g) (D : KtsDicts (X.outer.filterMap (·.frame)) g) : Tu v X (X.turn g B K T D)
theorem Tu.refl {v : Bool} {X : FX} : Tu v X X := ⟨X.h₀, KtsTurn.refl, fun _ => rfl, X.B, X.X, X.T, X.D⟩
theorem Tu.trans {v : Bool} {X Y Z : FX} (a : Tu v X Y) (b : Tu v Y Z) : Tu v X Z := by
  obtain ⟨g, t, e, B, K, T, D⟩ := a
  obtain ⟨g', t', e', B', K', T', D'⟩ := b
  exact ⟨g', t.trans t', fun h => (e' h).trans (e h), B', K', T', D'⟩
theorem Tu.eq {X Y : FX} (a : Tu false X Y) : Y = X := by
  obtain ⟨g, t, e, B, K, T, D⟩ := a
  cases e rfl
  rfl
theorem Tu.env {v : Bool} {X Y : FX} (a : Tu v X Y) : Y.env = X.env ∧ Y.A = X.A ∧ Y.M = X.M ∧ Y.L = X.L ∧ Y.room = X.room ∧ Y.w = X.w ∧ Y.cs = X.cs := by
  obtain ⟨g, t, e, B, K, T, D⟩ := a
  exact ⟨rfl, rfl, rfl, rfl, rfl, rfl, rfl⟩
theorem Tu.none {v : Bool} {X Y : FX} (a : Tu v X Y) {b : Addr} (h : X.h₀.get? b = none) : Y.h₀.get? b = none := by
  obtain ⟨g, t, e, B, K, T, D⟩ := a
  exact t.none_ b h
theorem Tu.ks {v : Bool} {X Y : FX} (a : Tu v X Y) {S : Scope} (h : X.cs = S) : Y.cs = S := by rw [a.env.2.2.2.2.2.2]; exact h
/-- what runs, the frame's ground shaken perhaps -/
noncomputable def ExecG (v : Bool) (X : FX) (loc : Loc) (hp : Hp) (ss : List Stmt) (P : Post) : Prop :=
  ∀ s m news al (Q : Flow → Shared → Prop) E, RepS X loc hp s.heap m news al →
    (∀ X' fl af loc' hp' h' tk m' news' al', Tu v X X' → P af loc' hp' → FRep news' al' fl af → Ext news al news' al' → RepS X' loc' hp' h' m' news' al' → Q fl { s with heap := h', toks := tk }) → wpAny X.M X.A (execs ss X.env) Q E s
noncomputable def StmG (v : Bool) (X : FX) (loc : Loc) (hp : Hp) (st : Stmt) (P : Post) : Prop :=
  ∀ s m news al (Q : Flow → Shared → Prop) E, RepS X loc hp s.heap m news al →
    (∀ X' fl af loc' hp' h' tk m' news' al', Tu v X X' → P af loc' hp' → FRep news' al' fl af → Ext news al news' al' → RepS X' loc' hp' h' m' news' al' → Q fl { s with heap := h', toks := tk }) → wpAny X.M X.A (exec st X.env) Q E s
theorem ExecJ.g {v : Bool} {X : FX} {loc : Loc} {hp : Hp} {ss : List Stmt} {P : Post} (h : ExecJ X loc hp ss P) : ExecG v X loc hp ss P := fun s m news al Q E R k =>
  h _ _ _ _ _ _ R fun fl af l p h' tk m' n' a' => k X fl af l p h' tk m' n' a' Tu.refl
theorem StmG.j {X : FX} {loc : Loc} {hp : Hp} {st : Stmt} {P : Post} (h : StmG false X loc hp st P) : StmJ X loc hp st P := fun s m news al Q E R k =>
  h _ _ _ _ _ _ R fun X' fl af l p h' tk m' n' a' t hP hF x R' => by
    cases t.eq
    exact k fl af l p h' tk m' n' a' hP hF x R'
section
variable {X : FX} {loc loc' : Loc} {hp hp1 hp2 hp3 g : Hp} {P P1 : Post}

/-- the state between two turns, short of the iterator -/
inductive JW (J : Nat → Loc → Hp → Prop) (k : Nat) (loc : Loc) (hp : Hp) : Prop
  | mk (loc0 : Loc) (s : LSub loc0 loc) (j : J k loc0 hp) : JW J k loc hp
/-- what a turn leaves -/
noncomputable def TurnP (J : Nat → Loc → Hp → Prop) (k : Nat) (B : Loc → Hp → Prop) (P : Post) : Post
  | .next, l, h => JW J k l h
  | .cont, l, h => JW J k l h
  | .brk, l, h => B l h
  | .ret v, l, h => P (.ret v) l h
noncomputable def LoopP (B : Loc → Hp → Prop) (P : Post) : Post
  | .next, l, h => B l h
  | .ret v, l, h => P (.ret v) l h
  | _, _, _ => False

inductive LoopSt (v : Bool) (X : FX) (J : Nat → Loc → Hp → Prop) (It : Nat → Heap → Prop) (I : Addr) (n0 : Led) (a0 : List Addr) (n : Nat) (s₀ : Shared) : Nat → Shared → Prop
  | mk {X' : FX} {i : Nat} {loc : Loc} {hp : Hp} {h : Heap} {tk : Nat} {m : Str → Option Value} {news : Led} {al : List Addr} {o : Obj} (hT : Tu v X X') (hin : i ≤ n) (R : RepS X' loc hp h m news al) (hJ : J i loc hp) (hx : Ext n0 a0 news al) (hIt : It i h) (hIo : (I, o) ∈ news)
    (hoc : o.cls ≠ .type "tuple") (hod : ∀ v, o.data ≠ .cell v) (hIal : I ∉ al) : LoopSt v X J It I n0 a0 n s₀ (n - i) { s₀ with heap := h, toks := tk }
theorem loop_core {v : Bool} {s₀ : Shared} {target : Expr} {body : List Stmt} {I : Addr} {n : Nat} {val : Nat → AV} {J : Nat → Loc → Hp → Prop} {B : Loc → Hp → Prop} (It : Nat → Heap → Prop) {news0 : Led} {al0 : List Addr} {m₀ : Str → Option Value} {Q : Flow → Shared → Prop}
    (R0 : RepS X loc hp s₀.heap m₀ news0 al0) (hI : s₀.heap.objs.size = I)
    (hper : ∀ k h h', It k h → (∀ o, h.get? I = some o → h'.get? I = some o) → It k h')
    (hobj : ∀ k h, It k h → ∃ o, h.get? I = some o ∧ o.cls ≠ .type "tuple" ∧ ∀ v, o.data ≠ .cell v)
    (hitem : ∀ X' k loc hp s m news al (Q : Option Value → Shared → Prop) E, Tu v X X' → k < n → J k loc hp → RepS X' loc hp s.heap m news al → It k s.heap → Ext0 news0 al0 news al →
      (∀ u h' tk, VRep news al u (val k) → It (k + 1) h' → Heap.SameBut I s.heap h' → Q (some u) { s with heap := h', toks := tk }) → wpAny X.M X.A (pyNext (.ref I)) Q E s)
    (hend : ∀ X' loc hp s m news al (Q : Option Value → Shared → Prop) E, Tu v X X' → J n loc hp → RepS X' loc hp s.heap m news al → It n s.heap → Ext0 news0 al0 news al →
      (∀ h', Heap.ExtBut I s.heap h' → Q none { s with heap := h' }) → wpAny X.M X.A (pyNext (.ref I)) Q E s)
    (hgo : ∀ k s u (Q : Unit → Shared → Prop) E, It k s.heap → Q () s → wpAny X.M X.A (letOwnedTupleGo target (.ref I) u) Q E s)
    (h0 : JW J 0 loc hp)
    (turn : ∀ X' k loc hp, Tu v X X' → k < n → J k loc hp → ∃ loc1 hp2, AsgJ X' loc hp target (val k) loc1 hp2 ∧ ExecG v X' loc1 hp2 body (TurnP J (k + 1) B P))
    (done : ∀ loc hp, J n loc hp → B loc hp) (o₀ : Obj) (hfree : o₀.isFreed = false) (hst : It 0 (s₀.heap.push o₀))
    (k : ∀ X' fl af loc' hp' h' tk m' news' al', Tu v X X' → LoopP B P af loc' hp' → FRep news' al' fl af → Ext news0 al0 news' al' → RepS X' loc' hp' h' m' news' al' → Q fl { s₀ with heap := h', toks := tk }) :
    codeAny X.M X.A (.forLoop target (.ref I) body [] X.env) (NoErr Q) { s₀ with heap := s₀.heap.push o₀ } := by
  have hI0 : X.h₀.get? I = none := by rw [← hI]; exact next_is_new R0.C.F
  have hIL : I ≠ X.L := by rw [← hI]; exact fun e => absurd R0.C.F.ns.lt (e ▸ Nat.lt_irrefl _)
  have hIn : ∀ p ∈ news0, p.1 ≠ I := fun p hp e => by
    have := Heap.lt_size (R0.C.N p hp).1
    rw [← hI] at e
    exact absurd this (e ▸ Nat.lt_irrefl _)
  have hIa : I ∉ al0 := fun h => by
    obtain ⟨j, hj⟩ := List.mem_iff_getElem?.mp h
    obtain ⟨ob, hob⟩ := R0.C.H.has hj
    exact hIn _ hob rfl
  refine codeAny_forLoop_any (LoopSt v X J It I news0 al0 n s₀) ?_ (n - 0) ?_
  · rintro _ _ ⟨hT, hin, R', hJ, hx, hIt, hIo, hoc, hod, hIal⟩
    rename_i X' i loc' hp' h' tk m' news' al' o
    have hI0' := hT.none hI0
    obtain ⟨gg, tt, ee, BB, KK, TT, DD⟩ := id hT
    have hIL' : I ≠ X.L := hIL
    rcases Nat.lt_or_ge i n with hlt | hge
    · refine hitem _ i loc' hp' _ _ _ _ _ _ hT hlt hJ R' hIt hx.toExt0 fun u h1 tk1 hu hIt1 hsb => ?_
      obtain ⟨o1, ho1, hc1, hd1⟩ := hobj _ _ hIt1
      have cellN : ∀ c ob u, (c, ob) ∈ news' → ob.data = .cell u → c ≠ I := fun c ob u hm hdt e => by
        have h1 := (R'.C.N _ hm).1
        have h2 := (R'.C.N _ hIo).1
        rw [show c = I from e] at h1
        rw [h1] at h2
        cases h2
        exact hod _ hdt
      obtain ⟨H1, x1⟩ := R'.C.H.off (o' := o1) R'.C.N hIo hoc hIal
      have N1 : News gg X.L h1 ((I, o1) :: offA I news') := by
        intro p hp
        rcases List.mem_cons.mp hp with e | hp
        · rw [e]; exact ⟨ho1, hIL', hI0'⟩
        · have hq := R'.C.N p (List.mem_filter.mp hp).1
          exact ⟨(hsb.2 p.1 (offA_ne p hp)).trans hq.1, hq.2⟩
      have R1 : RepS (X.turn gg BB KK TT DD) loc' hp' h1 m' ((I, o1) :: offA I news') al' := ⟨⟨R'.C.F.change hsb hIL' hI0', N1, H1⟩, R'.V.mv x1 fun c ob u hm hdt => .tail _ (offA_mem hm (cellN c ob u hm hdt))⟩
      have hx1 : Ext news0 al0 ((I, o1) :: offA I news') al' := ⟨⟨hx.al, fun a vs n m => x1.tup _ _ _ (hx.tup _ _ _ m)⟩, fun p hp hn => .tail _ (offA_mem (hx.keep p hp hn) (hIn p hp)), hx.fresh⟩
      refine hgo (i + 1) _ u _ _ hIt1 ?_
      obtain ⟨loc1, hp2, ha, hb⟩ := turn _ i loc' hp' hT hlt hJ
      refine ha _ _ _ _ _ _ _ R1 (hu.mono0 x1) fun h2 tk2 m2 n2 a2 x2 R2 => ?_
      refine hb _ _ _ _ _ _ R2 fun X3 fl af l3 hp3 h3 tk3 m3 n3 a3 hT3 hP hF x3 R3 => ?_
      have hT4 := hT.trans hT3
      have fin : JW J (i + 1) l3 hp3 → ∃ m, m < n - i ∧ LoopSt v X J It I news0 al0 n s₀ m { s₀ with heap := h3, toks := tk3 } := by
        rintro ⟨l0, hsub, hJ3⟩
        have x4 := x2.trans x3
        have hI3 : (I, o1) ∈ n3 := x4.keep _ (.head _) hIal
        have hIa3 : I ∉ a3 := fun q => x4.fresh I q hIal _ (.head _) rfl
        refine ⟨n - (i + 1), Nat.sub_succ_lt_self _ _ hlt, .mk hT4 hlt ⟨R3.C, R3.V.weak hsub⟩ hJ3 (hx1.trans x4) (hper _ _ _ hIt1 fun o e => ?_) hI3 hc1 hd1 hIa3⟩
        rw [ho1] at e
        cases e
        exact (R3.C.N _ hI3).1
      have x4 := hx1.trans (x2.trans x3)
      cases hF with
      | next => exact fin hP
      | cont => exact fin hP
      | brk => exact k X3 .next .next _ _ _ _ _ _ _ hT4 hP .next x4 R3
      | ret r => exact k X3 (.ret _) (.ret _) _ _ _ _ _ _ _ hT4 hP (.ret r) x4 R3
    · have e : i = n := Nat.le_antisymm hin hge
      subst e
      refine hend _ loc' hp' _ _ _ _ _ _ hT hJ R' hIt hx.toExt0 fun h1 he => wpAny_execs_nil ?_
      obtain ⟨H1, x1⟩ := R'.C.H.off (o' := o) R'.C.N hIo hoc hIal
      have cellN : ∀ c ob u, (c, ob) ∈ news' → ob.data = .cell u → c ≠ I := fun c ob u hm hdt e => by
        have h1 := (R'.C.N _ hm).1
        have h2 := (R'.C.N _ hIo).1
        rw [show c = I from e] at h1
        rw [h1] at h2
        cases h2
        exact hod _ hdt
      have hsub : ∀ p ∈ offA I news', p ∈ (I, o) :: offA I news' := fun p hp => .tail _ hp
      have tupN : ∀ a vs n, (a, tupObj vs n) ∈ news' → (a, tupObj vs n) ∈ offA I news' := fun a vs n m => by
        rcases List.mem_cons.mp (x1.tup _ _ _ m) with e | h
        · cases e; exact absurd rfl hoc
        · exact h
      obtain ⟨H2, hx0⟩ := R'.C.H.drop hIal fun a vs n m => offA_ne _ (tupN a vs n m)
      have N2 : News gg X.L h1 (offA I news') := fun p hp => by
        have hq := R'.C.N p (List.mem_filter.mp hp).1
        exact ⟨he _ _ (offA_ne p hp) hq.1, hq.2⟩
      have F2 : Fr gg X.L h1 m' := ⟨R'.C.F.ns.at' fun o e => he _ o (fun q => hIL' q.symm) e, fun b o e => he b o (fun q => by rw [q, hI0'] at e; cases e) (R'.C.F.keep b o e), R'.C.F.above⟩
      exact k _ .next .next _ _ _ _ _ _ _ hT (done _ _ hJ) .next ⟨⟨hx.al, fun a vs n m => tupN _ _ _ (hx.tup _ _ _ m)⟩, fun p hp hn => offA_mem (hx.keep p hp hn) (hIn p hp), hx.fresh⟩ ⟨⟨F2, N2, H2⟩, R'.V.mv hx0 fun c ob u hm hdt => offA_mem hm (cellN c ob u hm hdt)⟩
  · obtain ⟨l0, hsub, hJ⟩ := h0
    obtain ⟨o, ho, hc, hdd⟩ := hobj _ _ hst
    have e : o = o₀ := by
      rw [← hI, Heap.get?_push_size _ hfree] at ho
      cases ho; rfl
    have x1 : Ext news0 al0 ((I, o₀) :: news0) al0 := Ext.sub fun p hp => .tail _ hp
    refine .mk (o := o₀) Tu.refl (Nat.zero_le _) ⟨⟨R0.C.F.push o₀, ?_, R0.C.H.sub fun p hp => .tail _ hp⟩, (R0.V.mono x1).weak hsub⟩ hJ x1 hst (.head _) (e ▸ hc) (e ▸ hdd) hIa
    rw [← hI]
    exact News.push R0.C.F R0.C.N o₀ hfree
end
end Mine
end

section
set_option maxHeartbeats 1000000
open PySem PySem.W PyProof.Rows PySem.Calls
namespace Mine

section
variable {X : FX} {loc loc' : Loc} {hp hp1 hp2 hp3 g : Hp} {P P1 : Post} {J : Nat → Loc → Hp → Prop} {B : Loc → Hp → Prop}

theorem Core.listAt {h : Heap} {m : Str → Option Value} {news : Led} {al : List Addr} {a : Addr} {i : Nat} {l : List AV} (Z : Core X hp h m news al) (ha : al[i]? = some a) (hi : hp[i]? = some (.list l)) : ∃ vs n, (a, listOf vs.toArray n) ∈ news ∧ VAll news al vs l := by
  obtain ⟨a', ha', ho⟩ := Z.H.addr hi
  cases Option.some.inj (ha.symm.trans ha')
  cases ho with
  | list hm hv => exact ⟨_, _, hm, hv⟩
theorem JW.here {k : Nat} (h : J k loc hp) : JW J k loc hp := ⟨loc, LSub.refl, h⟩

/-- a loop over a list that stays as it is -/
theorem m_for_list {t iter : Expr} {body : List Stmt} {p : Pos} {i : Nat} {l : List AV} (J : Nat → Loc → Hp → Prop) (hiter : EvJ X loc hp iter (.ref i) hp1) (hi : hp1[i]? = some (.list l))
    (hl : ∀ k loc hp, J k loc hp → hp[i]? = some (.list l)) (h0 : JW J 0 loc hp1)
    (turn : ∀ k v loc hp, l[k]? = some v → J k loc hp → ∃ loc1 hp2, AsgJ X loc hp t v loc1 hp2 ∧ ExecJ X loc1 hp2 body (TurnP J (k + 1) B P))
    (done : ∀ loc hp, J l.length loc hp → B loc hp) (hf : ∀ x, foldedSetIterable iter X.env x = pure x := by intro _; rfl) : StmJ X loc hp (.For t iter body [] p) (LoopP B P) := by
  intro s m news al Q E R k
  refine for_mine (hiter _ _ _ _ _ _ R fun u h' tk n1 a1 x1 r1 R1 => R1.C.listC r1 hi fun a vs n ha hm hv => ?_) hf
  refine wpAny_pyIter_list (PySem.IsL.isList (R1.C.N _ hm).1) ?_
  refine loop_core (v := false) (s₀ := { s with heap := h', toks := tk }) (I := h'.objs.size) (n := l.length) (val := fun j => (l[j]?).getD .none) (J := J) (B := B) (P := P) (fun j h => h.IsListIter h'.objs.size a j) R1 rfl ?_ ?_ ?_ ?_ ?_ h0 ?_ done _ rfl ?_ fun X2 fl af l2 p2 h2 tk2 m2 n2 a2 hT hP hF x2 R2 => (by cases hT.eq; exact k _ _ _ _ _ _ _ _ _ hP hF (x1.trans x2) R2)
  · rintro j g g' ⟨o, e1, e2⟩ hh
    exact ⟨o, hh o e1, e2⟩
  · rintro j g ⟨o, e1, e2⟩
    exact ⟨o, e1, by rw [e2.1]; simp, fun v q => by rw [e2.2] at q; cases q⟩
  · intro X2 j loc2 hp2 s2 m2 n2 a2 Q2 E2 hT hlt hJ R2 hit hx hk
    cases hT.eq
    obtain ⟨vs', n', hm', hv'⟩ := R2.C.listAt (hx.get ha) (hl _ _ _ hJ)
    exact hv'.getK (List.getElem?_eq_getElem hlt) fun u hu ru => wpAny_pyNext_list_item hit (PySem.IsL.isList (R2.C.N _ hm').1) (x := u) (by rw [List.getElem?_toArray]; exact hu) fun h3 hit3 hsb => hk u h3 s2.toks (by rw [List.getElem?_eq_getElem hlt]; exact ru) hit3 hsb
  · intro X2 loc2 hp2 s2 m2 n2 a2 Q2 E2 hT hJ R2 hit hx hk
    cases hT.eq
    obtain ⟨vs', n', hm', hv'⟩ := R2.C.listAt (hx.get ha) (hl _ _ _ hJ)
    exact wpAny_pyNext_list_end rfl hit (PySem.IsL.isList (R2.C.N _ hm').1) (by rw [List.getElem?_toArray]; exact List.getElem?_eq_none (Nat.le_of_eq hv'.length)) hk
  · intro j s2 u Q2 E2 hit hq
    exact letGo_listiter hit hq
  · intro X2 j loc2 hp2 hT hlt hJ
    cases hT.eq
    obtain ⟨l1, h1, a1, b1⟩ := turn j ((l[j]?).getD .none) loc2 hp2 (by simp [hlt]) hJ
    exact ⟨l1, h1, a1, b1.g⟩
  · exact ⟨_, Heap.get?_push_size _ rfl, rfl, rfl⟩

/-- a range -/
noncomputable def RngJ (X : FX) (loc : Loc) (hp : Hp) (e : Expr) (a b : Int) (hp' : Hp) : Prop :=
  ∀ s m news al (Q E : Value → Shared → Prop), RepS X loc hp s.heap m news al →
    (∀ r h' tk t₁ u₁ v₁ news' al', Ext news al news' al' → IsRange h' r a b 1 t₁ u₁ v₁ → RepS X loc hp' h' m news' al' → Q (.ref r) { s with heap := h', toks := tk }) → wpAny X.M X.A (eval e X.env) Q E s
theorem r_one {np p : Pos} {e : Expr} {b : Int} (h1 : EvsJ X loc hp [e] [.int b] hp1) (hb : bootBuiltins "range" = some (.type "range")) (en : nsIn (hd.heap_39 X.w.params) mainGlobals "range" = some none)
    (hx : X.env.kindOf "range" = some .globalImplicit := by rfl)
    (hs : ∀ env, starEach [e] env = (false, eval e env) :: starEach [] env := by intro _; rfl)
    (hc : ∀ env, eval (.Call (.Name "range" np) [e] [] p) env = (do callWith p (← eval (.Name "range" np) env) [] (backTo p (starEach [e] env)) (backToKw p (keywordEach [] env))) := by intro _; rfl) : RngJ X loc hp (.Call (.Name "range" np) [e] [] p) 0 b hp1 := by
  intro s m news al Q E R k
  refine Call_ (nm_built R en hb hx (by decide) (by decide) ?_) (hc _)
  exact PyProof.Rows.callWith_type1 (h1 _ _ _ _ _ _ _ R fun us g1 t1 n1 a1 x1 r1 R1 => r1.oneC fun u ru => ru.intC fun t => range1_rows R1.C.F R1.C.N fun h' tk t₁ u₁ v₁ hr F' N' _ => k _ _ _ _ _ _ _ _ x1 hr ⟨⟨F', N', R1.C.H⟩, R1.V⟩) (hs _) rfl
theorem r_two {np p : Pos} {e e2 : Expr} {a b : Int} (h1 : EvsJ X loc hp [e, e2] [.int a, .int b] hp1) (hb : bootBuiltins "range" = some (.type "range")) (en : nsIn (hd.heap_39 X.w.params) mainGlobals "range" = some none)
    (hx : X.env.kindOf "range" = some .globalImplicit := by rfl)
    (hs : ∀ env, starEach [e, e2] env = (false, eval e env) :: starEach [e2] env := by intro _; rfl) (hpl : ∀ env, (backTo p (starEach [e2] env)).any (·.1) = false := by intro _; rfl)
    (hc : ∀ env, eval (.Call (.Name "range" np) [e, e2] [] p) env = (do callWith p (← eval (.Name "range" np) env) [] (backTo p (starEach [e, e2] env)) (backToKw p (keywordEach [] env))) := by intro _; rfl) : RngJ X loc hp (.Call (.Name "range" np) [e, e2] [] p) a b hp1 := by
  intro s m news al Q E R k
  refine Call_ (nm_built R en hb hx (by decide) (by decide) ?_) (hc _)
  exact PyProof.Rows.callWith_type1 (h1 _ _ _ _ _ _ _ R fun us g1 t1 n1 a1 x1 r1 R1 => r1.twoC fun u v ru rv => ru.intC fun t => rv.intC fun w => range2_rows R1.C.F R1.C.N fun h' tk t₁ u₁ v₁ hr F' N' _ => k _ _ _ _ _ _ _ _ x1 hr ⟨⟨F', N', R1.C.H⟩, R1.V⟩) (hs _) (hpl _)
theorem small_of {a b : Int} (h1 : -1000000 ≤ a) (h2 : a ≤ 1000000) (h3 : -1000000 ≤ b) (h4 : b ≤ 1000000) : Builtin.Range.small a b 1 = true := by
  have hr : Builtin.Range.rangeSize a b 1 = if a < b then b - a else 0 := rangeSize_one a b
  have hz : -2000000 ≤ Builtin.Range.rangeSize a b 1 ∧ Builtin.Range.rangeSize a b 1 ≤ 2000000 := by rw [hr]; split <;> omega
  unfold Builtin.Range.small Builtin.Range.rangeFitsLong
  simp
  omega
theorem m_for_rangeG {v : Bool} {x : Str} {px : Pos} {iter : Expr} {body : List Stmt} {p : Pos} {a b : Int} {n : Nat} (J : Nat → Loc → Hp → Prop) (hiter : RngJ X loc hp iter a b hp1) (hn : (if a < b then b - a else 0) = (n : Int)) (h1 : -1000000 ≤ a) (h2 : a ≤ 1000000) (h3 : -1000000 ≤ b) (h4 : b ≤ 1000000)
    (h0 : JW J 0 loc hp1)
    (turn : ∀ X' (k : Nat) loc hp, Tu v X X' → k < n → J k loc hp → ExecG v X' ((x, .int (a + (k : Int))) :: loc) hp body (TurnP J (k + 1) B P))
    (done : ∀ loc hp, J n loc hp → B loc hp) (hx : X.env.kindOf x = some .local := by rfl) (hf : ∀ x, foldedSetIterable iter X.env x = pure x := by intro _; rfl) : StmG v X loc hp (.For (.Name x px) iter body [] p) (LoopP B P) := by
  intro s m news al Q E R k
  refine for_mine (hiter _ _ _ _ _ _ R fun r h' tk t₁ u₁ v₁ n1 a1 x1 hr R1 => ?_) hf
  have hz : Builtin.Range.rangeSize a b 1 = (n : Int) := (rangeSize_one a b).trans hn
  refine wpAny_pyIter_range hr (small_of h1 h2 h3 h4) ?_
  refine loop_core (v := v) (s₀ := { s with heap := h', toks := tk }) (I := h'.objs.size) (n := n) (val := fun j => .int (a + (j : Int))) (J := J) (B := B) (P := P) (fun j h => IsRangeIter h h'.objs.size (a + (j : Int)) ((n : Int) - (j : Int)) 1) R1 rfl ?_ ?_ ?_ ?_ ?_ h0 ?_ done _ rfl ?_ fun X2 fl af l2 p2 h2 tk2 m2 n2 a2 hT hP hF x2 R2 => k _ _ _ _ _ _ _ _ _ _ hT hP hF (x1.trans x2) R2
  · intro j g g' e hh
    exact hh _ e
  · intro j g e
    exact ⟨_, e, by simp, fun v q => by cases q⟩
  · intro X2 j loc2 hp2 s2 m2 n2 a2 Q2 E2 hT hlt hJ R2 hit hx hk
    refine wpAny_pyNext_range_item hit (by omega) fun h3 hit3 hsb => hk _ h3 _ (.int _ _) ?_ hsb
    have e1 : a + ((j + 1 : Nat) : Int) = a + (j : Int) + 1 := by push_cast; omega
    have e2 : (n : Int) - ((j + 1 : Nat) : Int) = (n : Int) - (j : Int) - 1 := by push_cast; omega
    rw [e1, e2]; exact hit3
  · intro X2 loc2 hp2 s2 m2 n2 a2 Q2 E2 hT hJ R2 hit hx hk
    exact wpAny_pyNext_range_end rfl hit (by omega) hk
  · intro j s2 u Q2 E2 hit hq
    exact wpAny_pure hq
  · intro X2 j loc2 hp2 hT hlt hJ
    exact ⟨_, _, a_name (by obtain ⟨g, t, e, B, K, T, D⟩ := hT; exact hx), turn X2 j loc2 hp2 hT hlt hJ⟩
  · show IsRangeIter _ _ _ _ _
    rw [hz]
    simpa using Heap.get?_push_size _ rfl
theorem m_for_range {x : Str} {px : Pos} {iter : Expr} {body : List Stmt} {p : Pos} {a b : Int} {n : Nat} (J : Nat → Loc → Hp → Prop) (hiter : RngJ X loc hp iter a b hp1) (hn : (if a < b then b - a else 0) = (n : Int)) (h1 : -1000000 ≤ a) (h2 : a ≤ 1000000) (h3 : -1000000 ≤ b) (h4 : b ≤ 1000000)
    (h0 : JW J 0 loc hp1)
    (turn : ∀ (k : Nat) loc hp, k < n → J k loc hp → ExecJ X ((x, .int (a + (k : Int))) :: loc) hp body (TurnP J (k + 1) B P))
    (done : ∀ loc hp, J n loc hp → B loc hp) (hx : X.env.kindOf x = some .local) (hf : ∀ x, foldedSetIterable iter X.env x = pure x) : StmJ X loc hp (.For (.Name x px) iter body [] p) (LoopP B P) :=
  (m_for_rangeG (v := false) J hiter hn h1 h2 h3 h4 h0 (fun X' k l h t hk hJ => by cases t.eq; exact (turn k l h hk hJ).g) done hx hf).j
theorem x_loop {st : Stmt} {ss : List Stmt} (h : StmJ X loc hp st (LoopP (fun l h => ExecJ X l h ss P) P)) : ExecJ X loc hp (st :: ss) P :=
  x_cons h (fun _ _ h => h) fun af l h n q => by
    cases af with
    | next => exact absurd rfl n
    | brk => exact q.elim
    | cont => exact q.elim
    | ret v => exact q

@[reducible] noncomputable def FX.sub (X : FX) (hr : 0 < X.room) (cn : Str) (cs : Scope) (a : Addr) (ccd : Value) (cl : List (Str × Addr)) (cv : Loc) (g : Heap) (L : Addr) (B : Below X.A X.base (X.env :: X.outer) g) (K : (hd.heap_39 X.w.params).In g) (T : Top X.p X.loose X.mean X.mg X.mb g) (D : KtsDicts ((X.env :: X.outer).filterMap (·.frame)) g) (hk : cs.kind = .function) : FX :=
  { prog := X.prog, w := X.w, p := X.p, loose := X.loose, mean := X.mean, mg := X.mg, mb := X.mb, dp := X.dp + 1, un := X.un + 3, gd := X.gd, cn := cn, cs := cs, a := a, ccd := ccd, cl := cl, cv := cv, outer := X.env :: X.outer, A₀ := X.A, base := X.base, h₀ := g, L := L, room := X.room - 1,
    B := B, X := K, T := T, XB := X.XB, TB := X.TB, D := D, hk := hk, hdp := by have := X.hdp; omega, hun := by have := X.hun; omega }
@[reducible] noncomputable def FX.under (X : FX) (hr : 0 < X.room) (gd : Option (List Code)) : FX :=
  { prog := X.prog, w := X.w, p := X.p, loose := X.loose, mean := X.mean, mg := X.mg, mb := X.mb, dp := X.dp + 1, un := X.un + 1, gd := gd, cn := X.cn, cs := X.cs, a := X.a, ccd := X.ccd, cl := X.cl, cv := X.cv, outer := X.outer, A₀ := X.A₀, base := X.base, h₀ := X.h₀, L := X.L, room := X.room - 1,
    B := X.B, X := X.X, T := X.T, XB := X.XB, TB := X.TB, D := X.D, hk := X.hk, hdp := by have := X.hdp; omega, hun := by have := X.hun; omega }
theorem FX.dp1 (X : FX) : X.dp < recursionLimit := Nat.lt_of_le_of_lt (Nat.le_add_right _ _) X.hdp
/-! a def of the text, entered -/
/-- what a body leaves, as a call sees it -/
noncomputable def RetQ (W : AV → Hp → Prop) : Post
  | .ret u, _, h => W u h
  | .next, _, h => W .none h
  | _, _, _ => False
/-- a call of f, of which a property is told -/
noncomputable def CallQ (X : FX) (hp : Hp) (f : Value) (vs : List AV) (W : AV → Hp → Prop) : Prop :=
  ∀ s m news al us (Q E : Value → Shared → Prop), Core X hp s.heap m news al → VAll news al us vs →
    (∀ u v hp' h' tk news' al', W v hp' → Ext news al news' al' → VRep news' al' u v → Core X hp' h' m news' al' → Q u { s with heap := h', toks := tk }) → wpAny X.M X.A (call f us) Q E s
theorem CallQ.one {f : Value} {vs : List AV} {v : AV} {hp' : Hp} {W : AV → Hp → Prop} (h : CallQ X hp f vs W) (e : ∀ u h, W u h → u = v ∧ h = hp') : CallJ X hp f vs v hp' := by
  intro s m news al us Q E C r k
  refine h _ _ _ _ _ _ _ C r fun u v hp' h' tk n1 a1 hW x1 r1 C1 => ?_
  obtain ⟨e1, e2⟩ := e _ _ hW
  subst e1; subst e2
  exact k _ _ _ _ _ x1 r1 C1
/-- the same of the code alone -/
noncomputable def CodeQ (X : FX) (hp : Hp) (f : Value) (vs : List AV) (W : AV → Hp → Prop) : Prop :=
  ∀ s m news al us (R : Result → Shared → Prop), Core X hp s.heap m news al → VAll news al us vs →
    (∀ u v hp' h' tk news' al', W v hp' → Ext news al news' al' → VRep news' al' u v → Core X hp' h' m news' al' → R (.ok (.ret u)) { s with heap := h', toks := tk }) → codeAny X.M X.A (.call f ⟨us, []⟩) R s
theorem CodeQ.call {f : Value} {vs : List AV} {W : AV → Hp → Prop} (h : CodeQ X hp f vs W) : CallQ X hp f vs W := fun s m news al us Q E C r k =>
  wpAny_call (h _ _ _ _ _ _ C r k)
theorem codeq_of {f : Addr} {xs : List Str} {vs : List AV} {W : AV → Hp → Prop} (loc0 : Loc) {body : List Stmt} {name qual : Str} {params : Arguments} {scope : Scope} {dV kV doc pm cdv ct oc : Value} {an od : Option Addr} {osl : Array (Option Value)}
    (ho : (hd.heap_39 X.w.params).lookup f = some ⟨oc, od, .func (fnOf name qual params body scope dV kV doc pm an cdv ct), osl⟩) (hcd : codeIn (hd.heap_39 X.w.params) cdv qual = true) (hroom : 0 < X.room)
    (hbind : ∀ us : List Value, us.length = vs.length → bindArgs (fnOf name qual params body scope dV kV doc pm an cdv ct) ⟨us, []⟩ = pure (xs.zip us))
    (hloc : ∀ y ∈ xs, scope.names.lookup y = some .local) (hl0 : (xs.zip vs).reverse = loc0)
    (h : ∀ Y : FX, Y.w = X.w → KS Y scope → Y.room + 1 = X.room → ExecJ Y loc0 hp body (RetQ W))
    (hco : scope.isCoroutine = false := by rfl) (hgen : scope.isGenerator = false := by rfl) (hk : scope.kind = .function := by rfl) (hcell : ∀ x ∈ scope.names, x.2 ≠ .cell := by decide) : CodeQ X hp (.ref f) vs W := by
  intro s m news al us R C r k
  refine code_def X.B C.F X.X C.N X.T rfl rfl X.hk ho hcd X.dp1 (BindsTo.of_eq (hbind us r.length)) (fun y hy => hloc _ (zip_keys y hy)) (fun gg L' h₁ FG F' N' B' X' T' => ?_) hco hgen hk hcell
  have hY := h (X.sub hroom qual scope f cdv [] [] gg L' B' X' T' (X.dicts FG) hk) rfl rfl (Nat.sub_add_cancel hroom)
  subst hl0
  refine hY { s with heap := h₁, toks := s.toks + (xs.zip us).length } _ news al _ _ ⟨⟨F', N', C.H⟩, (r.zip xs).reverse.lrep, fun _ _ h => by cases h⟩ fun fl af loc' hp2 h2 tk2 m2 n2 a2 hP hF x2 R2 => ?_
  refine ⟨L', m2, n2, R2.C.F, R2.C.N, fun F3 N3 => ?_⟩
  cases hF with
  | next => exact k _ _ _ _ _ _ _ hP x2 .none ⟨F3, N3, R2.C.H⟩
  | brk => exact hP.elim
  | cont => exact hP.elim
  | ret ru => exact k _ _ _ _ _ _ _ hP x2 ru ⟨F3, N3, R2.C.H⟩
theorem callq_of {f : Addr} {xs : List Str} {vs : List AV} {W : AV → Hp → Prop} (loc0 : Loc) {body : List Stmt} {name qual : Str} {params : Arguments} {scope : Scope} {dV kV doc pm cdv ct oc : Value} {an od : Option Addr} {osl : Array (Option Value)}
    (ho : (hd.heap_39 X.w.params).lookup f = some ⟨oc, od, .func (fnOf name qual params body scope dV kV doc pm an cdv ct), osl⟩) (hcd : codeIn (hd.heap_39 X.w.params) cdv qual = true) (hroom : 0 < X.room)
    (hbind : ∀ us : List Value, us.length = vs.length → bindArgs (fnOf name qual params body scope dV kV doc pm an cdv ct) ⟨us, []⟩ = pure (xs.zip us))
    (hloc : ∀ y ∈ xs, scope.names.lookup y = some .local) (hl0 : (xs.zip vs).reverse = loc0)
    (h : ∀ Y : FX, Y.w = X.w → KS Y scope → Y.room + 1 = X.room → ExecJ Y loc0 hp body (RetQ W))
    (hco : scope.isCoroutine = false := by rfl) (hgen : scope.isGenerator = false := by rfl) (hk : scope.kind = .function := by rfl) (hcell : ∀ x ∈ scope.names, x.2 ≠ .cell := by decide) : CallQ X hp (.ref f) vs W :=
  (codeq_of loc0 ho hcd hroom hbind hloc hl0 h hco hgen hk hcell).call
end
end Mine
end

section
set_option maxHeartbeats 1000000
open PySem PySem.W PyProof.Rows PySem.Calls
namespace Mine

section
variable {X : FX} {loc loc' : Loc} {hp hp1 hp2 hp3 g : Hp} {P P1 : Post}

theorem e_addl {l r : Expr} {p : Pos} {i j : Nat} {a b : List AV} (h1 : EvJ X loc hp l (.ref i) hp1) (h2 : EvJ X loc hp1 r (.ref j) hp2) (hi : hp2[i]? = some (.list a)) (hj : hp2[j]? = some (.list b)) (hz : a.length + b.length ≤ 1000000) :
    EvJ X loc hp (.BinOp l .Add r p) (.ref hp2.length) (hp2 ++ [.list (a ++ b)]) := fun s m news al Q E R k =>
  wpAny_BinOp (h1 _ _ _ _ _ _ R fun u1 g1 t1 n1 a1 x1 r1 R1 => h2 _ _ _ _ _ _ R1 fun u2 g2 t2 n2 a2 x2 r2 R2 => R2.C.listC (r1.mono x2) hi fun ad vs n ha hm hv => R2.C.listC r2 hj fun bd ws n' hb hm' hw =>
    add_news R2.C.F R2.C.N hm hm' (by rw [hv.length, hw.length]; exact Nat.le_trans hz (Nat.le_of_ble_eq_true rfl)) fun D h' F' N' hl => R2.C.newListK (hv.append' hw) F' N' hl fun C' v' => k _ _ _ _ _ ((x1.trans x2).trans (Ext.push hl)) v' ⟨C', R2.V.mono (Ext.push hl)⟩)
theorem e_addb {l r : Expr} {p : Pos} {a b : List UInt8} (h1 : EvJ X loc hp l (.bytes a) hp1) (h2 : EvJ X loc hp1 r (.bytes b) hp2) (hz : a.length + b.length ≤ 1000000) : EvJ X loc hp (.BinOp l .Add r p) (.bytes (a ++ b)) hp2 := by
  have e : a.toArray ++ b.toArray = (a ++ b).toArray := by simp
  have hz2 : a.toArray.size + b.toArray.size ≤ sizeLine := by rw [List.size_toArray, List.size_toArray]; exact Nat.le_trans hz (Nat.le_of_ble_eq_true rfl)
  exact fun s m news al Q E R k => wpAny_BinOp (h1 _ _ _ _ _ _ R fun u1 g1 t1 n1 a1 x1 r1 R1 => h2 _ _ _ _ _ _ R1 fun u2 g2 t2 n2 a2 x2 r2 R2 => r1.bytesC fun ta => r2.bytesC fun tb =>
    KBy.add_bytes hz2 fun t' kk => e ▸ k _ _ _ _ _ (x1.trans x2) (.bytes _ _) R2)

/-! choosing what to keep -/
theorem Core.thin {h h1 : Heap} {m : Str → Option Value} {news n1 : Led} {al a1 : List Addr} {n : Nat} (C : Core X hp h m news al) (x : Ext news al n1 a1) (C1 : Core X hp1 h1 m n1 a1) (hn : n = hp.length) (hs : ∀ o ∈ hp1.take n, o.Small n) :
    Core X (hp1.take n) h1 m n1 al ∧ Ext news al n1 al ∧ a1.take n = al := by
  have e : a1.take n = al := by
    obtain ⟨t, e⟩ := x.al
    rw [e, hn, ← C.H.len]; simp
  refine ⟨⟨C1.F, C1.N, ?_, C.H.nd, fun k a o e1 e2 => ?_⟩, ⟨⟨⟨[], by simp⟩, x.tup⟩, x.keep, fun _ h k => absurd h k⟩, e⟩
  · have h2 := C1.H.len
    have h3 : al.length ≤ a1.length := by obtain ⟨t, e⟩ := x.al; rw [e]; simp
    rw [List.length_take, ← h2, hn, ← C.H.len]; omega
  · have hk : k < n := by
      have := (List.getElem?_eq_some_iff.mp e1).1
      rw [C.H.len] at this; omega
    have hm : o ∈ hp1.take n := List.mem_of_getElem? e2
    rw [List.getElem?_take_of_lt hk] at e2
    rw [← e]
    exact (C1.H.ob k a o (x.get e1) e2).cut (hs o hm)
theorem Core.small {h : Heap} {m : Str → Option Value} {news : Led} {al : List Addr} (C : Core X hp h m news al) : ∀ o ∈ hp, o.Small hp.length := fun o ho => by
  obtain ⟨i, hi⟩ := List.mem_iff_getElem?.mp ho
  obtain ⟨a, ha, hr⟩ := C.H.addr hi
  rw [← C.H.len]; exact hr.small
/-- a new object comes back -/
noncomputable def RetN (hp' : Hp) (o : AO) (u : AV) (h : Hp) : Prop := ∃ j g, u = .ref (hp'.length + j) ∧ h = hp' ++ g ∧ g[j]? = some o
theorem call_new {f : Value} {vs : List AV} {o : AO} {hp' : Hp} (h : CallQ X hp f vs (RetN hp' o)) (hl : hp'.length = hp.length) (hso : (∀ o ∈ hp, o.Small hp.length) → o.Small hp.length) (hs : (∀ o ∈ hp, o.Small hp.length) → ∀ o ∈ hp', o.Small hp.length) : CallJ X hp f vs (.ref hp.length) (hp' ++ [o]) := by
  intro s m news al us Q E C r k
  refine h _ _ _ _ _ _ _ C r fun u v' hp1 h' tk n1 a1 hW x1 r1 C1 => ?_
  obtain ⟨j, g, e1, e2, ho⟩ := hW
  subst e1; subst e2
  have e0 : (hp' ++ g).take hp.length = hp' := by rw [← hl]; simp
  obtain ⟨C2, x2, e⟩ := C.thin x1 C1 rfl (by rw [e0]; exact hs C.small)
  rw [e0] at C2
  cases r1 with
  | @ref a _ ha =>
    have hna : a ∉ al := fun q => by
      obtain ⟨i, hi⟩ := List.mem_iff_getElem?.mp q
      have h1 := nodup_get C1.H.nd (x1.get hi) ha
      have h2 := (List.getElem?_eq_some_iff.mp hi).1
      rw [C.H.len] at h2; omega
    have hold : ORep n1 al a o := by
      have := (C1.H.ob _ a o ha (by rw [List.getElem?_append_right (Nat.le_add_right _ _)]; simpa using ho)).cut (hso C.small)
      rw [e] at this; exact this
    have x0 : Ext0 n1 al n1 (al ++ [a]) := ⟨⟨[a], rfl⟩, fun _ _ _ h => h⟩
    have mon : ∀ {b : Addr} {q : AO}, ORep n1 al b q → ORep n1 (al ++ [a]) b q := fun q => by
      cases q with
      | list m v => exact .list m (v.mono0 x0)
      | inst m e => exact .inst m (x0.get e)
      | dict m e => exact .dict m (e.mono0 x0)
      | exc0 m => exact .exc0 m
      | exc1 m e => exact .exc1 m (x0.get e)
    refine k _ _ tk n1 (al ++ [a]) ⟨⟨⟨[a], rfl⟩, x2.tup⟩, x2.keep, fun b hb hn p hp q => ?_⟩ (.ref (by rw [← C.H.len]; simp)) ⟨C2.F, C2.N, by simp [hl, C.H.len], ?_, fun i b q e1 e2 => ?_⟩
    · rcases List.mem_append.mp hb with hb | hb
      · exact hn hb
      · have : b = a := List.mem_singleton.mp hb
        subst this
        exact x1.fresh b (List.mem_of_getElem? ha) hna p hp q
    · refine List.nodup_append.mpr ⟨C.H.nd, by simp, fun y hy z hz q => ?_⟩
      rw [List.mem_singleton.mp hz] at q
      exact hna (q ▸ hy)
    · rcases Nat.lt_or_ge i al.length with hi | hi
      · rw [List.getElem?_append_left hi] at e1
        rw [List.getElem?_append_left (by rw [hl, ← C.H.len]; exact hi)] at e2
        exact mon (C2.H.ob i b q e1 e2)
      · have ei : i = al.length := by
          have := (List.getElem?_eq_some_iff.mp e1).1
          simp at this; omega
        subst ei
        have h1 : b = a := by simpa using e1.symm
        have h2 : q = o := by rw [C.H.len, ← hl] at e2; simpa using e2.symm
        rw [h1, h2]; exact mon hold

/-! small things -/
theorem small_val {n : Nat} {l : List AV} : SmallL n l = true ↔ ∀ v ∈ l, Small n v = true := by
  induction l with
  | nil => simp [SmallL]
  | cons a r ih => simp [SmallL, ih]

/-! the heap, read -/
theorem hg_old {i : Nat} {o : AO} {g : Hp} (h : hp[i]? = some o) : (hp ++ g)[i]? = some o := by
  rw [List.getElem?_append_left (List.getElem?_eq_some_iff.mp h).1]; exact h
theorem hg_new {o : AO} {g : Hp} : (hp ++ o :: g)[hp.length]? = some o := by simp
theorem hg_len {i : Nat} {o : AO} (h : hp[i]? = some o) : i < hp.length := (List.getElem?_eq_some_iff.mp h).1
theorem set_new {o o' : AO} {g : Hp} : (hp ++ o :: g).set hp.length o' = hp ++ o' :: g := by simp
theorem e_ift {t b o : Expr} {p : Pos} {v : AV} (h : TestJ X loc hp t true hp1) (h1 : EvJ X loc hp1 b v hp2) : EvJ X loc hp (.IfExp t b o p) v hp2 := e_if h (fun _ => h1) (fun h => by cases h)
theorem e_iff {t b o : Expr} {p : Pos} {v : AV} (h : TestJ X loc hp t false hp1) (h1 : EvJ X loc hp1 o v hp2) : EvJ X loc hp (.IfExp t b o p) v hp2 := e_if h (fun h => by cases h) (fun _ => h1)
end
end Mine
end

section
/- plain laws: no program in sight -/
namespace Mine
noncomputable abbrev Sp := List (Int × Int)
noncomputable def mn (a b : Int) : Int := if b < a then b else a
noncomputable def mx (a b : Int) : Int := if b > a then b else a
/-- one turn of add_span -/
noncomputable def addStep (st : Sp × Bool × Int × Int) (p : Int × Int) : Sp × Bool × Int × Int :=
  if p.2 < st.2.2.1 then (st.1 ++ [p], st.2.1, st.2.2.1, st.2.2.2)
  else if st.2.2.2 < p.1 then (st.1 ++ (if st.2.1 then [] else [(st.2.2.1, st.2.2.2)]) ++ [p], true, st.2.2.1, st.2.2.2)
  else (st.1, st.2.1, mn st.2.2.1 p.1, mx st.2.2.2 p.2)
noncomputable def addEnd (st : Sp × Bool × Int × Int) : Sp := if st.2.1 then st.1 else st.1 ++ [(st.2.2.1, st.2.2.2)]
noncomputable def addSpan (sp : Sp) (low high : Int) : Sp := if low ≥ high then sp else addEnd (sp.foldl addStep ([], false, low, high))
noncomputable def cutStep (lo hi : Int) (fo : Sp) (p : Int × Int) : Sp :=
  fo ++ (if p.1 < mn p.2 lo then [(p.1, mn p.2 lo)] else []) ++ (if mx p.1 hi < p.2 then [(mx p.1 hi, p.2)] else [])
noncomputable def cutSpan (sp : Sp) (lo hi : Int) : Sp := if lo < hi then sp.foldl (cutStep lo hi) [] else sp
theorem cutStep_len (lo hi : Int) (fo : Sp) (p : Int × Int) : (cutStep lo hi fo p).length ≤ fo.length + 2 := by
  unfold cutStep
  rw [List.length_append, List.length_append]
  split <;> split <;> simp
noncomputable abbrev Pc := Int × List UInt8
theorem mx_nn {a : Int} : 0 ≤ mx 0 a := by unfold mx; split <;> omega
/-- the cut of a list, both ends not below zero -/
noncomputable def cutL {α : Type} (l : List α) (lo hi : Option Int) : List α := (match hi with | none => l | some h => l.take h.toNat).drop (match lo with | none => 0 | some k => k.toNat)
theorem cutL_len {α : Type} (l : List α) (lo hi : Option Int) : (cutL l lo hi).length ≤ l.length := by
  unfold cutL
  cases hi <;> simp <;> omega
noncomputable def firstV (sp : Sp) (most : Int) : Option (Int × Int) := match sp with
  | [] => none
  | p :: _ => if most ≤ 0 then none else some (p.1, mn p.2 (p.1 + most))
/-- one turn of add_piece -/
noncomputable def pieceStep (st : List Pc × Pc) (p : Pc) : List Pc × Pc :=
  if p.1 + (p.2.length : Nat) < st.2.1 ∨ st.2.1 + (st.2.2.length : Nat) < p.1 then (st.1 ++ [p], st.2)
  else (st.1, (mn st.2.1 p.1, cutL st.2.2 none (some (mx 0 (p.1 - st.2.1))) ++ p.2 ++ cutL st.2.2 (some (mx 0 (p.1 + (p.2.length : Nat) - st.2.1))) none))
/-- one turn of taken_from -/
noncomputable def takenStep (at_ : Int) (st : List UInt8 × List Pc) (p : Pc) : List UInt8 × List Pc :=
  if p.1 ≤ at_ ∧ at_ < p.1 + (p.2.length : Nat) then (cutL p.2 (some (at_ - p.1)) none, st.2)
  else if p.1 > at_ then (st.1, st.2 ++ [p]) else st
end Mine
end

section
set_option maxHeartbeats 1000000
open PySem PySem.W PyProof.Rows PySem.Calls
namespace Mine

section
variable {X : FX} {loc loc' : Loc} {hp hp1 hp2 hp3 g : Hp} {P P1 : Post}

/-! slices -/
noncomputable def PtJ (X : FX) (loc : Loc) (hp : Hp) (o : Option Expr) (i : Option Int) (hp' : Hp) : Prop :=
  ∀ s m news al (Q E : Value → Shared → Prop), RepS X loc hp s.heap m news al →
    (∀ u h' tk news' al', Ext news al news' al' → IsPart u i → RepS X loc hp' h' m news' al' → Q u { s with heap := h', toks := tk }) → wpAny X.M X.A (evalPart o X.env) Q E s
theorem p_none : PtJ X loc hp none none hp := by
  intro s m news al Q E R k
  exact evalPart_none_step (k _ s.heap s.toks _ _ Ext.refl .none R)
theorem p_some {e : Expr} {i : Int} (h : EvJ X loc hp e (.int i) hp1) : PtJ X loc hp (some e) (some i) hp1 := fun s m news al Q E R k =>
  evalPart_some_step (h.intK R fun t g1 t1 n1 a1 x1 R1 => k _ _ _ _ _ x1 (.int _ _) R1)

theorem clip_nat {n : Nat} {i : Int} (h : 0 ≤ i) : clipAt n i = min i.toNat n := by
  match i, h with
  | .ofNat k, _ =>
    have e : (if (k : Int) < 0 then (k : Int) + n else (k : Int)) = (k : Int) := if_neg (Int.not_lt.mpr (Int.natCast_nonneg k))
    unfold clipAt
    rw [show ((Int.ofNat k : Int)) = (k : Int) from rfl]
    simp only [e]
    show (max 0 (min (k : Int) (n : Int))).toNat = min k n
    rcases Nat.le_total k n with h | h
    · rw [Int.min_eq_left (Int.ofNat_le.mpr h), Nat.min_eq_left h, Int.max_eq_right (Int.natCast_nonneg _)]; rfl
    · rw [Int.min_eq_right (Int.ofNat_le.mpr h), Nat.min_eq_right h, Int.max_eq_right (Int.natCast_nonneg _)]; rfl
noncomputable def NN : Option Int → Prop
  | none => True
  | some i => 0 ≤ i
theorem drop_min {α : Type} (l : List α) (a : Nat) : l.drop (min a l.length) = l.drop a := by
  rcases Nat.le_total a l.length with h | h
  · rw [Nat.min_eq_left h]
  · rw [Nat.min_eq_right h, List.drop_eq_nil_of_le (Nat.le_refl _), List.drop_eq_nil_of_le h]
theorem take_min {α : Type} (l : List α) (a : Nat) : l.take (min a l.length) = l.take a := by
  rcases Nat.le_total a l.length with h | h
  · rw [Nat.min_eq_left h]
  · rw [Nat.min_eq_right h, List.take_of_length_le (Nat.le_refl _), List.take_of_length_le h]
theorem cut_hi {α : Type} (l : List α) : ∀ {hi : Option Int}, NN hi → l.take (hi.elim l.length (clipAt l.length)) = cutL l none hi
  | none, _ => List.take_of_length_le (Nat.le_refl _)
  | some b, h2 => (congrArg (fun k => l.take k) (clip_nat h2)).trans (take_min _ _)
theorem cut_eq {α : Type} (l : List α) {lo hi : Option Int} (h1 : NN lo) (h2 : NN hi) :
    (l.drop (lo.elim 0 (clipAt l.length))).take (hi.elim l.length (clipAt l.length) - lo.elim 0 (clipAt l.length)) = cutL l lo hi := by
  rw [← List.drop_take, cut_hi l h2]
  cases lo with
  | none => rfl
  | some a =>
    show (cutL l none hi).drop (clipAt l.length a) = (cutL l none hi).drop a.toNat
    rw [clip_nat h1]
    rcases Nat.le_total a.toNat l.length with h | h
    · rw [Nat.min_eq_left h]
    · have hl := cutL_len l none hi
      rw [Nat.min_eq_right h, List.drop_eq_nil_of_le hl, List.drop_eq_nil_of_le (Nat.le_trans hl h)]

theorem e_sliceb {o : Expr} {lo hi : Option Expr} {sp p : Pos} {b : List UInt8} {i j : Option Int} (h : EvJ X loc hp o (.bytes b) hp1) (h1 : PtJ X loc hp1 lo i hp2) (h2 : PtJ X loc hp2 hi j hp3) (n1 : NN i) (n2 : NN j) (hz : b.length ≤ 1000000)
    (hs : ∀ b t a, subscripted (.Slice lo hi none sp) false (.bytes b t) (.ref a) = operate [.ref a, .bytes b t] (getItem (.bytes b t) (.ref a)) := by intro _ _ _; with_unfolding_all rfl)
    (ht : ∀ b t r, letTemporaryGo o (.bytes b t) r = pure () := by intro _ _ _; with_unfolding_all rfl) : EvJ X loc hp (.Subscript o (.Slice lo hi none sp) p) (.bytes (cutL b i j)) hp3 := by
  intro s m news al Q E R k
  refine Subscript_ (h _ _ _ _ _ _ R fun u1 g1 t1 m1 a1 x1 r1 R1 => wpAny_Slice (h1 _ _ _ _ _ _ R1 fun u2 g2 t2 m2 a2 x2 r2 R2 => h2 _ _ _ _ _ _ R2 fun u3 g3 t3 m3 a3 x3 r3 R3 => evalPart_none_step ?_))
  cases r1 with
  | bytes b tb =>
    refine KBc.slice_K (ks := KBw.bInts b.toArray) (s := { s with heap := g3, toks := t3 }) R3.C.F R3.C.N rfl r2 r3 (by rw [KBw.ints_length, List.size_toArray]; (exact Nat.le_trans (by assumption) (Nat.le_of_ble_eq_true rfl))) (fun h' t' kk F' N' he => ?_) (hs _ _ _) (ht _ _)
    have e : (KBy.picked b.toArray i j) = (cutL b i j).toArray := by
      rw [KBc.picked_eq, ← cut_eq b n1 n2]
      simp
    rw [e]
    exact k _ _ _ _ _ ((x1.trans x2).trans x3) (.bytes _ _) ⟨⟨F', N', R3.C.H⟩, R3.V⟩

theorem kms_cut (l : List Value) {lo hi : Option Int} (h1 : NN lo) (h2 : NN hi) : kms_pick l lo hi = cutL l lo hi := by
  rw [← cut_eq l h1 h2]
  unfold kms_pick
  have e1 : kms_lo lo l.length = lo.elim 0 (clipAt l.length) := by
    cases lo with
    | none => rfl
    | some a => show (if a < 0 then _ else _) = _; rw [if_neg (by have : 0 ≤ a := h1; omega)]; exact (clip_nat h1).symm
  have e2 : kms_hi hi l.length = hi.elim l.length (clipAt l.length) := by
    cases hi with
    | none => rfl
    | some a => show (if a < 0 then _ else _) = _; rw [if_neg (by have : 0 ≤ a := h2; omega)]; exact (clip_nat h2).symm
  rw [e1, e2]
theorem VAll.cutL {news : Led} {al : List Addr} {vs : List Value} {l : List AV} (h : VAll news al vs l) (lo hi : Option Int) : VAll news al (Mine.cutL vs lo hi) (Mine.cutL l lo hi) := by
  unfold Mine.cutL
  cases hi with
  | none => exact h.drop _
  | some b => exact (h.take _).drop _
theorem e_slicel {o : Expr} {lo hi : Option Expr} {sp p : Pos} {a : Nat} {l : List AV} {i j : Option Int} (h : EvJ X loc hp o (.ref a) hp1) (h1 : PtJ X loc hp1 lo i hp2) (h2 : PtJ X loc hp2 hi j hp3) (hL : hp3[a]? = some (.list l)) (n1 : NN i) (n2 : NN j) (hz : l.length ≤ 1000000)
    (hs : ∀ b a, subscripted (.Slice lo hi none sp) false (.ref b) (.ref a) = operate [.ref a, .ref b] (getItem (.ref b) (.ref a)) := by intro _ _; with_unfolding_all rfl)
    (ht : ∀ b r, letTemporaryGo o (.ref b) r = pure () := by intro _ _; with_unfolding_all rfl) : EvJ X loc hp (.Subscript o (.Slice lo hi none sp) p) (.ref hp3.length) (hp3 ++ [.list (cutL l i j)]) := by
  intro s m news al Q E R k
  refine Subscript_ (h _ _ _ _ _ _ R fun u1 g1 t1 m1 a1 x1 r1 R1 => wpAny_Slice (h1 _ _ _ _ _ _ R1 fun u2 g2 t2 m2 a2 x2 r2 R2 => h2 _ _ _ _ _ _ R2 fun u3 g3 t3 m3 a3 x3 r3 R3 => evalPart_none_step ?_))
  refine R3.C.listC ((r1.mono x2).mono x3) hL fun ad vs n ha hm hv => ?_
  refine kms_slice_lit (s := { s with heap := g3, toks := t3 }) R3.C.F R3.C.N (PySem.IsL.isList (R3.C.N _ hm).1) r2 r3 (zs := cutL vs i j) (kms_cut _ n1 n2) (fun D h' F' N' hlt => ?_) (hs _ _) (ht _) (line_ge (hv.le hz))
  exact R3.C.newListK (hv.cutL i j) F' N' hlt fun C' v' => k _ _ t3 _ _ (((x1.trans x2).trans x3).trans (Ext.push hlt)) v' ⟨C', R3.V.mono (Ext.push hlt)⟩
end
end Mine
end

section
set_option maxHeartbeats 1000000
open PySem PySem.W PyProof.Rows PySem.Calls
namespace Mine

noncomputable def putA (x : Str) (v : AV) : Loc → Loc
  | [] => [(x, v)]
  | p :: r => if p.1 == x then (p.1, v) :: r else p :: putA x v r
theorem str_isStr {x y : Str} {t : Tok} {u : Value} (h : u = .str y t) : u.isStr x = (y == x) := by subst h; rfl
theorem EAll.get {news : Led} {al : List Addr} {es : List DictEntry} {fs : Loc} (h : EAll news al es fs) {x : Str} {v : AV} : fs.lookup x = some v → ∃ u, getL x es = some (some u) ∧ VRep news al u v := by
  induction h with
  | nil => intro e; cases e
  | @cons e es y t d ds hk hv _ ih =>
    intro e1
    rw [List.lookup_cons] at e1
    have hs : e.key.isStr x = (y == x) := str_isStr hk
    by_cases c : (x == y) = true
    · rw [c] at e1
      cases e1
      have hxy : y = x := (beq_iff_eq.mp c).symm
      refine ⟨e.val, ?_, hv⟩
      unfold getL
      rw [List.find?_cons, hs, hxy]
      simp
    · rw [Bool.not_eq_true] at c
      rw [c] at e1
      obtain ⟨u, h1, h2⟩ := ih e1
      refine ⟨u, ?_, h2⟩
      have c' : (y == x) = false := by
        rw [← Bool.not_eq_true]; intro q
        rw [beq_iff_eq.mp q] at c; simp at c
      unfold getL at h1 ⊢
      rw [List.find?_cons, hs, c']
      cases hf : es.find? (·.key.isStr x) with
      | some w => rw [hf] at h1; exact h1
      | none => rw [hf] at h1; revert h1; simp only; split <;> intro h1 <;> cases h1
theorem EAll.none {news : Led} {al : List Addr} {es : List DictEntry} {fs : Loc} (h : EAll news al es fs) {x : Str} : fs.lookup x = .none → getL x es = some .none := by
  have hr : ∀ {es : List DictEntry} {fs : Loc}, EAll news al es fs → es.any (·.refKey) = false := by
    intro es fs h
    induction h with
    | nil => rfl
    | @cons e es y t d ds hk hv _ ih =>
      rw [List.any_cons, ih]
      have : e.refKey = false := by unfold DictEntry.refKey; rw [hk]
      rw [this]; rfl
  intro e
  have hf : es.find? (·.key.isStr x) = .none := by
    clear hr
    induction h with
    | nil => rfl
    | @cons e' es y t d ds hk hv _ ih =>
      rw [List.lookup_cons] at e
      by_cases c : (x == y) = true
      · rw [c] at e; cases e
      · rw [Bool.not_eq_true] at c
        rw [c] at e
        have c' : (y == x) = false := by
          rw [← Bool.not_eq_true]; intro q
          rw [beq_iff_eq.mp q] at c; simp at c
        rw [List.find?_cons, str_isStr hk, c']
        exact ih e
  unfold getL
  rw [hf]
  simp only
  rw [hr h]
  rfl
theorem EAll.put {news : Led} {al : List Addr} {es : List DictEntry} {fs : Loc} {x : Str} {hsh : Int} {t : Tok} {u : Value} {v : AV} (h : EAll news al es fs) (r : VRep news al u v) : EAll news al (putL x hsh (.str x t) u es) (putA x v fs) := by
  induction h with
  | nil => exact .cons rfl r .nil
  | @cons e es y t' d ds hk hv h' ih =>
    show EAll news al (if e.key.isStr x then ⟨e.hash, e.key, u⟩ :: es else e :: putL x hsh (.str x t) u es) (if (y == x) = true then (y, v) :: ds else (y, d) :: putA x v ds)
    rw [str_isStr hk]
    cases (y == x) with
    | true => exact .cons hk r h'
    | false => exact .cons hk hv ih
theorem EAll.length {news : Led} {al : List Addr} {es : List DictEntry} {fs : Loc} (h : EAll news al es fs) : es.length = fs.length := by
  induction h with
  | nil => rfl
  | cons _ _ _ ih => exact congrArg (· + 1) ih
theorem putA_length (x : Str) (v : AV) : ∀ fs : Loc, (putA x v fs).length ≤ fs.length + 1
  | [] => Nat.le_refl _
  | p :: r => by
    unfold putA
    split
    · simp
    · simpa using putA_length x v r

/-- what the text says of a class of plain objects -/
structure CK (q : Params) (C : Addr) : Prop where
  pg : plainGet (Mine.hd.heap_39 q) C "" = true
  hd : hasDictIn (Mine.hd.heap_39 q) C = true
  sa : findIn (Mine.hd.heap_39 q) (.ref C) "__setattr__" = some (some (.builtin "object.__setattr__"))
  po : plainOver (Mine.hd.heap_39 q) C = true

section
variable {X : FX} {loc loc' : Loc} {hp hp1 hp2 hp3 g : Hp} {P P1 : Post}

@[elab_as_elim] theorem Core.instC {h : Heap} {m : Str → Option Value} {news : Led} {al : List Addr} {i d : Nat} {C : Addr} {fs : Loc} {G : Value → Prop} {u : Value} (Z : Core X hp h m news al) (r : VRep news al u (.ref i)) (hi : hp[i]? = some (.inst C d)) (hd : hp[d]? = some (.dict fs))
    (k : ∀ a dx es n, al[i]? = some a → al[d]? = some dx → (a, instObj C dx) ∈ news → (dx, dictOf es n) ∈ news → EAll news al es fs → G (.ref a)) : G u := by
  refine r.refC fun a ha => ?_
  obtain ⟨a', ha', ho⟩ := Z.H.addr hi
  cases Option.some.inj (ha.symm.trans ha')
  obtain ⟨dx, hdx, ho2⟩ := Z.H.addr hd
  cases ho with
  | inst hm e =>
    cases Option.some.inj (e.symm.trans hdx)
    cases ho2 with
    | dict hm2 he => exact k _ _ _ _ ha e hm hm2 he
theorem EAll.getK {news : Led} {al : List Addr} {es : List DictEntry} {fs : Loc} (h : EAll news al es fs) {x : Str} {v : AV} {G : Prop} (e : fs.lookup x = some v) (k : ∀ u, getL x es = some (some u) → VRep news al u v → G) : G := by
  obtain ⟨u, a, b⟩ := h.get e
  exact k u a b
theorem Core.instAt {h : Heap} {m : Str → Option Value} {news : Led} {al : List Addr} {a dx C : Addr} {es : List DictEntry} {n : Nat} (Z : Core X hp h m news al) (hm1 : (a, instObj C dx) ∈ news) (hm2 : (dx, dictOf es n) ∈ news) : InstAt h a (instObj C dx) C (some (dictOf es n)) := ⟨(Z.N _ hm1).1, rfl, rfl, (Z.N _ hm2).1⟩

theorem e_attr {o : Expr} {name : Str} {p : Pos} {i d : Nat} {C : Addr} {fs : Loc} {v : AV} (h : EvJ X loc hp o (.ref i) hp1) (hi : hp1[i]? = some (.inst C d)) (hd : hp1[d]? = some (.dict fs)) (hv : fs.lookup name = some v)
    (ck : CK X.w.params C) (ha : findIn (Mine.hd.heap_39 X.w.params) (.ref C) name = some .none)
    (he : ∀ env, eval (.Attribute o name p) env = (do
      let ov ← eval o env
      standAt p.atName
      let r ← holding [ov] (getAttr ov name true)
      letTemporaryGo o ov r
      pure r) := by intro _; with_unfolding_all rfl) : EvJ X loc hp (.Attribute o name p) v hp1 := by
  intro s m news al Q E R k
  exact Attribute_any_ (h _ _ _ _ _ _ R fun u1 g1 t1 m1 a1 x1 r1 R1 => R1.C.instC r1 hi hd fun a dx es n hal hald hm1 hm2 hes => hes.getK hv fun u hu ru =>
    get_own (attr := .none) R1.C.F X.X (R1.C.instAt hm1 hm2) ck.pg ck.hd ha rfl hu ru.handed (k _ _ _ _ _ x1 ru R1)) (he _)

theorem Core.setDict {h h' : Heap} {m : Str → Option Value} {news : Led} {al : List Addr} {a : Addr} {i : Nat} {es es' : List DictEntry} {n n' : Nat} {fs' : Loc} (Z : Core X hp h m news al) (ha : al[i]? = some a) (hm : (a, dictOf es n) ∈ news)
    (F : Fr X.h₀ X.L h' m) (N : News X.h₀ X.L h' ((a, dictOf es' n') :: offA a news)) (hv : EAll news al es' fs') :
    Core X (hp.set i (.dict fs')) h' m ((a, dictOf es' n') :: offA a news) al ∧ Ext news al ((a, dictOf es' n') :: offA a news) al := by
  obtain ⟨H, x⟩ := Z.H.upd Z.N (o' := dictOf es' n') (ao := .dict fs') ha hm (by simp) (fun x => .dict (.head _) (hv.mono x))
  exact ⟨⟨F, N, H⟩, x⟩

theorem Core.setDictK {h h' : Heap} {m : Str → Option Value} {news : Led} {al : List Addr} {a : Addr} {i : Nat} {es es' : List DictEntry} {n n' : Nat} {fs' : Loc} {G : Prop} (Z : Core X hp h m news al) (ha : al[i]? = some a) (hm : (a, dictOf es n) ∈ news)
    (F : Fr X.h₀ X.L h' m) (N : News X.h₀ X.L h' ((a, dictOf es' n') :: offA a news)) (hv : EAll news al es' fs')
    (k : Core X (hp.set i (.dict fs')) h' m ((a, dictOf es' n') :: offA a news) al → Ext news al ((a, dictOf es' n') :: offA a news) al → G) : G := k (Z.setDict ha hm F N hv).1 (Z.setDict ha hm F N hv).2
theorem EAll.fits {news : Led} {al : List Addr} {es : List DictEntry} {fs : Loc} {x : Str} {hsh : Int} {t : Tok} {u : Value} {v : AV} (h : EAll news al es fs) (r : VRep news al u v) (hl : fs.length ≤ 100) : (putL x hsh (.str x t) u es).length ≤ 1000 := by
  rw [(h.put r).length]
  exact Nat.le_trans (putA_length x v fs) (Nat.le_trans (Nat.succ_le_succ hl) (Nat.le_of_ble_eq_true rfl))
theorem EAll.has {news : Led} {al : List Addr} {es : List DictEntry} {fs : Loc} {x : Str} (h : EAll news al es fs) : (getL x es).isSome = true := by
  cases hf : fs.lookup x with
  | some w => obtain ⟨u, hu, _⟩ := h.get hf; rw [hu]; rfl
  | none => rw [h.none hf]; rfl
theorem taker_none {K : Frag} {C : Addr} {x : Str} (ha : findIn K (.ref C) x = some .none) : takerIn K C x = some .none := by unfold takerIn; rw [ha]; rfl
/-- a field stored -/
theorem Core.setField {s : Shared} {m : Str → Option Value} {news : Led} {al : List Addr} {name : Str} {a dx C : Addr} {d : Nat} {es : List DictEntry} {n : Nat} {fs : Loc} {u : Value} {v : AV} {Q : Unit → Shared → Prop} {E : Value → Shared → Prop} (Z : Core X hp s.heap m news al) (hald : al[d]? = some dx) (hm1 : (a, instObj C dx) ∈ news) (hm2 : (dx, dictOf es n) ∈ news) (hes : EAll news al es fs) (r : VRep news al u v) (hl : fs.length ≤ 100)
    (ck : CK X.w.params C) (ha : findIn (Mine.hd.heap_39 X.w.params) (.ref C) name = some .none)
    (k : ∀ h' tk news', Ext news al news' al → Core X (hp.set d (.dict (putA name v fs))) h' m news' al → Q () { s with heap := h', toks := tk }) : wpAny X.M X.A (setAttr (.ref a) name u) Q E s :=
  set_dict Z.F X.X (News.at' Z.N hm2) (Z.instAt hm1 hm2) rfl ck.sa ck.po (taker_none ha) ck.hd hes.has rfl upd_at (hes.fits r hl) fun h' F' N' => Z.setDictK hald hm2 F' N' (hes.put r) fun C' x => k _ _ _ x C'
theorem a_attr {o : Expr} {name : Str} {p : Pos} {i d : Nat} {C : Addr} {fs : Loc} {v : AV} (h : EvJ X loc hp o (.ref i) hp1) (hi : hp1[i]? = some (.inst C d)) (hd : hp1[d]? = some (.dict fs)) (hl : fs.length ≤ 100)
    (ck : CK X.w.params C) (ha : findIn (Mine.hd.heap_39 X.w.params) (.ref C) name = some .none) (h3 : hp1.set d (.dict (putA name v fs)) = hp2) : AsgJ X loc hp (.Attribute o name p) v loc hp2 := by
  subst h3
  intro s m news al u Q E R r k
  rw [assign_Attribute]
  exact wpAny_bind (wpAny_holding (h _ _ _ _ _ _ R fun u1 g1 t1 m1 a1 x1 r1 R1 => R1.C.instC r1 hi hd fun a dx es n hal hald hm1 hm2 hes =>
    wpAny_bind (wpAny_standAt (wpAny_bind (wpAny_holding (R1.C.setField (s := { s with heap := g1, toks := t1 }) hald hm1 hm2 hes (r.mono x1) hl ck ha fun h' tk n' x C' => wpAny_release (k _ _ m _ _ (x1.trans x) ⟨C', R1.V.mono x⟩)))))))

theorem a_sub {o e : Expr} {p : Pos} {i : Nat} {j : Int} {l : List AV} {v : AV} (h : EvJ X loc hp o (.ref i) hp1) (h2 : EvJ X loc hp1 e (.int j) hp2) (hi : hp2[i]? = some (.list l)) (h0 : 0 ≤ j) (h1 : j < l.length) (hb : l.length ≤ 1000000) (h3 : hp2.set i (.list (l.set j.toNat v)) = hp3) :
    AsgJ X loc hp (.Subscript o e p) v loc hp3 := by
  subst h3
  have hj3 : j < 2 ^ 63 := Int.lt_trans h1 (small63 hb)
  intro s m news al u Q E R r k
  rw [assign_Subscript]
  exact wpAny_bind (wpAny_holding (h _ _ _ _ _ _ R fun u1 g1 t1 m1 a1 x1 r1 R1 => wpAny_bind (wpAny_holding (h2.intK R1 fun tj g2 t2 m2 a2 x2 R2 => R2.C.listC (r1.mono x2) hi fun a vs n ha hm hv =>
    wpAny_bind (wpAny_standAt (wpAny_bind (wpAny_holding (set_any (s := { s with heap := g2, toks := t2 }) R2.C.F (News.at' R2.C.N hm) upd_at h0 (hv.length ▸ h1) hj3 fun h' F' N' =>
      R2.C.setListK ha hm F' N' (VAll.set ((r.mono x1).mono x2) j.toNat hv) fun C' x => wpAny_release (k _ _ m _ _ ((x1.trans x2).trans x) ⟨C', R2.V.mono x⟩)))))))))

/-- o.name += e, ints -/
theorem g_augi {o e : Expr} {name : Str} {tp p : Pos} {i d : Nat} {C : Addr} {fs : Loc} {a b : Int} (h : EvJ X loc hp o (.ref i) hp) (hi : hp[i]? = some (.inst C d)) (hd : hp[d]? = some (.dict fs)) (hv : fs.lookup name = some (.int a)) (h2 : EvJ X loc hp e (.int b) hp) (hl : fs.length ≤ 100)
    (ck : CK X.w.params C) (ha : findIn (Mine.hd.heap_39 X.w.params) (.ref C) name = some .none) (h3 : hp.set d (.dict (putA name (.int (a + b)) fs)) = hp2) : GoJ X loc hp (.AugAssign (.Attribute o name tp) .Add e p) loc hp2 := by
  subst h3
  intro s m news al Q E R k
  refine wpAny_AugAssign_AttributeAny (h _ _ _ _ _ _ R fun u1 g1 t1 m1 a1 x1 r1 R1 => ?_)
  refine R1.C.instC r1 hi hd fun a' dx es n hal hald hm1 hm2 hes => hes.getK hv fun u hu ru => ?_
  refine get_own (attr := .none) R1.C.F X.X (R1.C.instAt hm1 hm2) ck.pg ck.hd ha rfl hu ru.handed ?_
  refine ru.intC fun ta => h2.intK R1 fun tb g2 t2 m2 a2 x2 R2 => iadd_int ?_
  have r2 : VRep m2 a2 (.ref a') (.ref i) := .ref (x2.get hal)
  refine R2.C.instC (G := fun u => wpAny X.M X.A (setAttr u name _) _ E _) r2 hi hd fun a2' dx2 es2 n2 hal2 hald2 hm12 hm22 hes2 => ?_
  exact R2.C.setField (s := { s with heap := g2, toks := t2 + 1 }) hald2 hm12 hm22 hes2 (.int _ _) hl ck ha fun h' tk n' x C' => k _ _ _ _ _ _ m _ _ ⟨rfl, rfl, rfl⟩ .next ((x1.trans x2).trans x) ⟨C', R2.V.mono x⟩

/-! methods of own classes -/
theorem e_meth {o e : Expr} {es : List Expr} {name : Str} {ap p : Pos} {i d : Nat} {C f : Addr} {fs : Loc} {vs : List AV} {v : AV} {pl : Env → Sem Bool} (h1 : EvJ X loc hp o (.ref i) hp1) (hi : hp1[i]? = some (.inst C d)) (hd : hp1[d]? = some (.dict fs)) (hno : fs.lookup name = .none)
    (h2 : EvsJ X loc hp1 (e :: es) vs hp2) (h3 : CallJ X hp2 (.ref f) (.ref i :: vs) v hp3)
    (ck : CK X.w.params C) (hf : findIn (Mine.hd.heap_39 X.w.params) (.ref C) name = some (some (.ref f))) (ht : isFn (Mine.hd.heap_39 X.w.params) (.ref f) = true) (hkeep : keepIn (Mine.hd.heap_39 X.w.params) (.ref f) = true)
    (hs : ∀ env, starEach (e :: es) env = (false, eval e env) :: starEach es env := by intro _; rfl) (hpl : ∀ env, (backTo p (starEach es env)).any (·.1) = false := by intro _; rfl)
    (hc : ∀ env, eval (.Call (.Attribute o name ap) (e :: es) [] p) env = (do let ov ← eval o env; standAt ap.atName; let (f, first) ← holding [ov] (getMethod ov name (pl env)); callWith p f first (backTo p (starEach (e :: es) env)) []) := by intro _; rfl) :
    EvJ X loc hp (.Call (.Attribute o name ap) (e :: es) [] p) v hp3 := by
  intro s m news al Q E R k
  refine MethodCall_ (h1 _ _ _ _ _ _ R fun u1 g1 t1 n1 a1 x1 r1 R1 => R1.C.instC r1 hi hd fun a dx ens n hal hald hm1 hm2 hes => method_inst R1.C.F X.X (R1.C.instAt hm1 hm2) ck.pg hf ht (hes.none hno) ?_) (hc _)
  refine callWith_K X.X hkeep (h2 _ _ _ _ _ _ _ R1 fun us g2 t2 n2 a2 x2 r2 R2 => ⟨X.X.keeps R2.C.F.keep, ?_⟩) (hs _) (hpl _)
  exact h3 _ _ _ _ _ _ _ R2.C (.cons (.ref (x2.get hal)) r2) fun u g3 t3 n3 a3 x3 r3 C3 => k _ _ _ _ _ ((x1.trans x2).trans x3) r3 ⟨C3, R2.V.mono x3⟩
theorem e_meth0 {o : Expr} {name : Str} {ap p : Pos} {i d : Nat} {C f : Addr} {fs : Loc} {v : AV} {pl : Env → Sem Bool} (h1 : EvJ X loc hp o (.ref i) hp1) (hi : hp1[i]? = some (.inst C d)) (hd : hp1[d]? = some (.dict fs)) (hno : fs.lookup name = .none)
    (h3 : CallJ X hp1 (.ref f) [.ref i] v hp3)
    (ck : CK X.w.params C) (hf : findIn (Mine.hd.heap_39 X.w.params) (.ref C) name = some (some (.ref f))) (ht : isFn (Mine.hd.heap_39 X.w.params) (.ref f) = true) (hkeep : keepIn (Mine.hd.heap_39 X.w.params) (.ref f) = true)
    (hc : ∀ env, eval (.Call (.Attribute o name ap) [] [] p) env = (do let ov ← eval o env; standAt ap.atName; let (f, first) ← holding [ov] (getMethod ov name (pl env)); callWith p f first (backTo p (starEach [] env)) []) := by intro _; rfl) :
    EvJ X loc hp (.Call (.Attribute o name ap) [] [] p) v hp3 := by
  intro s m news al Q E R k
  refine MethodCall_ (h1 _ _ _ _ _ _ R fun u1 g1 t1 n1 a1 x1 r1 R1 => R1.C.instC r1 hi hd fun a dx ens n hal hald hm1 hm2 hes => method_inst R1.C.F X.X (R1.C.instAt hm1 hm2) ck.pg hf ht (hes.none hno) ?_) (hc _)
  refine callWith_K0 (X.X.keeps R1.C.F.keep) hkeep ?_
  exact h3 _ _ _ _ _ _ _ R1.C (.cons (.ref hal) .nil) fun u g3 t3 n3 a3 x3 r3 C3 => k _ _ _ _ _ (x1.trans x3) r3 ⟨C3, R1.V.mono x3⟩
end
end Mine
end

section
set_option maxHeartbeats 1000000
open PySem PySem.W PyProof.Rows PySem.Calls PySem.SeqAt LSm
namespace Mine
noncomputable abbrev asp (p : Int × Int) : AV := .tup [.int p.1, .int p.2]
noncomputable abbrev asps (sp : Sp) : List AV := sp.map asp

section
variable {X : FX} {loc loc' : Loc} {hp hp1 hp2 hp3 g : Hp} {P P1 : Post}

theorem FX.units (X : FX) (h : 0 < X.room) : X.un + 8 < cLine := by have := X.hun; omega

theorem e_bconst {b : List UInt8} {kk : Nat} {p : Pos} : EvJ X loc hp (.Constant (.bytes b) kk p) (.bytes b) hp := by
  intro s m news al Q E R k
  exact Constant_bytes (k _ s.heap _ news al Ext.refl (.bytes _ _) R)

theorem bools_of {news : Led} {al : List Addr} : ∀ {vs : List Value} {bs : List Bool}, VAll news al vs (bs.map .bool) → BoolsAre vs bs
  | _, [], .nil => .nil
  | _, _ :: _, .cons h r => by cases h; exact .cons _ (bools_of r)
theorem of_bools {news : Led} {al : List Addr} {vs : List Value} {bs : List Bool} (h : BoolsAre vs bs) : VAll news al vs (bs.map .bool) := by
  induction h with
  | nil => exact .nil
  | cons b _ ih => exact .cons (.bool _) ih
theorem ints_of {news : Led} {al : List Addr} : ∀ {vs : List Value} {ns : List Int}, VAll news al vs (ns.map .int) → IntsAre vs ns
  | _, [], .nil => .nil
  | _, _ :: _, .cons h r => by cases h; exact .cons _ _ (ints_of r)
theorem of_ints {news : Led} {al : List Addr} {vs : List Value} {ns : List Int} (h : IntsAre vs ns) : VAll news al vs (ns.map .int) := by
  induction h with
  | nil => exact .nil
  | cons i t _ ih => exact .cons (.int _ _) ih

theorem e_mulb {l r : Expr} {p : Pos} {i : Nat} {b : Bool} {n : Int} (h1 : EvJ X loc hp l (.ref i) hp1) (h2 : EvJ X loc hp1 r (.int n) hp2) (hi : hp2[i]? = some (.list [.bool b])) (h0 : 0 ≤ n) (hn : n ≤ 1000000) :
    EvJ X loc hp (.BinOp l .Mult r p) (.ref hp2.length) (hp2 ++ [.list (List.replicate n.toNat (.bool b))]) := by
  have e : (List.replicate n.toNat [b]).flatten.map AV.bool = List.replicate n.toNat (.bool b) := by simp
  have z1 : -(2 ^ 63) ≤ n := Int.le_trans (by decide) h0
  have z2 : n < 2 ^ 63 := Int.lt_of_le_of_lt hn (by decide)
  have n3 : 1 * n.toNat ≤ sizeLine := by rw [Nat.one_mul, sizeLine_eq]; omega
  intro s m news al Q E R k
  refine wpAny_BinOp (h1 _ _ _ _ _ _ R fun u1 g1 t1 n1 a1 x1 r1 R1 => h2.intK R1 fun tb g2 t2 n2 a2 x2 R2 => R2.C.listC (r1.mono x2) hi fun ad vs k' ha hm hv => ?_)
  refine kbo_mul R2.C.F R2.C.N (PySem.IsL.isList (R2.C.N _ hm).1) (bools_of (bs := [b]) hv) z1 z2 (by rw [hv.length]; exact n3) fun D h' F' N' hl hB' N _ _ _ _ _ => ?_
  exact R2.C.newListK (e ▸ of_bools hB') F' N' hl fun C' v' => k _ _ _ _ _ ((x1.trans x2).trans (Ext.push hl)) v' ⟨C', R2.V.mono (Ext.push hl)⟩

theorem k_bytesl {i : Nat} {ns : List Int} (hi : hp[i]? = some (.list (ns.map .int))) (hr : ∀ n ∈ ns, 0 ≤ n ∧ n < 256) (hb : ns.length ≤ 1000000) : CallJ X hp (.type "bytes") [.ref i] (.bytes (ns.map fun n => n.toNat.toUInt8)) hp := fun s m news al us Q E C r k =>
  r.oneC fun u r1 => C.listC r1 hi fun a vs n ha hm hv => bytes_K C.F C.N (PySem.IsL.isList (C.N _ hm).1) (ints_of hv) hr (by rw [hv.length, List.length_map]; exact line_ge hb) rfl fun h' t kk F' N' _ => k _ _ _ _ _ Ext.refl (.bytes _ _) ⟨F', N', C.H⟩

/-! comparisons -/
noncomputable def isN : AV → Bool
  | .none => true
  | _ => false
theorem c_is_none {a : AV} : CmpJ X hp .Is a .none (isN a) := cmpK fun u v s _ _ Q E r1 r2 q => r2.noneC (by
  cases r1 with
  | none => exact PySem.is_none q
  | raw hh hn => exact PySem.is_none (by rw [beq_eq_false_iff_ne.mpr hn]; exact q)
  | _ => exact PySem.is_none q)
theorem c_none_ne : CmpJ X hp .NotEq .none .none false := cmpK fun u v s _ _ Q E r1 r2 q => r1.noneC (r2.noneC (RcNeAt.none_none X.prog X.w E Q q))
theorem FX.un1 (X : FX) (h : 0 < X.room) : X.A.units < cLine := Nat.lt_of_le_of_lt (Nat.le_add_right _ _) (X.units h)
theorem FX.un2 (X : FX) (h : 0 < X.room) : X.A.in1.units < cLine := Nat.lt_of_le_of_lt (Nat.add_le_add_left (by decide) _) (X.units h)
/-- two lists of the state, compared -/
theorem cmpLL {op : CmpOp} {i j : Nat} {l r : List AV} {c : Bool} (hi : hp[i]? = some (.list l)) (hj : hp[j]? = some (.list r))
    (h : ∀ a b vs ws (s : Shared) m news al (Q E : Value → Shared → Prop), Core X hp s.heap m news al → s.heap.IsList a vs.toArray → s.heap.IsList b ws.toArray → VAll news al vs l → VAll news al ws r → Q (.bool c) s → wpAny X.M X.A (compareOp op (.ref a) (.ref b)) Q E s) : CmpJ X hp op (.ref i) (.ref j) c :=
  fun s m news al u v Q E C r1 r2 k => C.listC r1 hi fun a vs n ha hm hv => C.listC r2 hj fun b ws n' hb hm' hw => h a b vs ws s m news al Q E C (PySem.IsL.isList (C.N _ hm).1) (PySem.IsL.isList (C.N _ hm').1) hv hw (k s.heap s.toks news al Ext.refl C)
theorem c_eq_nil {i j : Nat} {l : List AV} (hi : hp[i]? = some (.list l)) (hj : hp[j]? = some (.list [])) (hr : 0 < X.room) : CmpJ X hp .Eq (.ref i) (.ref j) l.isEmpty :=
  cmpLL hi hj fun a b vs ws s _ _ _ Q E _ hL hL' hv hw q => by
    have hw0 := hw.length
    cases l with
    | nil => exact eq_listAt (e := fun _ => true) hL hL' (by rw [List.size_toArray, List.size_toArray, hv.length, hw0]) (X.un1 hr) (fun j h => absurd h (by rw [List.size_toArray, hv.length]; exact Nat.not_lt_zero _)) (by rw [List.size_toArray, hv.length]; exact q)
    | cons x r => exact eq_list_lengthsAt hL hL' (by rw [List.size_toArray, List.size_toArray, hv.length, hw0]; rfl) (X.un1 hr) q
theorem c_ne_nil {i j : Nat} {l : List AV} (hi : hp[i]? = some (.list l)) (hj : hp[j]? = some (.list [])) (hr : 0 < X.room) : CmpJ X hp .NotEq (.ref i) (.ref j) (!l.isEmpty) :=
  cmpLL hi hj fun a b vs ws s _ _ _ Q E _ hL hL' hv hw q => by
    have hw0 := hw.length
    cases l with
    | nil => exact RcNeAt.lists (e := fun _ => true) hL hL' (by rw [List.size_toArray, List.size_toArray, hv.length, hw0]) (X.un1 hr) (fun j h => absurd h (by rw [List.size_toArray, hv.length]; exact Nat.not_lt_zero _)) X.prog X.w E Q (by rw [List.size_toArray, hv.length]; exact q)
    | cons x r => exact RcNeAt.lists_lengths hL hL' (by rw [List.size_toArray, List.size_toArray, hv.length, hw0]; rfl) (X.un1 hr) X.prog X.w E Q q
theorem bools_shape {vs : List Value} {bs : List Bool} (h : BoolsAre vs bs) : ∀ y ∈ vs, ∃ c, y = .bool c := by
  induction h with
  | nil => exact fun _ h => nomatch h
  | cons c _ ih =>
    intro y hy
    rcases List.mem_cons.mp hy with e | h
    · exact ⟨c, e⟩
    · exact ih y h
theorem vbool_beq (c b : Bool) : ((Value.bool c == Value.bool b) : Bool) = (c == b) := by cases c <;> cases b <;> rfl
theorem bools_any {vs : List Value} {bs : List Bool} {b : Bool} (h : BoolsAre vs bs) : (vs.toArray.any fun y => y == .bool b) = bs.any (· == b) := by
  rw [List.any_toArray]
  induction h with
  | nil => rfl
  | cons c _ ih => rw [List.any_cons, List.any_cons, ih, vbool_beq]
theorem bools_eqAt {vs : List Value} {bs : List Bool} {b : Bool} {A : Around} {s : Shared} (h : BoolsAre vs bs) : ∀ y, y ∈ vs.toArray → EqAt A s y (.bool b) (y == .bool b) := fun y hy => by
  obtain ⟨c, rfl⟩ := bools_shape h y (by simpa using hy)
  rw [vbool_beq]
  exact EqAt.bool_bool c b
theorem cmpVL {op : CmpOp} {j : Nat} {b : Bool} {r : List AV} {c : Bool} (hj : hp[j]? = some (.list r))
    (h : ∀ a vs (s : Shared) news al (Q E : Value → Shared → Prop), s.heap.IsList a vs.toArray → VAll news al vs r → Q (.bool c) s → wpAny X.M X.A (compareOp op (.bool b) (.ref a)) Q E s) : CmpJ X hp op (.bool b) (.ref j) c :=
  fun s m news al u v Q E C r1 r2 k => r1.boolC (C.listC r2 hj fun a vs n ha hm hv => h a vs s news al Q E (PySem.IsL.isList (C.N _ hm).1) hv (k s.heap s.toks news al Ext.refl C))
theorem c_in_bool {i : Nat} {bs : List Bool} {b : Bool} (hi : hp[i]? = some (.list (bs.map .bool))) : CmpJ X hp .In (.bool b) (.ref i) (bs.any (· == b)) :=
  cmpVL hi fun a vs s news al Q E hL hv q => in_listAt (fun y => y == .bool b) hL (bools_eqAt (bools_of hv)) (by rw [bools_any (bools_of hv)]; exact q)
theorem c_notin_bool {i : Nat} {bs : List Bool} {b : Bool} (hi : hp[i]? = some (.list (bs.map .bool))) : CmpJ X hp .NotIn (.bool b) (.ref i) (!bs.any (· == b)) :=
  cmpVL hi fun a vs s news al Q E hL hv q => notIn_listAt (fun y => y == .bool b) hL (bools_eqAt (bools_of hv)) (by rw [bools_any (bools_of hv)]; exact q)

@[elab_as_elim] theorem VRep.pairC {news : Led} {al : List Addr} {x y : AV} {G : Value → Prop} {u : Value} (h : VRep news al u (.tup [x, y])) (k : ∀ a v w n, (a, tupObj [v, w] n) ∈ news → VRep news al v x → VRep news al w y → G (.ref a)) : G u :=
  h.tupC fun a vs n hm hv => hv.twoC (C := fun vs => (a, tupObj vs n) ∈ news → G (.ref a)) (fun v w g1 g2 hm => k a v w n hm g1 g2) hm
theorem VRep.pair {news : Led} {al : List Addr} {u : Value} {x y : AV} (h : VRep news al u (.tup [x, y])) : ∃ a v w n, u = .ref a ∧ (a, tupObj [v, w] n) ∈ news ∧ VRep news al v x ∧ VRep news al w y :=
  h.pairC fun a v w n hm g1 g2 => ⟨a, v, w, n, rfl, hm, g1, g2⟩
theorem isTupN {h₀ h : Heap} {L a : Addr} {news : Led} {vs : List Value} {n : Nat} (N : News h₀ L h news) (hm : (a, tupObj vs n) ∈ news) : h.IsTuple a vs.toArray := ⟨_, (N _ hm).1, rfl, n, rfl⟩
theorem int_beq (a b : Int) : ((a == b) : Bool) = decide (a = b) := rfl
theorem dec_pair (p q : Int × Int) : ((p.1 == q.1) && ((p.2 == q.2) && true)) = decide (p = q) := by
  rw [Bool.eq_iff_iff, Bool.and_eq_true_iff, Bool.and_true, beq_iff_eq, beq_iff_eq, decide_eq_true_iff]
  exact Prod.ext_iff.symm
theorem tup_inj {a b c d : Int} {t u v w : Tok} {n n' : Nat} (h : tupObj [.int a t, .int b u] n = tupObj [.int c v, .int d w] n') : a = c ∧ b = d := by
  injection h with _ _ h
  injection h with h _
  have h := congrArg Array.toList h
  injection h with h1 h
  injection h1 with h1 _
  injection h with h2 _
  injection h2 with h2 _
  exact ⟨h1, h2⟩
theorem eqAt_asp {A : Around} {h₀ : Heap} {L : Addr} {s : Shared} {news : Led} {al : List Addr} (N : News h₀ L s.heap news) (hu : A.units < cLine) {p q : Int × Int} {u v : Value} (h1 : VRep news al u (asp p)) (h2 : VRep news al v (asp q)) : EqAt A s u v (decide (p = q)) :=
  h1.pairC fun a v1 v2 n hm g1 g2 => h2.pairC fun b w1 w2 n' hm' g3 g4 => by
    revert hm hm'
    refine g1.intC fun t1 => g2.intC fun t2 => g3.intC fun t3 => g4.intC fun t4 hm hm' => ?_
    by_cases hab : a = b
    · subst hab
      have e3 := tup_inj (Option.some.inj ((N _ hm).1.symm.trans (N _ hm').1))
      rw [show p = q from Prod.ext e3.1 e3.2, decide_eq_true (rfl : q = q)]
      exact EqAt.same _
    · have hR := RcAt.tuples (A := A) (s := s) (e := fun j => if j = 0 then (p.1 == q.1) else (p.2 == q.2)) (isTupN N hm) (isTupN N hm') hu (fun j => Nat.casesOn j (fun _ _ => (MeetsSeq.EqGives.int _ _ _ _).at _ _) fun j => Nat.casesOn j (fun _ _ => (MeetsSeq.EqGives.int _ _ _ _).at _ _) fun j h _ => absurd h (Nat.not_lt.mpr (Nat.le_add_left _ _)))
      rw [show decide (p = q) = ((List.range 2).all (fun j => if j = 0 then (p.1 == q.1) else (p.2 == q.2)) && true) from (dec_pair p q).symm.trans (Bool.and_true _).symm]
      exact EqAt.of_refs hab hR
/-- spans against one span -/
theorem c_eq_span1 {i j : Nat} {sp : Sp} {q : Int × Int} (hi : hp[i]? = some (.list (asps sp))) (hj : hp[j]? = some (.list [asp q])) (hr : 0 < X.room) : CmpJ X hp .Eq (.ref i) (.ref j) (decide (sp = [q])) :=
  cmpLL hi hj fun a b vs ws s _ _ _ Q E C hL hL' hv hw hq => by
    have hw0 := hw.length
    have hv0 := hv.length
    by_cases c : sp.length = 1
    · obtain ⟨p, rfl⟩ := List.length_eq_one_iff.mp c
      revert hL hL'
      refine hv.oneC fun u g1 => hw.oneC fun w g2 hL hL' => ?_
      refine eq_listAt (e := fun _ => decide (p = q)) hL hL' rfl (X.un1 hr) (fun j => Nat.casesOn j (fun _ _ => eqAt_asp C.N (X.un2 hr) g1 g2) fun j h => absurd h (Nat.not_lt.mpr (Nat.le_add_left _ _))) ?_
      have e : (decide (p = q) && true) = decide ([p] = [q]) := by rw [Bool.and_true, Bool.eq_iff_iff, decide_eq_true_iff, decide_eq_true_iff]; exact ⟨fun h => h ▸ rfl, fun h => (List.cons.inj h).1⟩
      rw [← e] at hq
      exact hq
    · refine eq_list_lengthsAt hL hL' (by rw [List.size_toArray, List.size_toArray, hv0, hw0, List.length_map]; exact bne_iff_ne.mpr c) (X.un1 hr) ?_
      rw [decide_eq_false (fun h : sp = [q] => c (congrArg List.length h))] at hq
      exact hq
end
end Mine
end

section
set_option maxHeartbeats 1000000
open PySem PySem.W PyProof.Rows PySem.Calls PySem.SeqAt LSm
namespace Mine
section
variable {X : FX} {loc loc' : Loc} {hp hp1 hp2 hp3 g : Hp} {P P1 : Post}

/-! an own class, made -/
theorem callcls_of {C fI : Addr} {vs : List AV} {W : Hp → Prop} (hm : makesIn (hd.heap_39 X.w.params) C = true) (hi : findIn (hd.heap_39 X.w.params) (.ref C) "__init__" = some (some (.ref fI))) (hf : isFn (hd.heap_39 X.w.params) (.ref fI) = true) (hroom : 1 < X.room)
    (h : ∀ Y : FX, Y.w = X.w → Y.room + 1 = X.room → CodeQ Y (hp ++ [.dict [], .inst C hp.length]) (.ref fI) (.ref (hp.length + 1) :: vs) (fun u h => u = .none ∧ W h)) : CallQ X hp (.ref C) vs (fun u h => u = .ref (hp.length + 1) ∧ W h) := by
  intro s m news al us Q E Z r k
  refine call_cls Z.F X.X Z.N hm hi hf fun x dx h' F' N' hlt hdx => ?_
  have hlen := Z.H.len
  have H1 := Z.H.push (o := dictOf [] 0) (ao := .dict []) hlt (.dict (.head _) .nil)
  have hlt2 : ∀ p ∈ (dx, dictOf [] 0) :: news, @LT.lt Nat _ p.1 x := fun p hp => by
    rcases List.mem_cons.mp hp with e | hp
    · rw [e]; exact hdx
    · exact Nat.lt_trans (hlt p hp) hdx
  have H2 := H1.push (o := instObj C dx) (ao := .inst C hp.length) hlt2 (.inst (.head _) (by rw [← hlen]; simp))
  have x1 : Ext news al ((x, instObj C dx) :: (dx, dictOf [] 0) :: news) (al ++ [dx] ++ [x]) := (Ext.push hlt).trans (Ext.push hlt2)
  have hx : (al ++ [dx] ++ [x])[hp.length + 1]? = some x := by
    rw [← hlen, List.getElem?_append_right (by simp)]; simp
  have hH : hp ++ [AO.dict []] ++ [.inst C hp.length] = hp ++ [.dict [], .inst C hp.length] := by simp
  rw [hH] at H2
  refine h (X.under (Nat.lt_of_succ_lt hroom) _) rfl (Nat.sub_add_cancel (Nat.le_of_lt hroom)) { s with heap := h' } m _ _ (.ref x :: us) _ ⟨F', N', H2⟩ (.cons (.ref hx) (r.mono x1)) fun u v hp2 h2 tk2 n2 a2 hW x2 ru C2 => ?_
  obtain ⟨e1, e2⟩ := hW
  subst e1
  cases ru
  exact ⟨rfl, k _ _ _ _ _ _ _ ⟨rfl, e2⟩ (x1.trans x2) (.ref (x2.get hx)) ⟨C2.F, C2.N, C2.H⟩⟩

/-! a chain of two comparisons -/
theorem t_chain {l r₁ r₂ : Expr} {op₁ op₂ : CmpOp} {p : Pos} {a b c : AV} {t₁ t₂ : Bool} (h1 : EvJ X loc hp l a hp) (h2 : EvJ X loc hp r₁ b hp) (h3 : EvJ X loc hp r₂ c hp) (c1 : CmpJ X hp op₁ a b t₁) (c2 : CmpJ X hp op₂ b c t₂)
    (hm : lastMarks [op₁, op₂] [r₁, r₂] = false := by with_unfolding_all rfl) : TestJ X loc hp (.Compare l [op₁, op₂] [r₁, r₂] p) (t₁ && t₂) hp := by
  intro s m news al Q E R k
  refine isTrue_chain (h1 _ _ _ _ _ _ R fun u1 g1 k1 n1 a1 x1 w1 R1 => ?_) hm
  refine test_link (h2 _ _ _ _ _ _ R1 fun u2 g2 k2 n2 a2 x2 w2 R2 => ?_)
  refine c1 _ _ _ _ _ _ _ _ R2.C (w1.mono x2) w2 fun g3 k3 n3 a3 x3 C3 => wpAny_truthy_bool ?_
  have x13 := (x1.trans x2).trans x3
  have R3 : RepS X loc hp g3 m n3 a3 := ⟨C3, R2.V.mono x3⟩
  cases t₁ with
  | false =>
    refine wp_neg ?_
    exact k _ _ _ _ x13 R3
  | true =>
    refine wp_pos ?_
    refine test_last (h3 _ _ _ _ _ _ R3 fun u4 g4 k4 n4 a4 x4 w4 R4 => ?_)
    exact c2 _ _ _ _ _ _ _ _ R4.C ((w2.mono x3).mono x4) w4 fun g5 k5 n5 a5 x5 C5 => wpAny_truthy_bool (k _ _ _ _ ((x13.trans x4).trans x5) ⟨C5, R4.V.mono x5⟩)

/-! pairs, alike -/
theorem eqAt_bytes {A : Around} {s : Shared} (x y : Array UInt8) (t u : Tok) : EqAt A s (.bytes x t) (.bytes y u) (x.toList == y.toList) := by
  intro prog w E Q h
  unfold eqBool
  refine wpAny_holding ?_
  refine wpAny_ite_split (fun hab => ?_) (fun hab => ?_)
  · have e : x = y := by have := eq_of_beq hab; injection this
    subst e
    exact wpAny_bind (wpAny_rule (wpAny_pure (by simpa using h)))
  · exact wpAny_bind (richCompare_gives (typeIs_bytes s x t) (typeIs_bytes s y u) FB.slot_bytes_eq FB.entry_bytes_eq (FB.args_bytes_eq_2 _ _) (gives_bytes_eq x y t u) (by simp [Made.takes]) (wpAny_truthy_bool h))
theorem c_ne_pair {a : Int} {b : List UInt8} (hr : 0 < X.room) : CmpJ X hp .NotEq (.tup [.int a, .bytes b]) (.tup [.int a, .bytes b]) false := fun s m news al u v Q E C r1 r2 k =>
  have q := k s.heap s.toks news al Ext.refl C
  r1.pairC fun a1 v1 v2 n hm g1 g2 => r2.pairC fun a2 w1 w2 n' hm' g3 g4 => by
    revert hm hm'
    refine g1.intC fun t1 => g2.bytesC fun t2 => g3.intC fun t3 => g4.bytesC fun t4 hm hm' => ?_
    have hA := (MeetsSeq.EqGives.int a a t1 t3).at (X.A.in1) s
    rw [beq_self_eq_true] at hA
    have hB := eqAt_bytes (A := X.A.in1) (s := s) b.toArray b.toArray t2 t4
    rw [beq_self_eq_true] at hB
    exact RcNeAt.tuples (A := X.A) (s := s) (e := fun _ => true) (isTupN C.N hm) (isTupN C.N hm') (X.un1 hr) (fun j => Nat.casesOn j (fun _ _ => hA) fun j => Nat.casesOn j (fun _ _ => hB) fun j h _ => absurd h (Nat.not_lt.mpr (Nat.le_add_left _ _))) X.prog X.w E Q q

/-! while -/
inductive WhileSt (X : FX) (J : Nat → Loc → Hp → Prop) (n0 : Led) (a0 : List Addr) (s₀ : Shared) : Nat → Shared → Prop
  | mk {i : Nat} {loc : Loc} {hp : Hp} {h : Heap} {tk : Nat} {m : Str → Option Value} {news : Led} {al : List Addr} (R : RepS X loc hp h m news al) (x : Ext n0 a0 news al) (hJ : J i loc hp) : WhileSt X J n0 a0 s₀ i { s₀ with heap := h, toks := tk }
theorem m_while {t : Expr} {body : List Stmt} {p : Pos} {B : Loc → Hp → Prop} (J : Nat → Loc → Hp → Prop) (n : Nat) (h0 : JW J n loc hp)
    (turn : ∀ k loc hp, J k loc hp → ∃ b hp1, TestJ X loc hp t b hp1 ∧ (b = false → B loc hp1) ∧
      (b = true → ExecJ X loc hp1 body (fun af l h => match af with
        | .next | .cont => ∃ j loc0, j < k ∧ LSub loc0 l ∧ J j loc0 h
        | .brk => B l h
        | .ret v => P (.ret v) l h))) : StmJ X loc hp (.While t body [] p) (LoopP B P) := by
  intro s m news al Q E R k
  obtain ⟨l0, hsub, hJ⟩ := h0
  refine wpAny_While (codeAny_whileLoop (WhileSt X J news al s) ?_ n (.mk ⟨R.C, R.V.weak hsub⟩ Ext.refl hJ))
  rintro j s' ⟨R', x', hJ⟩
  obtain ⟨b, hp1, ht, hB, hb⟩ := turn j _ _ hJ
  refine ht _ _ _ _ _ _ R' fun h2 tk2 n2 a2 x2 R2 => ?_
  cases b with
  | false => exact wp_neg (wpAny_execs_nil (k .next .next _ _ _ _ _ _ _ (hB rfl) .next (x'.trans x2) R2))
  | true =>
    refine wp_pos (hb rfl _ _ _ _ _ _ R2 fun fl af l3 hp3 h3 tk3 m3 n3 a3 hP hF x3 R3 => ?_)
    have x4 := (x'.trans x2).trans x3
    have fin : (∃ i l0, i < j ∧ LSub l0 l3 ∧ J i l0 hp3) → ∃ i, i < j ∧ WhileSt X J news al s i { s with heap := h3, toks := tk3 } := fun ⟨i, l0, hi, hsub, hJ3⟩ => ⟨i, hi, .mk ⟨R3.C, R3.V.weak hsub⟩ x4 hJ3⟩
    cases hF with
    | next => exact fin hP
    | cont => exact fin hP
    | brk => exact k .next .next _ _ _ _ _ _ _ hP .next x4 R3
    | ret r => exact k (.ret _) (.ret _) _ _ _ _ _ _ _ hP (.ret r) x4 R3
end
end Mine
end

section
set_option maxHeartbeats 1000000
open PySem PySem.W PyProof.Rows PySem.Calls PySem.SeqAt LSm
namespace Mine
section
variable {X : FX} {loc loc' : Loc} {hp hp1 hp2 hp3 g : Hp} {P P1 : Post}

/-- an entry that no abstract object is: neither tuple nor cell -/
noncomputable def Odd (o : Obj) : Prop := (∀ vs n, o ≠ tupObj vs n) ∧ ∀ v, o.data ≠ .cell v
theorem odd_of {o : Obj} (h : o.cls ≠ .type "tuple") (h2 : ∀ v, o.data ≠ .cell v) : Odd o := ⟨fun vs n e => h (by rw [e]), h2⟩
theorem odd_ne {h₀ h : Heap} {L I : Addr} {news : Led} {o : Obj} (N : News h₀ L h news) (ho : (I, o) ∈ news) (hd : Odd o) :
    (∀ a vs n, (a, tupObj vs n) ∈ news → a ≠ I) ∧ ∀ c ob u, (c, ob) ∈ news → ob.data = .cell u → c ≠ I := by
  refine ⟨fun a vs n hm e => ?_, fun c ob u hm hdt e => ?_⟩
  · have h1 := (N _ hm).1
    have h2 := (N _ ho).1
    rw [show a = I from e] at h1
    rw [h1] at h2
    cases h2
    exact hd.1 _ _ rfl
  · have h1 := (N _ hm).1
    have h2 := (N _ ho).1
    rw [show c = I from e] at h1
    rw [h1] at h2
    cases h2
    exact hd.2 _ hdt
/-- let go of an entry -/
theorem RepS.drop {h h' : Heap} {m : Str → Option Value} {news : Led} {al : List Addr} {I : Addr} {o : Obj} (R : RepS X loc hp h m news al) (ho : (I, o) ∈ news) (hd : Odd o) (hn : I ∉ al) (he : Heap.ExtBut I h h') :
    RepS X loc hp h' m (offA I news) al ∧ ∀ n0 a0, Ext n0 a0 news al → (∀ p ∈ n0, p.1 ≠ I) → Ext n0 a0 (offA I news) al := by
  obtain ⟨tN, cN⟩ := odd_ne R.C.N ho hd
  have hz := R.C.N _ ho
  obtain ⟨H2, hx0⟩ := R.C.H.drop hn tN
  refine ⟨⟨⟨⟨R.C.F.ns.at' fun o e => he _ o (fun q => hz.2.1 q.symm) e, fun b o e => he b o (fun q => ?_) (R.C.F.keep b o e), R.C.F.above⟩, fun p hp => ?_, H2⟩, R.V.mv hx0 fun c ob u hm hdt => offA_mem hm (cN c ob u hm hdt)⟩, fun n0 a0 x hI => ⟨⟨x.al, fun a vs n hm => offA_mem (x.tup _ _ _ hm) (tN a vs n (x.tup _ _ _ hm))⟩, fun p hp hn => offA_mem (x.keep p hp hn) (hI p hp), x.fresh⟩⟩
  · have h2 := hz.2.2
    rw [show (I, o).1 = b from q.symm, e] at h2; cases h2
  · have hq := R.C.N p (List.mem_filter.mp hp).1
    exact ⟨he _ _ (offA_ne p hp) hq.1, hq.2⟩
structure Tch (X : FX) (loc : Loc) (hp : Hp) (h' : Heap) (m : Str → Option Value) (news : Led) (al : List Addr) (I : Addr) (o' : Obj) : Prop where
  R : RepS X loc hp h' m ((I, o') :: offA I news) al
  x : ∀ n0 a0, Ext n0 a0 news al → (∀ p ∈ n0, p.1 ≠ I) → Ext n0 a0 ((I, o') :: offA I news) al
  x0 : Ext0 news al ((I, o') :: offA I news) al
/-- change an entry -/
theorem RepS.touch {h h' : Heap} {m : Str → Option Value} {news : Led} {al : List Addr} {I : Addr} {o o' : Obj} (R : RepS X loc hp h m news al) (ho : (I, o) ∈ news) (hd : Odd o) (hn : I ∉ al) (he : Heap.SameBut I h h') (hg : h'.get? I = some o') :
    Tch X loc hp h' m news al I o' := by
  obtain ⟨R1, x1⟩ := R.drop ho hd hn he.extBut
  have hz := R.C.N _ ho
  obtain ⟨tN, cN⟩ := odd_ne R.C.N ho hd
  have x2 : Ext (offA I news) al ((I, o') :: offA I news) al := Ext.sub fun p hp => .tail _ hp
  refine ⟨⟨⟨R1.C.F, fun p hp => ?_, R1.C.H.sub fun p hp => .tail _ hp⟩, R1.V.mono x2⟩, fun n0 a0 x hI => (x1 n0 a0 x hI).trans x2, ⟨⟨[], by simp⟩, fun a vs n hm => .tail _ (offA_mem hm (tN a vs n hm))⟩⟩
  rcases List.mem_cons.mp hp with e | hp
  · rw [e]; exact ⟨hg, hz.2⟩
  · exact R1.C.N p hp

/-- the element of a comprehension, at the int k -/
noncomputable def EltJ (X : FX) (sc : Scope) (cl : List (Str × Addr)) (x : Str) (k : Int) (hp : Hp) (elt : Expr) (v : AV) (hp' : Hp) : Prop :=
  ∀ s m news al loc C oC m₂ t (Q E : Value → Shared → Prop), RepS X loc hp s.heap m news al → (C, oC) ∈ news → LCg.NsObj oC m₂ → m₂ x = some (.int k t) →
    (∀ u h' tk news' al', Ext news al news' al' → VRep news' al' u v → RepS X loc hp' h' m news' al' → Q u { s with heap := h', toks := tk }) → wpAny X.M X.A (eval elt (compEnvC sc cl C X.env)) Q E s

theorem nsObj_odd {o : Obj} {m : Str → Option Value} (h : LCg.NsObj o m) : Odd o := by
  obtain ⟨es, ep, hd, _⟩ := h
  exact ⟨fun vs n e => (by rw [e] at hd; cases hd), fun v e => (by rw [e] at hd; cases hd)⟩

noncomputable def itO (a m : Int) : Obj := { cls := .type "range_iterator", dict := none, data := .fields #[rawInt a, rawInt m, rawInt 1], slots := #[] }
theorem itO_odd {a m : Int} : Odd (itO a m) := odd_of (by unfold itO; simp) fun v e => (by cases e)
inductive CompSt (X : FX) (loc : Loc) (m : Str → Option Value) (G : Nat → Hp) (val : Nat → AV) (n1 : Led) (a1 : List Addr) (l : Nat) (D I C : Addr) (a : Int) (n : Nat) (s : Shared) : Nat → Shared → Prop
  | mk {i : Nat} {h' : Heap} {tk : Nat} {news' : Led} {al' : List Addr} {oI oC : Obj} {m' : Str → Option Value} (hi : i ≤ n) (R : RepS X loc (G i ++ [.list ((List.range i).map val)]) h' m news' al') (x : Ext n1 a1 news' al') (hD : al'[l]? = some D)
    (hit : IsRangeIter h' I (a + (i : Int)) ((n : Int) - (i : Int)) 1) (hIm : (I, oI) ∈ news') (hId : Odd oI) (hIal : I ∉ al') (hCm : (C, oC) ∈ news') (hoC : LCg.NsObj oC m') (hCal : C ∉ al') : CompSt X loc m G val n1 a1 l D I C a n s (n - i) { s with heap := h', toks := tk }
theorem comp_loop {elt iter : Expr} {x : Str} {px pos : Pos} {sc : Scope} {cl : List (Str × Addr)} {a : Int} {n l : Nat} {G : Nat → Hp} {val : Nat → AV} {I D C : Addr} {n1 nC : Led} {a1 aD : List Addr} {m mC : Str → Option Value} {s : Shared} {h₁ : Heap} {tk1 : Nat} {oI oC : Obj} {Q E : Value → Shared → Prop}
    (hnb : n ≤ 1000000) (hGl : ∀ k, k ≤ n → (G k).length = l) (helt : ∀ k acc, k < n → EltJ X sc cl x (a + (k : Int)) (G k ++ [.list acc]) elt (val k) (G (k + 1) ++ [.list acc])) (hkind : sc.kind = .function) (hx : sc.names.lookup x = some .local)
    (RC : RepS X loc (G 0 ++ [.list []]) h₁ m nC aD) (x4 : Ext n1 a1 nC aD) (hD : aD[l]? = some D) (hst : IsRangeIter h₁ I (a + ((0 : Nat) : Int)) ((n : Int) - ((0 : Nat) : Int)) 1) (hIn : (I, oI) ∈ nC) (hoI : Odd oI) (hIa : I ∉ aD) (hCn : (C, oC) ∈ nC) (hoC : LCg.NsObj oC mC) (hCa : C ∉ aD)
    (hIC : I ≠ C) (hI0 : ∀ p ∈ n1, p.1 ≠ I) (hIn1 : ∀ p ∈ n1, p.1 ≠ C)
    (k : ∀ h' tk news' al', Ext n1 a1 news' al' → al'[l]? = some D → RepS X loc (G n ++ [.list ((List.range n).map val)]) h' m news' al' → Q (.ref D) { s with heap := h', toks := tk }) :
    codeAny X.M X.A (.compLoop (.ListComp elt [⟨.Name x px, iter, [], 0⟩] sc pos) 0 (.ref I) (.ref D) (compEnvC sc cl C X.env)) (compPost X.M X.A E none Q (.ref D) C) { s with heap := h₁, toks := tk1 } := by
  refine codeAny_compLoop_tests (CompSt X loc m G val n1 a1 l D I C a n s) ?_ n (.mk (i := 0) (Nat.zero_le _) RC x4 hD hst hIn hoI hIa hCn hoC hCa)
  rintro _ _ ⟨hi, R', x', hD', hit, hIm, hId, hIal, hCm, hoC', hCal⟩
  rename_i i h' tk news' al' oI oC m'
  clear RC x4 hD hst hIn hoI hIa hCn hoC hCa
  rcases Nat.lt_or_ge i n with hlt | hge
  · refine wpAny_pyNext_range_item hit (by omega) fun h2 hit2 hsb => ?_
    obtain ⟨R2, xx2, x02⟩ := R'.touch (o' := itO (a + (i : Int) + 1) ((n : Int) - (i : Int) - 1)) hIm hId hIal hsb hit2
    have hCm2 := List.Mem.tail (I, itO (a + (i : Int) + 1) ((n : Int) - (i : Int) - 1)) (offA_mem (a := I) hCm (fun e => hIC e.symm))
    have x2' := xx2 n1 a1 x' hI0
    refine wpAny_assign_Name (wpAny_storeName_local (lookup_relabel_local hx) (hoC'.ns (R2.C.N _ hCm2).1) (fun h3 hn3 hs3 => ?_) (by simp [compEnvC, relabel, hkind]))
    obtain ⟨oC3, he3, ho3⟩ := LCg.ns_obj hn3
    obtain ⟨R3, xx3, _⟩ := R2.touch hCm2 (nsObj_odd hoC') hCal hs3 he3
    have x3' := xx3 n1 a1 x2' hIn1
    refine wpAny_tests_nil ?_
    simp only [if_true]
    have hI3 : (I, itO (a + (i : Int) + 1) ((n : Int) - (i : Int) - 1)) ∈ (C, oC3) :: offA C ((I, itO (a + (i : Int) + 1) ((n : Int) - (i : Int) - 1)) :: offA I news') := .tail _ (offA_mem (.head _) hIC)
    refine helt i _ hlt _ _ _ _ _ C oC3 _ tk _ _ R3 (.head _) ho3 (by simp) fun u h4 tk4 n4 a4 x4' ru R4 => ?_
    have hGi : (G (i + 1)).length = l := hGl _ hlt
    have hD4 : a4[l]? = some D := x4'.get hD'
    have hlen : ((List.range i).map val).length ≤ 1000000 := by
      simp only [List.length_map, List.length_range]
      (exact Nat.le_trans (by assumption) (by assumption))
    have key := k_append (X := X) (hp := G (i + 1) ++ [.list ((List.range i).map val)]) (i := l) (l := (List.range i).map val) (v := val i) (by rw [← hGi]; simp) hlen
    refine key { s with heap := h4, toks := tk4 } m n4 a4 [.ref D, u] _ _ R4.C (.cons (.ref hD4) (.cons ru .nil)) fun u5 h5 tk5 n5 a5 x5 r5 C5 => ?_
    have x45 := x4'.trans x5
    have hI5 := x45.keep _ hI3 hIal
    have hC5 := x45.keep _ (.head _) hCal
    have e5 : (G (i + 1) ++ [AO.list ((List.range i).map val)]).set l (.list ((List.range i).map val ++ [val i])) = G (i + 1) ++ [.list ((List.range (i + 1)).map val)] := by
      rw [← hGi, set_new, List.range_succ, List.map_append]; rfl
    rw [e5] at C5
    refine ⟨n - (i + 1), Nat.sub_succ_lt_self _ _ hlt, .mk hlt ⟨C5, R4.V.mono x5⟩ (x3'.trans x45) (x5.get hD4) ?_ hI5 itO_odd (fun q => x45.fresh I q hIal _ hI3 rfl) hC5 ho3 (fun q => x45.fresh C q hCal _ (.head _) rfl)⟩
    have e1 : a + ((i + 1 : Nat) : Int) = a + (i : Int) + 1 := by push_cast; omega
    have e2 : (n : Int) - ((i + 1 : Nat) : Int) = (n : Int) - (i : Int) - 1 := by push_cast; omega
    rw [e1, e2]
    exact (C5.N _ hI5).1
  · have e : i = n := Nat.le_antisymm hi hge
    subst e
    refine wpAny_pyNext_range_end rfl hit (by omega) fun h2 he => ?_
    obtain ⟨R2, xx2⟩ := R'.drop hIm hId hIal he
    have hCm2 : (C, oC) ∈ offA I news' := offA_mem hCm (fun e => hIC e.symm)
    refine ⟨m', hoC'.ns (R2.C.N _ hCm2).1, fun h3 hs3 => ?_⟩
    obtain ⟨R3, xx3⟩ := R2.drop hCm2 (nsObj_odd hoC') hCal hs3.extBut
    exact k _ tk _ _ (xx3 n1 a1 (xx2 n1 a1 x' hI0) hIn1) hD' R3
theorem e_comp {elt iter : Expr} {x : Str} {px pos : Pos} {sc : Scope} {cl : List (Str × Addr)} {a b : Int} {n : Nat} (G : Nat → Hp) (val : Nat → AV) (hiter : RngJ X loc hp iter a b hp1) (hn : (if a < b then b - a else 0) = (n : Int)) (hnb : n ≤ 1000000) (h1 : -1000000 ≤ a) (h2 : a ≤ 1000000) (h3 : -1000000 ≤ b) (h4 : b ≤ 1000000)
    (hclos : closureFor sc X.env = pure cl) (hG0 : G 0 = hp1) (hGl : ∀ k, k ≤ n → (G k).length = hp1.length)
    (helt : ∀ k acc, k < n → EltJ X sc cl x (a + (k : Int)) (G k ++ [.list acc]) elt (val k) (G (k + 1) ++ [.list acc]))
    (hcell : ∀ y ∈ sc.names, y.2 ≠ .cell := by decide) (hkind : sc.kind = .function := by rfl)
    (hnames : ∀ y ∈ sc.names, y.2 = .local → sc.names.lookup y.1 = some .local := by decide) (hx : sc.names.lookup x = some .local := by rfl)
    (hs : ∀ x, foldedSetIterable iter X.env x = pure x := by intro _; rfl) :
    EvJ X loc hp (.ListComp elt [⟨.Name x px, iter, [], 0⟩] sc pos) (.ref hp1.length) (G n ++ [.list ((List.range n).map val)]) := by
  intro s m news al Q E R k
  rw [eval_ListComp]
  refine wpAny_comprehension_free (use := none) rfl hs hclos hkind hnames (hiter _ _ _ _ _ _ R fun r g1 tk1 t₁ u₁ v₁ n1 a1 x1 hr R1 => ?_)
  have hz : Builtin.Range.rangeSize a b 1 = (n : Int) := (rangeSize_one a b).trans hn
  refine wpAny_pyIter_range hr (small_of h1 h2 h3 h4) ?_
  have RI0 : RepS X loc hp1 (g1.push { cls := .type "range_iterator", data := .fields #[rawInt a, rawInt (Builtin.Range.rangeSize a b 1), rawInt 1] }) m ((g1.objs.size, ({ cls := .type "range_iterator", data := .fields #[rawInt a, rawInt (Builtin.Range.rangeSize a b 1), rawInt 1] } : Obj)) :: n1) a1 :=
    ⟨⟨R1.C.F.push _, News.push R1.C.F R1.C.N _, R1.C.H.sub fun p hp => .tail _ hp⟩, R1.V.mono (Ext.sub fun p hp => .tail _ hp)⟩
  have hst : IsRangeIter (g1.push { cls := .type "range_iterator", data := .fields #[rawInt a, rawInt (Builtin.Range.rangeSize a b 1), rawInt 1] }) g1.objs.size (a + ((0 : Nat) : Int)) ((n : Int) - ((0 : Nat) : Int)) 1 := by
    show Heap.get? _ _ = _
    rw [hz]
    simpa using Heap.get?_push_size _ rfl
  have hI0 : ∀ p ∈ n1, p.1 ≠ g1.objs.size := fun p hp => Nat.ne_of_lt (Heap.lt_size (R1.C.N p hp).1)
  have hIa : g1.objs.size ∉ a1 := fun q => by
    obtain ⟨j, hj⟩ := List.mem_iff_getElem?.mp q
    obtain ⟨ob, hob⟩ := R1.C.H.has hj
    exact hI0 _ hob rfl
  generalize hoI : ({ cls := .type "range_iterator", data := .fields #[rawInt a, rawInt (Builtin.Range.rangeSize a b 1), rawInt 1] } : Obj) = oI at RI0 hst ⊢
  have hoId : Odd oI := by rw [← hoI]; exact odd_of (by simp) fun v e => (by cases e)
  generalize hgI : g1.push oI = gI at RI0 hst ⊢
  have hsI : gI.objs.size = g1.objs.size + 1 := by rw [← hgI, Heap.size_push]
  have x2 : Ext n1 a1 ((g1.objs.size, oI) :: n1) a1 := Ext.sub fun p hp => .tail _ hp
  refine wpAny_newObj_type (wpAny_newFunctionEnv hcell (by intro y hy; simp at hy) (fun h₁ hns₁ hsb₁ => ?_) hkind)
  dsimp only at hns₁ hsb₁ ⊢
  have RD0 : RepS X loc (hp1 ++ [.list []]) (gI.push { cls := .type "list", dict := none, data := .seq ([] : List Value).toArray }) m ((gI.objs.size, listOf ([] : List Value).toArray 0) :: (g1.objs.size, oI) :: n1) (a1 ++ [gI.objs.size]) := by
    have hl : ∀ p ∈ (g1.objs.size, oI) :: n1, @LT.lt Nat _ p.1 gI.objs.size := fun p hp => Heap.lt_size (RI0.C.N p hp).1
    exact ⟨⟨RI0.C.F.push _, News.push RI0.C.F RI0.C.N _, RI0.C.H.push hl (.list (.head _) .nil)⟩, RI0.V.mono (Ext.push hl)⟩
  have x3 : Ext ((g1.objs.size, oI) :: n1) a1 ((gI.objs.size, listOf ([] : List Value).toArray 0) :: (g1.objs.size, oI) :: n1) (a1 ++ [gI.objs.size]) := Ext.push fun p hp => Heap.lt_size (RI0.C.N p hp).1
  have hD : (a1 ++ [gI.objs.size])[hp1.length]? = some gI.objs.size := by rw [← R1.C.H.len]; simp
  generalize hgD : gI.push { cls := .type "list", dict := none, data := .seq ([] : List Value).toArray } = gD at RD0 hns₁ hsb₁ ⊢
  have hsD : gD.objs.size = gI.objs.size + 1 := by rw [← hgD, Heap.size_push]
  generalize hnD : (gI.objs.size, listOf ([] : List Value).toArray 0) :: (g1.objs.size, oI) :: n1 = nD at RD0 x3
  have hIn : (g1.objs.size, oI) ∈ nD := by rw [← hnD]; exact .tail _ (.head _)
  generalize haD : a1 ++ [gI.objs.size] = aD at RD0 x3 hD
  have hstD : IsRangeIter gD g1.objs.size (a + ((0 : Nat) : Int)) ((n : Int) - ((0 : Nat) : Int)) 1 := by
    rw [← hgD]; exact Heap.get?_push_of_some _ hst
  have hCn : ∀ p ∈ nD, p.1 ≠ gD.objs.size := fun p hp => Nat.ne_of_lt (Heap.lt_size (RD0.C.N p hp).1)
  have hCa : gD.objs.size ∉ aD := fun q => by
    obtain ⟨j, hj⟩ := List.mem_iff_getElem?.mp q
    obtain ⟨ob, hob⟩ := RD0.C.H.has hj
    exact hCn _ hob rfl
  have hIaD : g1.objs.size ∉ aD := fun q => x3.fresh g1.objs.size q hIa _ (.head _) rfl
  have hIC : g1.objs.size ≠ gD.objs.size := hCn _ hIn
  have RC0 : RepS X loc (hp1 ++ [.list []]) (gD.push { cls := .type "dict", data := .dict #[] }) m ((gD.objs.size, { cls := .type "dict", data := .dict #[] }) :: nD) aD :=
    ⟨⟨RD0.C.F.push _, News.push RD0.C.F RD0.C.N _, RD0.C.H.sub fun p hp => .tail _ hp⟩, RD0.V.mono (Ext.sub fun p hp => .tail _ hp)⟩
  obtain ⟨oC, heC, hoC⟩ := LCg.ns_obj hns₁
  have hstC : IsRangeIter h₁ g1.objs.size (a + ((0 : Nat) : Int)) ((n : Int) - ((0 : Nat) : Int)) 1 := (hsb₁.2 g1.objs.size hIC).trans (Heap.get?_push_of_some _ hstD)
  obtain ⟨RC, xC, _⟩ := RC0.touch (.head _) (odd_of (by simp) fun v e => (by cases e)) hCa hsb₁ heC
  have x4 : Ext n1 a1 ((gD.objs.size, oC) :: offA gD.objs.size ((gD.objs.size, { cls := .type "dict", data := .dict #[] }) :: nD)) aD :=
    (x2.trans x3).trans (xC nD aD (Ext.sub fun p hp => .tail _ hp) hCn)
  have hIn2 : (g1.objs.size, oI) ∈ (gD.objs.size, oC) :: offA gD.objs.size ((gD.objs.size, { cls := .type "dict", data := .dict #[] }) :: nD) := .tail _ (offA_mem (.tail _ hIn) hIC)
  have hIn1 : ∀ p ∈ n1, p.1 ≠ gD.objs.size := fun p hp => by
    refine hCn p ?_
    rw [← hnD]; exact .tail _ (.tail _ hp)
  clear RC0 RD0 RI0 xC hnD x3 hst hstD
  have loop := fun (s₃ : Nat) => comp_loop (X := X) (loc := loc) (s := s) (tk1 := s₃) (elt := elt) (iter := iter) (px := px) (pos := pos) (cl := cl) (E := E) (Q := Q) (val := val) hnb hGl helt hkind hx (hG0 ▸ RC) x4 hD hstC hIn2 hoId hIaD (.head _) hoC hCa hIC hI0 hIn1 fun h' tk news' al' x hD R => k (.ref gI.objs.size) h' tk news' al' (x1.trans x) (.ref hD) R
  exact codeAny_compStart_list (loop _) (wpAny_pyIter_rangeiter hstC (loop _))
end
end Mine
end

section
set_option maxHeartbeats 1000000
open PySem PySem.W PyProof.Rows PySem.Calls
namespace Mine

/-- the ground of a frame again: what stood in g stands in h, but for the slots of the frames -/
theorem turn_ground {X : FX} {g h : Heap} {m : Str → Option Value} (FG : Fr X.h₀ X.L g m) (hk : ∀ b o, g.get? b = some o → b ≠ X.L → b ∉ X.outer.filterMap (·.frame) → h.get? b = some o) (hs : ∀ b o, g.get? b = some o → b = X.L ∨ b ∈ X.outer.filterMap (·.frame) → ∃ sl, h.get? b = some { o with slots := sl }) :
    ∃ X', Tu true X X' ∧ Fr X'.h₀ X'.L h m ∧ ∀ (p : Addr × Obj), g.get? p.1 = none → h.get? p.1 = some p.2 → (h.get? p.1 = some p.2 ∧ p.1 ≠ X'.L ∧ X'.h₀.get? p.1 = none) := by
  have nL := kts_self FG
  obtain ⟨oL, es, ep, hL, hLd, hLk, hLf⟩ := FG.ns
  obtain ⟨sl, hsl⟩ := hs _ _ hL (.inl rfl)
  have ne : ∀ b o, X.h₀.get? b = some o → b ≠ X.L := fun b o e z => by rw [z, nL] at e; cases e
  obtain ⟨T₁, S₁⟩ := kts_turn_at (h := h) (fs := X.outer.filterMap (·.frame)) (g := X.h₀)
    (fun b hb => let ⟨_, o, ho', _⟩ := X.B.frames.mem hb; ⟨o, ho'⟩)
    (fun b o e nm => hk b o (FG.keep b o e) (ne b o e) nm)
    (fun b o e hm => hs b o (FG.keep b o e) (.inr hm))
  have B₃ : Below X.A₀ X.base X.outer (ktsHeap h (X.outer.filterMap (·.frame)) X.h₀) := ⟨X.B.stack, fun b o e => T₁.other b o (X.B.stays b o e) (fun hm => by
    rw [(X.B.frames.mem hm).1] at e; cases e), X.B.frames.of_keeps fun b o e _ => by obtain ⟨sl', hs'⟩ := T₁.up e; exact ⟨_, hs', rfl⟩⟩
  refine ⟨X.turn _ B₃ (X.XB.keeps B₃.stays) (X.TB.keeps B₃.stays) (X.D.turn T₁), ⟨_, T₁, (fun h => by cases h), _, _, _, _⟩, ⟨⟨_, es, ep, hsl, hLd, hLk, hLf⟩, S₁, by rw [T₁.size]; exact FG.above⟩, fun p hn hp => ⟨hp, fun q => ?_, ?_⟩⟩
  · rw [show p.1 = X.L from q, hL] at hn; cases hn
  · exact T₁.none_ _ (kts_none FG.keep hn)
inductive Back (X : FX) (h : Heap) (m : Str → Option Value) (news : Led) : Prop
  | mk (X' : FX) (hT : Tu true X X') (F : Fr X'.h₀ X'.L h m) (N : News X'.h₀ X'.L h news) : Back X h m news
theorem ret_ground {X : FX} {g g' h2 : Heap} {m m2 : Str → Option Value} {L' : Addr} {news2 : Led} (FG : Fr X.h₀ X.L g m) (t : KtsTurn ((X.env :: X.outer).filterMap (·.frame)) g g') (F2 : Fr g' L' h2 m2) (N2 : News g' L' h2 news2) :
    Back X h2 m news2 := by
  obtain ⟨X', a, b, c⟩ := turn_ground (h := h2) FG (fun b o e n1 n2 => F2.keep b o (t.other b o e fun q => by
      rcases List.mem_cons.mp (show b ∈ X.L :: X.outer.filterMap (·.frame) from q) with z | z
      · exact n1 z
      · exact n2 z)) (fun b o e _ => by obtain ⟨sl', hs'⟩ := t.up e; exact ⟨sl', F2.keep _ _ hs'⟩)
  refine ⟨X', a, b, fun p hp => c p ?_ (N2 p hp).1⟩
  cases q : g.get? p.1 with
  | none => rfl
  | some o =>
    obtain ⟨sl', hs'⟩ := t.up q
    have := (N2 p hp).2.2
    rw [hs'] at this; cases this

/-- a call of f, the caller's ground shaken perhaps -/
noncomputable def CallG (v : Bool) (X : FX) (hp : Hp) (f : Value) (vs : List AV) (W : AV → Hp → Prop) : Prop :=
  ∀ s m news al us (Q E : Value → Shared → Prop), Core X hp s.heap m news al → VAll news al us vs →
    (∀ X' u a hp' h' tk news' al', Tu v X X' → W a hp' → Ext news al news' al' → VRep news' al' u a → Core X' hp' h' m news' al' → Q u { s with heap := h', toks := tk }) → wpAny X.M X.A (call f us) Q E s

section
variable {X : FX} {loc loc' : Loc} {hp hp1 hp2 hp3 : Hp} {P P1 : Post}

theorem callg_of {f : Addr} {xs : List Str} {vs : List AV} {W : AV → Hp → Prop} (loc0 : Loc) {body : List Stmt} {name qual : Str} {params : Arguments} {scope : Scope} {dV kV doc pm cdv ct oc : Value} {an od : Option Addr} {osl : Array (Option Value)}
    (ho : (hd.heap_39 X.w.params).lookup f = some ⟨oc, od, .func (fnOf name qual params body scope dV kV doc pm an cdv ct), osl⟩) (hcd : codeIn (hd.heap_39 X.w.params) cdv qual = true) (hroom : 0 < X.room)
    (hbind : ∀ us : List Value, us.length = vs.length → bindArgs (fnOf name qual params body scope dV kV doc pm an cdv ct) ⟨us, []⟩ = pure (xs.zip us))
    (hloc : ∀ y ∈ xs, scope.names.lookup y = some .local) (hl0 : (xs.zip vs).reverse = loc0)
    (h : ∀ Y : FX, Y.w = X.w → KS Y scope → Y.room + 1 = X.room → Y.cv = [] → ExecG true Y loc0 hp body (RetQ W))
    (hco : scope.isCoroutine = false) (hgen : scope.isGenerator = false) (hk : scope.kind = .function) (hcell : ∀ x ∈ scope.names, x.2 ≠ .cell) : CallG true X hp (.ref f) vs W := by
  intro s m news al us Q E C r k
  have XX := X.X.keeps C.F.keep
  obtain ⟨FG, BG, st, -⟩ := groundX (R := fun _ _ => True) (A := X.A) (env := X.env) X.B C.F C.N rfl rfl X.hk
  refine wpAny_call (codeAny_call_def (fd := fnOf name qual params body scope dV kV doc pm an cdv ct) (body := body) (binds := xs.zip us) X.dp1 (XX _ _ ho) rfl (X.T.nolimit.keeps C.F.keep) (codeRec_of XX hcd) rfl (BindsTo.of_eq (hbind us r.length)) hcell (fun y hy => hloc _ (zip_keys y hy)) (fun h₁ hns hk₁ => ?_) hco hgen hk)
  have F' : Fr (hideAll s.heap (news.map (·.1))) s.heap.objs.size h₁ (fun y => (xs.zip us).reverse.lookup y) := ⟨hns, fun b o e => hk₁ b o (of_hideAll _ e), Nat.le_of_eq (hideAll_size _ _)⟩
  have N' : News (hideAll s.heap (news.map (·.1))) s.heap.objs.size h₁ news := fun p hp => ⟨hk₁ _ _ (C.N p hp).1, Nat.ne_of_lt (Heap.lt_size (C.N p hp).1), hideAll_none _ (List.mem_map_of_mem hp)⟩
  let Y : FX := X.sub hroom qual scope f cdv [] [] (hideAll s.heap (news.map (·.1))) s.heap.objs.size BG (X.X.keeps fun b o q => st b o q) (X.T.keeps fun b o q => st b o q) (X.dicts FG) hk
  have hY := h Y rfl rfl (Nat.sub_add_cancel hroom) rfl
  subst hl0
  refine hY { s with heap := h₁, toks := s.toks + (xs.zip us).length } _ news al _ _ ⟨⟨F', N', C.H⟩, (r.zip xs).reverse.lrep, fun _ _ h => by cases h⟩ fun Y' fl af loc' hp2 h2 tk2 m2 n2 a2 hT hP hF x2 R2 => ?_
  obtain ⟨g', t, -, BB, KK, TT, DD⟩ := hT
  obtain ⟨X', hX', F3, N3⟩ := ret_ground FG t R2.C.F R2.C.N
  cases hF with
  | next => exact k X' _ _ _ _ _ _ _ hX' hP x2 .none ⟨F3, N3, R2.C.H⟩
  | brk => exact hP.elim
  | cont => exact hP.elim
  | ret ru => exact k X' _ _ _ _ _ _ _ hX' hP x2 ru ⟨F3, N3, R2.C.H⟩

/-- one parameter, which stands in a cell -/
theorem callg_ofC {f : Addr} {x : Str} {v : AV} {W : AV → Hp → Prop} {body : List Stmt} {name qual : Str} {params : Arguments} {scope : Scope} {dV kV doc pm cdv ct oc : Value} {an od : Option Addr} {osl : Array (Option Value)}
    (ho : (hd.heap_39 X.w.params).lookup f = some ⟨oc, od, .func (fnOf name qual params body scope dV kV doc pm an cdv ct), osl⟩) (hcd : codeIn (hd.heap_39 X.w.params) cdv qual = true) (hroom : 0 < X.room)
    (hbind : ∀ u : Value, bindArgs (fnOf name qual params body scope dV kV doc pm an cdv ct) ⟨[u], []⟩ = pure [(x, u)])
    (hkd : scope.names.lookup x = some .cell) (hcf : ∀ n, cellsFrom n scope.names [] = [(x, n)])
    (h : ∀ Y : FX, Y.w = X.w → KS Y scope → Y.room + 1 = X.room → Y.cv = [(x, v)] → (∃ c, Y.cl = [(x, c)]) → ExecG true Y [] hp body (RetQ W))
    (hco : scope.isCoroutine = false) (hgen : scope.isGenerator = false) (hk : scope.kind = .function) : CallG true X hp (.ref f) [v] W := by
  intro s m news al us Q E C r k
  cases r with
  | @cons u us' v vs r1 r2 =>
  cases r2
  have XX := X.X.keeps C.F.keep
  obtain ⟨FG, BG, st, -⟩ := groundX (R := fun _ _ => True) (A := X.A) (env := X.env) X.B C.F C.N rfl rfl X.hk
  refine wpAny_call (codeAny_call_function X.dp1 (XX _ _ ho) rfl hco hgen rfl (codeRec_of XX hcd) ((BindsTo.of_eq (hbind u)) _ _ _ _ ?_))
  refine wpAny_newFunctionEnv_cells hk (kindsX (by simp [hkd]) _) fun env' he s' y => ?_
  subst he
  refine ⟨(X.T.nolimit.keeps C.F.keep).keeps y.toInCall.keep, codeAny_func ?_⟩
  obtain ⟨h₁, tk, rfl, _⟩ := y.done
  have hk₁ := y.toInCall.keep
  have hnd : ((cellsFrom 0 scope.names []).map (·.1)).Nodup := by rw [hcf]; simp
  obtain ⟨cells, NC, Y'⟩ := Cl.news (h₀ := s.heap) (Nat.le_refl _) fun n c hm => ⟨y.cell n c (lookup_of_mem_nodup (cellsFrom_names scope.names 0 (s.heap.objs.size + 1) [] [] rfl ▸ hnd) hm), y.above n c hm⟩
  have e1 : (bindL (envOfC qual scope s.heap.objs.size f cdv).kindOf [(x, u)] fun _ => none) = fun _ => none := by
    show (if (envOfC qual scope s.heap.objs.size f cdv).kindOf x = some NameKind.local then _ else _) = _
    rw [if_neg (by rw [show (envOfC qual scope s.heap.objs.size f cdv).kindOf x = some .cell from hkd]; simp)]
  have e2 : (bindC (envOfC qual scope s.heap.objs.size f cdv).kindOf [(x, u)] fun _ => none) x = some u := by
    unfold bindC bindC
    rw [if_neg (by rw [show (envOfC qual scope s.heap.objs.size f cdv).kindOf x = some .cell from hkd]; simp)]
    simp
  have F' : Fr (hideAll s.heap (news.map (·.1))) s.heap.objs.size h₁ (fun _ => none) := ⟨e1 ▸ y.toInCall.ns, fun b o e => hk₁ b o (of_hideAll _ e), Nat.le_of_eq (hideAll_size _ _)⟩
  rw [hcf] at Y'
  obtain ⟨o, rfl, hod⟩ := Y'.one
  replace hod : o.data = .cell (some u) := by rw [← e2]; exact hod
  have hlt : ∀ p ∈ news, @LT.lt Nat _ p.1 s.heap.objs.size := fun p hp => Heap.lt_size (C.N p hp).1
  have N' : News (hideAll s.heap (news.map (·.1))) s.heap.objs.size h₁ ((s.heap.objs.size + 1, o) :: news) := fun p hp => by
    rcases List.mem_cons.mp hp with e | hp
    · subst e
      have hq := NC _ (List.mem_singleton.mpr rfl)
      refine ⟨hq.1, hq.2.1, ?_⟩
      cases q : (hideAll s.heap (news.map (·.1))).get? (s.heap.objs.size + 1) with
      | none => rfl
      | some o => have := of_hideAll _ q; rw [hq.2.2] at this; cases this
    · exact ⟨hk₁ _ _ (C.N p hp).1, Nat.ne_of_lt (hlt p hp), hideAll_none _ (List.mem_map_of_mem hp)⟩
  let Y : FX := X.sub hroom qual scope f cdv [(x, s.heap.objs.size + 1)] [(x, v)] (hideAll s.heap (news.map (·.1))) s.heap.objs.size BG (X.X.keeps fun b o q => st b o q) (X.T.keeps fun b o q => st b o q) (X.dicts FG) hk
  have hY := h Y rfl rfl (Nat.sub_add_cancel hroom) rfl ⟨_, rfl⟩
  have x0 : Ext news al ((s.heap.objs.size + 1, o) :: news) al := Ext.sub fun p hp => .tail _ hp
  have hna : (s.heap.objs.size + 1 : Nat) ∉ al := fun q => by
    obtain ⟨i, hi⟩ := List.mem_iff_getElem?.mp q
    obtain ⟨ob, hob⟩ := C.H.has hi
    have := hlt _ hob
    exact absurd this (by show ¬ @LT.lt Nat _ (s.heap.objs.size + 1) s.heap.objs.size; omega)
  have hC : cellsFrom (s.heap.objs.size + 1) scope.names [] = [(x, s.heap.objs.size + 1)] := hcf _
  have R : RepS Y [] hp h₁ (fun _ => none) ((s.heap.objs.size + 1, o) :: news) al := ⟨⟨F', N', C.H.sub fun p hp => .tail _ hp⟩, fun _ _ e => (by cases e), fun y w e => by
    rw [List.lookup_cons] at e
    by_cases c : (y == x) = true
    · rw [c] at e
      cases e
      refine ⟨s.heap.objs.size + 1, o, u, ?_, .head _, hna, hod, r1.mono x0⟩
      show List.lookup y [(x, s.heap.objs.size + 1)] = _
      rw [List.lookup_cons, c]
    · rw [Bool.not_eq_true] at c
      rw [c] at e; cases e⟩
  show wpAny _ (X.A.deeper (envX qual scope s.heap.objs.size f cdv (cellsFrom (s.heap.objs.size + 1) scope.names []))) (execs body (envX qual scope s.heap.objs.size f cdv (cellsFrom (s.heap.objs.size + 1) scope.names []))) _ (fun e s' => wpAny _ (X.A.deeper (envX qual scope s.heap.objs.size f cdv (cellsFrom (s.heap.objs.size + 1) scope.names []))) (leaving (envX qual scope s.heap.objs.size f cdv (cellsFrom (s.heap.objs.size + 1) scope.names [])) e) _ _ s') _
  rw [hC]
  refine hY { s with heap := h₁, toks := tk } (fun _ => none) ((s.heap.objs.size + 1, o) :: news) al _ _ R fun Z fl af loc' hp2 h2 tk2 m2 n2 a2 hT hP hF x2 R2 => ?_
  obtain ⟨g', t, -, BB, KK, TT, DD⟩ := hT
  obtain ⟨X', hX', F3, N3⟩ := ret_ground FG t R2.C.F R2.C.N
  cases hF with
  | next => exact k X' _ _ _ _ _ _ _ hX' hP (x0.trans x2) .none ⟨F3, N3, R2.C.H⟩
  | brk => exact hP.elim
  | cont => exact hP.elim
  | ret ru => exact k X' _ _ _ _ _ _ _ hX' hP (x0.trans x2) ru ⟨F3, N3, R2.C.H⟩

/-! sequences -/
noncomputable def SeqG (v : Bool) (X : FX) (ss : List Stmt) (P : Post) : Post
  | .next, l, h => ∀ X', Tu v X X' → ExecG v X' l h ss P
  | .brk, l, h => P .brk l h
  | .cont, l, h => P .cont l h
  | .ret u, l, h => P (.ret u) l h
theorem x_thenG {v : Bool} {st : Stmt} {ss : List Stmt} (h1 : StmG v X loc hp st (SeqG v X ss P)) : ExecG v X loc hp (st :: ss) P := by
  intro s m news al Q E R k
  refine wpAny_execs_cons (h1 _ _ _ _ _ _ R fun X' fl af loc' hp' h' tk m' n' a' hT hP hF hx R' => ?_)
  cases hF with
  | next =>
    have h2 := hP X' hT
    obtain ⟨g', t, e, BB, KK, TT, DD⟩ := id hT
    exact h2 _ _ _ _ _ _ R' fun X2 fl2 af2 loc2 hp2 h2' tk2 m2 n2 a2 hT2 hP2 hF2 hx2 R2 => k _ _ _ _ _ _ _ _ _ _ (hT.trans hT2) hP2 hF2 (hx.trans hx2) R2
  | brk => exact k _ _ _ _ _ _ _ _ _ _ hT hP .brk hx R'
  | cont => exact k _ _ _ _ _ _ _ _ _ _ hT hP .cont hx R'
  | ret r => exact k _ _ _ _ _ _ _ _ _ _ hT hP (.ret r) hx R'
theorem x_goG {v : Bool} {st : Stmt} {ss : List Stmt} (h1 : GoJ X loc hp st loc' hp1) (h2 : ExecG v X loc' hp1 ss P) : ExecG v X loc hp (st :: ss) P := by
  intro s m news al Q E R k
  refine wpAny_execs_cons (h1 _ _ _ _ _ _ R fun fl af l p h' tk m' n' a' hP hF hx R' => ?_)
  obtain ⟨rfl, rfl, rfl⟩ := hP
  cases hF
  exact h2 _ _ _ _ _ _ R' fun X2 fl2 af2 loc2 hp2 h2' tk2 m2 n2 a2 hT2 hP2 hF2 hx2 R2 => k _ _ _ _ _ _ _ _ _ _ hT2 hP2 hF2 (hx.trans hx2) R2
theorem x_loopG {v : Bool} {st : Stmt} {ss : List Stmt} (h : StmG v X loc hp st (LoopP (fun l h => ∀ X', Tu v X X' → ExecG v X' l h ss P) P)) : ExecG v X loc hp (st :: ss) P :=
  x_thenG fun s m news al Q E R k => h _ _ _ _ _ _ R fun X' fl af l p h' tk m' n' a' hT hP hF hx R' => k X' fl af l p h' tk m' n' a' hT (by
    cases af with
    | next => exact hP
    | brk => exact hP.elim
    | cont => exact hP.elim
    | ret v => exact hP) hF hx R'
theorem x_ifG {v : Bool} {t : Expr} {b : Bool} {body orelse : List Stmt} {p : Pos} {ss : List Stmt} (h : TestJ X loc hp t b hp1) (h1 : b = true → ExecG v X loc hp1 body (SeqG v X ss P)) (h2 : b = false → ExecG v X loc hp1 orelse (SeqG v X ss P)) : ExecG v X loc hp (.If t body orelse p :: ss) P := by
  refine x_thenG fun s m news al Q E R k => wpAny_If (h _ _ _ _ _ _ R fun h' tk n1 a1 x1 R1 => ?_)
  cases b with
  | true =>
    refine wp_pos ?_
    exact h1 rfl _ _ _ _ _ _ R1 fun X' fl af l' p' h2 tk2 m2 n2 a2 hT hP hF x2 R2 => k _ _ _ _ _ _ _ _ _ _ hT hP hF (x1.trans x2) R2
  | false =>
    refine wp_neg ?_
    exact h2 rfl _ _ _ _ _ _ R1 fun X' fl af l' p' h2 tk2 m2 n2 a2 hT hP hF x2 R2 => k _ _ _ _ _ _ _ _ _ _ hT hP hF (x1.trans x2) R2
end
end Mine
end

section
set_option maxHeartbeats 1000000
open PySem PySem.W PyProof.Rows PySem.Calls
namespace Mine

/-- the exception e has been carried through the frames fs: what stood in h stands in h' -/
structure Shk (fs : List Addr) (e : Addr) (h h' : Heap) : Prop where
  keep : ∀ b o, h.get? b = some o → b ∉ fs → b ≠ e → h'.get? b = some o
  slot : ∀ b o, h.get? b = some o → b ≠ e → ∃ sl, h'.get? b = some { o with slots := sl }
theorem Shk.refl {fs : List Addr} {e : Addr} {h : Heap} : Shk fs e h h := ⟨fun _ _ q _ _ => q, fun _ o q _ => ⟨o.slots, q⟩⟩
/-- e as it flies -/
inductive FlyAt (h₀ h : Heap) (e C dx : Addr) (fl : Value) (T : Addr) : Prop
  | mk (oe : Obj) (vs : Array Value) (oT : Obj) (ts : Array Value) (he : h.get? e = some oe) (hc : oe.cls = .ref C) (hdx : oe.dict = some dx) (hd : oe.data = .fields vs) (h1 : vs[1]? = some (.ref T)) (hn : h₀.get? T = none) (hne : T ≠ e)
    (hT : h.get? T = some oT) (hdT : oT.data = .fields ts) (h3 : ts[3]? = some fl) : FlyAt h₀ h e C dx fl T

section
variable {M : Model} {A : Around} {E : Value → Shared → Prop} {s : Shared} {h₀ base : Heap} {env : Env} {outer : List Env} {L e C dx : Addr} {oe : Obj} {vs : Array Value} {fs : List Addr} {Q : Unit → Shared → Prop}

theorem Shk.frames {h h' : Heap} {l : List Env} {ws : Array Value} {ox : Obj} (S : Shk fs e h h') (hl : h.FunFrames base l) (he : h.get? e = some ox) (hd : ox.data = .fields ws) : h'.FunFrames base l :=
  hl.of_keeps fun b o ho hn => by
    obtain ⟨sl, q⟩ := S.slot b o ho fun z => by subst z; rw [he] at ho; cases ho; exact hn _ hd
    exact ⟨_, q, rfl⟩
theorem Shk.upd {h h' : Heap} {T : Addr} {f : Obj → Obj} (S : Shk fs e h h') (hT : h.get? T = none ∨ T = e) : Shk fs e h (h'.update T f) := by
  have hb : ∀ b o, h.get? b = some o → b ≠ e → T ≠ b := fun b o q n z => by
    rcases hT with hT | hT
    · rw [← z, hT] at q; cases q
    · exact n (z.symm.trans hT)
  exact ⟨fun b o q n1 n2 => (Heap.get?_update_other _ _ (hb b o q n2)).trans (S.keep b o q n1 n2), fun b o q n2 => by
    obtain ⟨sl, z⟩ := S.slot b o q n2
    exact ⟨sl, (Heap.get?_update_other _ _ (hb b o q n2)).trans z⟩⟩

theorem entry_any {head : Value} {hadNext : Bool} (hfr : A.frames = some (env :: outer)) (hl : s.heap.FunFrames base (env :: outer)) (hf : env.frame = some L) (hfs : ∀ b ∈ (env :: outer).filterMap (·.frame), b ∈ fs)
    (S : Shk fs e h₀ s.heap) (he : s.heap.get? e = some oe) (hc : oe.cls = .ref C) (hdx : oe.dict = some dx) (hd : oe.data = .fields vs) (hsz : 1 < vs.size)
    (h : ∀ h' T, Shk fs e h₀ h' → FlyAt h₀ h' e C dx (rawInt L) T → Q () { s with heap := h' }) :
    wpAny M A (do let a ← frameOf env; let pl ← entryPlaceOf L hadNext; let b ← EntryCells.newEntry head a .none (rawInt L) .none pl; setField (.ref e) 1 b) Q E s := by
  have hene : e ∉ (env :: outer).filterMap (·.frame) := fun hm => by
    obtain ⟨_, o, ho, hnf⟩ := hl.mem hm
    rw [he] at ho; cases ho; exact hnf vs hd
  refine wpAny_bind (wpAny_frameOf_fun hfr hl hf fun h₁ hs₁ => ?_)
  refine wpAny_bind (wpAny_entryPlaceOf fun pl hpl => ?_)
  unfold EntryCells.newEntry newFields
  refine wpAny_bind (wpAny_newObj_type ?_ (hpl.sizeOk5 _ _ _ _ _))
  have he₁ : h₁.get? e = some oe := (hs₁.2.1 e hene).trans he
  generalize hoT : ({ cls := .type "traceback", dict := none, data := .fields ([head, .ref L, .none, rawInt L, .none] ++ (if pl.isEmpty then List.replicate 6 Value.none else pl)).toArray } : Obj) = oT
  have hTd : ∃ ts, oT.data = .fields ts ∧ ts[3]? = some (rawInt L) := by
    rw [← hoT]; exact ⟨_, rfl, by first | (simp; done) | (rcases hpl with rfl | ⟨_, _, _, _, _, _, _, rfl⟩ <;> simp)⟩
  have hTf : oT.isFreed = false := by rw [← hoT]; rfl
  have he₂ := Heap.get?_push_of_some (h := h₁) oT he₁
  have hTe : h₁.objs.size ≠ e := Nat.ne_of_gt (Heap.lt_size he₁)
  have S₁ : Shk fs e h₀ h₁ := ⟨fun b o q n1 n2 => (hs₁.2.1 b fun hm => n1 (hfs b hm)).trans (S.keep b o q n1 n2), fun b o q n2 => by
    obtain ⟨sl, z⟩ := S.slot b o q n2
    obtain ⟨sl', z'⟩ := hs₁.2.2 b _ z
    exact ⟨sl', z'⟩⟩
  have hn : h₀.get? h₁.objs.size = none := by
    cases q : h₀.get? h₁.objs.size with
    | none => rfl
    | some o =>
      obtain ⟨sl, z⟩ := S₁.slot _ o q hTe
      exact absurd (Heap.lt_size z) (Nat.lt_irrefl _)
  have S₂ : Shk fs e h₀ (h₁.push oT) := ⟨fun b o q n1 n2 => Heap.get?_push_of_some _ (S₁.keep b o q n1 n2), fun b o q n2 => by
    obtain ⟨sl, z⟩ := S₁.slot b o q n2
    exact ⟨sl, Heap.get?_push_of_some _ z⟩⟩
  refine wpAny_setField he₂ hd hsz (h _ h₁.objs.size (S₂.upd (.inr rfl)) ?_)
  have hd₃ := Obj.data_mapFields hd (·.setIfInBounds 1 (Value.ref h₁.objs.size))
  obtain ⟨ts, h1, h2⟩ := hTd
  refine ⟨_, _, oT, ts, Heap.get?_update_self (Obj.mapFields (·.setIfInBounds 1 (Value.ref h₁.objs.size))) he₂ (Obj.isFreed_of_fields hd₃), (Obj.cls_mapFields _ _).trans hc, ?_, hd₃, by simp [hsz], hn, hTe, (Heap.get?_update_other (h₁.push oT) (Obj.mapFields (·.setIfInBounds 1 (Value.ref h₁.objs.size))) (Ne.symm hTe)).trans (Heap.get?_push_size h₁ hTf), h1, h2⟩
  obtain ⟨a, b, c, d⟩ := oe; cases hd; exact hdx

theorem fly_first (hfr : A.frames = some (env :: outer)) (hl : s.heap.FunFrames base (env :: outer)) (hf : env.frame = some L) (hfs : ∀ b ∈ (env :: outer).filterMap (·.frame), b ∈ fs)
    (he : s.heap.get? e = some oe) (hc : oe.cls = .ref C) (hdx : oe.dict = some dx) (hd : oe.data = .fields vs) (h1 : vs[1]? = some .none)
    (h : ∀ h' T, Shk fs e s.heap h' → FlyAt s.heap h' e C dx (rawInt L) T → Q () { s with heap := h' }) : wpAny M A (noteFrame (.ref e) env) Q E s := by
  unfold noteFrame
  simp only [hf]
  refine wpAny_bind (wpAny_field he hd h1 ?_)
  rw [if_neg (by decide)]
  exact entry_any hfr hl hf hfs Shk.refl he hc hdx hd (Array.getElem?_eq_some_iff.mp h1).1 h

theorem fly_next {T : Addr} (hfr : A.frames = some (env :: outer)) (hl : s.heap.FunFrames base (env :: outer)) (hf : env.frame = some L) (hfs : ∀ b ∈ (env :: outer).filterMap (·.frame), b ∈ fs)
    (S : Shk fs e h₀ s.heap) (Y : FlyAt h₀ s.heap e C dx .none T)
    (h : ∀ h' T, Shk fs e h₀ h' → FlyAt h₀ h' e C dx (rawInt L) T → Q () { s with heap := h' }) : wpAny M A (noteFrame (.ref e) env) Q E s := by
  obtain ⟨oe, vs, oT, ts, he, hc, hdx, hd, h1, hn, hne, hT, hdT, h3⟩ := Y
  unfold noteFrame
  simp only [hf]
  refine wpAny_bind (wpAny_field he hd h1 ?_)
  rw [if_pos (show (Value.ref T != Value.none) = true from by simp)]
  refine wpAny_bind (wpAny_field hT hdT h3 ?_)
  rw [if_neg (show ¬ ((Value.none == rawInt L) = true) from by simp [rawInt])]
  refine wpAny_bind (wpAny_setField hT hdT (Array.getElem?_eq_some_iff.mp h3).1 ?_)
  refine entry_any hfr (hl.of_keeps fun b o ho hnf => ⟨o, (Heap.get?_update_other _ _ fun z => ?_).trans ho, rfl⟩) hf hfs (S.upd (.inl hn)) ((Heap.get?_update_other _ _ hne).trans he) hc hdx hd (Array.getElem?_eq_some_iff.mp h1).1 h
  subst z
  rw [hT] at ho; cases ho; exact hnf ts hdT

theorem fly_flight {fl : Value} {T : Addr} (S : Shk fs e h₀ s.heap) (Y : FlyAt h₀ s.heap e C dx fl T)
    (h : ∀ h', Shk fs e h₀ h' → FlyAt h₀ h' e C dx .none T → Q () { s with heap := h' }) : wpAny M A (setFlight (.ref e) none) Q E s := by
  obtain ⟨oe, vs, oT, ts, he, hc, hdx, hd, h1, hn, hne, hT, hdT, h3⟩ := Y
  have hsz := (Array.getElem?_eq_some_iff.mp h3).1
  unfold setFlight
  refine wpAny_bind (wpAny_field he hd h1 ?_)
  rw [if_pos (show (Value.ref T != Value.none) = true from by simp)]
  refine wpAny_setField hT hdT hsz (h _ (S.upd (.inl hn)) ⟨oe, vs, _, _, (Heap.get?_update_other _ _ hne).trans he, hc, hdx, hd, h1, hn, hne, Heap.get?_update_self _ hT (Obj.isFreed_of_fields (Obj.data_mapFields hdT _)), Obj.data_mapFields hdT _, by simp [hsz]⟩)
end
end Mine
end

section
set_option maxHeartbeats 1000000
open PySem PySem.W PyProof.Rows PySem.Calls
namespace Mine
theorem n_len (q : Params) : nsIn (hd.heap_39 q) mainGlobals "len" = some none := by k_is
theorem n_list (q : Params) : nsIn (hd.heap_39 q) mainGlobals "list" = some none := by k_is
theorem n_bytes (q : Params) : nsIn (hd.heap_39 q) mainGlobals "bytes" = some none := by k_is
theorem n_min (q : Params) : nsIn (hd.heap_39 q) mainGlobals "min" = some none := by k_is
theorem n_max (q : Params) : nsIn (hd.heap_39 q) mainGlobals "max" = some none := by k_is
theorem n_range (q : Params) : nsIn (hd.heap_39 q) mainGlobals "range" = some none := by k_is
theorem n_sorted (q : Params) : nsIn (hd.heap_39 q) mainGlobals "sorted" = some none := by k_is
theorem n_enumerate (q : Params) : nsIn (hd.heap_39 q) mainGlobals "enumerate" = some none := by k_is
theorem bo_len : bootBuiltins "len" = some (.builtin "len") := by boot_fast
theorem bo_list : bootBuiltins "list" = some (.type "list") := by boot_fast
theorem bo_bytes : bootBuiltins "bytes" = some (.type "bytes") := by boot_fast
theorem bo_min : bootBuiltins "min" = some (.builtin "min") := by boot_fast
theorem bo_max : bootBuiltins "max" = some (.builtin "max") := by boot_fast
theorem bo_range : bootBuiltins "range" = some (.type "range") := by boot_fast
theorem bo_sorted : bootBuiltins "sorted" = some (.builtin "sorted") := by boot_fast
theorem bo_enumerate : bootBuiltins "enumerate" = some (.type "enumerate") := by boot_fast
theorem n_add_piece (q : Params) : nsIn (hd.heap_39 q) mainGlobals "add_piece" = some (some (.ref 41)) := by k_is
theorem n_taken_from (q : Params) : nsIn (hd.heap_39 q) mainGlobals "taken_from" = some (some (.ref 48)) := by k_is
theorem n_add_span (q : Params) : nsIn (hd.heap_39 q) mainGlobals "add_span" = some (some (.ref 55)) := by k_is
theorem n_cut_span (q : Params) : nsIn (hd.heap_39 q) mainGlobals "cut_span" = some (some (.ref 62)) := by k_is
theorem n_first_span (q : Params) : nsIn (hd.heap_39 q) mainGlobals "first_span" = some (some (.ref 69)) := by k_is
theorem n_without_spans (q : Params) : nsIn (hd.heap_39 q) mainGlobals "without_spans" = some (some (.ref 76)) := by k_is
theorem n_take (q : Params) : nsIn (hd.heap_39 q) mainGlobals "_law_take" = some (some (.ref 174)) := by k_is
theorem n_in (q : Params) : nsIn (hd.heap_39 q) mainGlobals "_law_incoming_right" = some (some (.ref 179)) := by k_is
theorem n_ref (q : Params) : nsIn (hd.heap_39 q) mainGlobals "_law_refusal" = some (some (.ref 186)) := by k_is
theorem n_fd (q : Params) : nsIn (hd.heap_39 q) mainGlobals "_law_first_due" = some (some (.ref 193)) := by k_is
theorem n_out (q : Params) : nsIn (hd.heap_39 q) mainGlobals "_law_outgoing_right" = some (some (.ref 198)) := by k_is
theorem n_CIn (q : Params) : nsIn (hd.heap_39 q) mainGlobals "CryptoIn" = some (some (.ref 107)) := by k_is
theorem n_COut (q : Params) : nsIn (hd.heap_39 q) mainGlobals "CryptoOut" = some (some (.ref 163)) := by k_is
theorem n_QE (q : Params) : nsIn (hd.heap_39 q) mainGlobals "QuicError" = some (some (.ref 31)) := by k_is
theorem kp_41 (q : Params) : keepIn (hd.heap_39 q) (.ref 41) = true := by k_is
theorem kp_48 (q : Params) : keepIn (hd.heap_39 q) (.ref 48) = true := by k_is
theorem kp_55 (q : Params) : keepIn (hd.heap_39 q) (.ref 55) = true := by k_is
theorem kp_62 (q : Params) : keepIn (hd.heap_39 q) (.ref 62) = true := by k_is
theorem kp_69 (q : Params) : keepIn (hd.heap_39 q) (.ref 69) = true := by k_is
theorem kp_76 (q : Params) : keepIn (hd.heap_39 q) (.ref 76) = true := by k_is
theorem kp_107 (q : Params) : keepIn (hd.heap_39 q) (.ref 107) = true := by k_is
theorem kp_163 (q : Params) : keepIn (hd.heap_39 q) (.ref 163) = true := by k_is
theorem kp_174 (q : Params) : keepIn (hd.heap_39 q) (.ref 174) = true := by k_is
theorem kp_179 (q : Params) : keepIn (hd.heap_39 q) (.ref 179) = true := by k_is
theorem kp_186 (q : Params) : keepIn (hd.heap_39 q) (.ref 186) = true := by k_is
theorem kp_193 (q : Params) : keepIn (hd.heap_39 q) (.ref 193) = true := by k_is
theorem kp_198 (q : Params) : keepIn (hd.heap_39 q) (.ref 198) = true := by k_is

section
variable {X : FX} {loc loc' : Loc} {hp hp1 hp2 hp3 g : Hp} {P P1 : Post}

theorem e_lenb {np p : Pos} {e : Expr} {b : List UInt8} (h : EvJ X loc hp e (.bytes b) hp1) (hx : X.env.kindOf "len" = some .globalImplicit) (hb : b.length ≤ 1000000)
    (hs : ∀ env, starEach [e] env = (false, eval e env) :: starEach [] env := by intro _; rfl)
    (hc : ∀ env, eval (.Call (.Name "len" np) [e] [] p) env = (do callWith p (← eval (.Name "len" np) env) [] (backTo p (starEach [e] env)) (backToKw p (keywordEach [] env))) := by intro _; rfl) : EvJ X loc hp (.Call (.Name "len" np) [e] [] p) (.int (b.length : Nat)) hp1 :=
  e_callb (es_cons h es_nil hs) (k_len_bytes hb) bo_len (n_len _) hx (by decide) (by decide) hs (by intro _; rfl) hc
theorem e_lenl {np p : Pos} {e : Expr} {i : Nat} {l : List AV} (h : EvJ X loc hp e (.ref i) hp1) (hi : hp1[i]? = some (.list l)) (hx : X.env.kindOf "len" = some .globalImplicit) (hb : l.length ≤ 1000000)
    (hs : ∀ env, starEach [e] env = (false, eval e env) :: starEach [] env := by intro _; rfl)
    (hc : ∀ env, eval (.Call (.Name "len" np) [e] [] p) env = (do callWith p (← eval (.Name "len" np) env) [] (backTo p (starEach [e] env)) (backToKw p (keywordEach [] env))) := by intro _; rfl) : EvJ X loc hp (.Call (.Name "len" np) [e] [] p) (.int (l.length : Nat)) hp1 :=
  e_callb (es_cons h es_nil hs) (k_len_list hi hb) bo_len (n_len _) hx (by decide) (by decide) hs (by intro _; rfl) hc
theorem e_copy {np p : Pos} {e : Expr} {i : Nat} {l : List AV} (h : EvJ X loc hp e (.ref i) hp1) (hi : hp1[i]? = some (.list l)) (hx : X.env.kindOf "list" = some .globalImplicit) (hb : l.length ≤ 1000000)
    (hs : ∀ env, starEach [e] env = (false, eval e env) :: starEach [] env := by intro _; rfl)
    (hc : ∀ env, eval (.Call (.Name "list" np) [e] [] p) env = (do callWith p (← eval (.Name "list" np) env) [] (backTo p (starEach [e] env)) (backToKw p (keywordEach [] env))) := by intro _; rfl) : EvJ X loc hp (.Call (.Name "list" np) [e] [] p) (.ref hp1.length) (hp1 ++ [.list l]) :=
  e_callt (es_cons h es_nil hs) (k_copy hi hb) bo_list (n_list _) hx (by decide) (by decide) hs (by intro _; rfl) hc
theorem e_bytesb {np p : Pos} {e : Expr} {b : List UInt8} (h : EvJ X loc hp e (.bytes b) hp1) (hx : X.env.kindOf "bytes" = some .globalImplicit)
    (hs : ∀ env, starEach [e] env = (false, eval e env) :: starEach [] env := by intro _; rfl)
    (hc : ∀ env, eval (.Call (.Name "bytes" np) [e] [] p) env = (do callWith p (← eval (.Name "bytes" np) env) [] (backTo p (starEach [e] env)) (backToKw p (keywordEach [] env))) := by intro _; rfl) : EvJ X loc hp (.Call (.Name "bytes" np) [e] [] p) (.bytes b) hp1 :=
  e_callt (es_cons h es_nil hs) k_bytes bo_bytes (n_bytes _) hx (by decide) (by decide) hs (by intro _; rfl) hc
theorem e_min {np p : Pos} {e e2 : Expr} {a b : Int} (h : EvJ X loc hp e (.int a) hp1) (h2 : EvJ X loc hp1 e2 (.int b) hp2) (hx : X.env.kindOf "min" = some .globalImplicit)
    (hs : ∀ env, starEach [e, e2] env = (false, eval e env) :: starEach [e2] env := by intro _; rfl) (hs2 : ∀ env, starEach [e2] env = (false, eval e2 env) :: starEach [] env := by intro _; rfl) (hpl : ∀ env, (backTo p (starEach [e2] env)).any (·.1) = false := by intro _; rfl)
    (hc : ∀ env, eval (.Call (.Name "min" np) [e, e2] [] p) env = (do callWith p (← eval (.Name "min" np) env) [] (backTo p (starEach [e, e2] env)) (backToKw p (keywordEach [] env))) := by intro _; rfl) : EvJ X loc hp (.Call (.Name "min" np) [e, e2] [] p) (.int (mn a b)) hp2 :=
  e_callb (es_cons h (es_cons h2 es_nil hs2) hs) k_min bo_min (n_min _) hx (by decide) (by decide) hs hpl hc
theorem e_max {np p : Pos} {e e2 : Expr} {a b : Int} (h : EvJ X loc hp e (.int a) hp1) (h2 : EvJ X loc hp1 e2 (.int b) hp2) (hx : X.env.kindOf "max" = some .globalImplicit)
    (hs : ∀ env, starEach [e, e2] env = (false, eval e env) :: starEach [e2] env := by intro _; rfl) (hs2 : ∀ env, starEach [e2] env = (false, eval e2 env) :: starEach [] env := by intro _; rfl) (hpl : ∀ env, (backTo p (starEach [e2] env)).any (·.1) = false := by intro _; rfl)
    (hc : ∀ env, eval (.Call (.Name "max" np) [e, e2] [] p) env = (do callWith p (← eval (.Name "max" np) env) [] (backTo p (starEach [e, e2] env)) (backToKw p (keywordEach [] env))) := by intro _; rfl) : EvJ X loc hp (.Call (.Name "max" np) [e, e2] [] p) (.int (mx a b)) hp2 :=
  e_callb (es_cons h (es_cons h2 es_nil hs2) hs) k_max bo_max (n_max _) hx (by decide) (by decide) hs hpl hc
/-- x.append(e) -/
theorem e_append {o e : Expr} {ap p : Pos} {i : Nat} {l : List AV} {v : AV} (h1 : EvJ X loc hp o (.ref i) hp1) (h2 : EvJ X loc hp1 e v hp2) (hi : hp1[i]? = some (.list l)) (hi2 : hp2[i]? = some (.list l)) (hb : l.length ≤ 1000000) (h3 : hp2.set i (.list (l ++ [v])) = hp3)
    (hs : ∀ env, starEach [e] env = (false, eval e env) :: starEach [] env := by intro _; rfl) {pl : Env → Sem Bool}
    (hc : ∀ env, eval (.Call (.Attribute o "append" ap) [e] [] p) env = (do let ov ← eval o env; standAt ap.atName; let (f, first) ← holding [ov] (getMethod ov "append" (pl env)); callWith p f first (backTo p (starEach [e] env)) []) := by intro _; rfl) :
    EvJ X loc hp (.Call (.Attribute o "append" ap) [e] [] p) .none hp3 :=
  h3 ▸ e_methl (pl := pl) h1 hi (es_cons h2 es_nil hs) (k_append hi2 hb) PySem.F.slot_list_append PySem.F.type_list_append hs (by intro _; rfl) hc
theorem not_inter (X : FX) : interactive X.env = false := by
  show interactive (envX X.cn X.cs X.L X.a X.ccd X.cl) = false
  unfold interactive
  simp [X.hk]
theorem g_expr' {e : Expr} {p : Pos} {v : AV} (h : EvJ X loc hp e v hp1) (hs : swapsWith e none p.line X.env = pure false) : GoJ X loc hp (.Expr e p) loc hp1 := g_expr h (not_inter X) hs
theorem g_swap2 {elts : List Expr} {kk : Nat} {tp p : Pos} {e : Expr} {x y : Str} {a b : AV} (h : EvJ X loc hp e (.tup [a, b]) hp1) (hw : swappedStores [.Tuple elts kk tp] e X.env = pure (some [x, y])) (hx : X.env.kindOf x = some .local) (hy : X.env.kindOf y = some .local)
    (hs : swapsWithSole [.Tuple elts kk tp] e p.line X.env = pure false := by rfl) : GoJ X loc hp (.Assign [.Tuple elts kk tp] e p) ((x, a) :: (y, b) :: loc) hp1 :=
  g_swap h hw (by intro z hz; rcases List.mem_cons.mp hz with e | hz; · rw [e]; exact hx
                  rw [List.mem_singleton.mp hz]; exact hy) rfl hs
theorem g_swap3 {elts : List Expr} {kk : Nat} {tp p : Pos} {e : Expr} {x y z : Str} {a b c : AV} (h : EvJ X loc hp e (.tup [a, b, c]) hp1) (hw : swappedStores [.Tuple elts kk tp] e X.env = pure (some [x, y, z])) (hx : X.env.kindOf x = some .local) (hy : X.env.kindOf y = some .local) (hz : X.env.kindOf z = some .local)
    (hs : swapsWithSole [.Tuple elts kk tp] e p.line X.env = pure false := by rfl) : GoJ X loc hp (.Assign [.Tuple elts kk tp] e p) ((x, a) :: (y, b) :: (z, c) :: loc) hp1 :=
  g_swap h hw (by intro q hq; rcases List.mem_cons.mp hq with e | hq; · rw [e]; exact hx
                  rcases List.mem_cons.mp hq with e | hq; · rw [e]; exact hy
                  rw [List.mem_singleton.mp hq]; exact hz) rfl hs
end
end Mine
end

section
set_option maxHeartbeats 1000000
open PySem PySem.W PyProof.Rows PySem.Calls PySem.Builtin PySem.Builtin.ObjectAttr
namespace Mine
noncomputable abbrev excMro (C : Addr) : List Value := [.ref C, .type "Exception", .type "BaseException", .type "object"]
noncomputable def strKey (e : DictEntry) : Bool := match e.key with | .str _ _ => true | _ => false
noncomputable def clsD (o : Obj) : ClassData := match o.data with | .cls cd => cd | _ => default
noncomputable def dES (o : Obj) : Array DictEntry := match o.data with | .dict es _ => es | _ => #[]
noncomputable def dEN (o : Obj) : Nat := match o.data with | .dict _ n => n | _ => 0
noncomputable def slO (o : Obj) (i : Nat) : Option Value := o.slots.getD i none
/-- the class C of the text derives from Exception, its names stand at N -/
noncomputable def exObj (o : Obj) (C N : Addr) : Obj := excClassObj (clsD o).name (clsD o).qualname C N (clsD o).bases (excMro C).tail true (clsD o).slotNames (clsD o).subclasses (clsD o).abstract (clsD o).collection o.dict (slO o 0) (slO o 1) (slO o 2) (slO o 3) (slO o 5) "Exception.__new__"
/-- its __init__ is f -/
inductive ExIn (K : Frag) (C N f : Addr) : Prop
  | mk {o n : Obj} (c : K.lookup C = some (exObj o C N)) (hn : K.lookup N = some n) (hd : n.data = .dict (dES n) (dEN n)) (hk : (dES n).toList.all strKey = true) (hi : nsFind (dES n) "__init__" = some (.ref f)) : ExIn K C N f
inductive ExAt (h : Heap) (C N f : Addr) : Prop
  | mk {o : Obj} {mN : Str → Option Value} (c : h.get? C = some (exObj o C N)) (n : h.Ns N mN) (i : mN "__init__" = some (.ref f)) : ExAt h C N f
inductive CdAt (K : Frag) (C : Addr) : Prop
  | mk {cd : ClassData} (c : clsIn K C = some cd) (m : cd.mro = excMro C) (d : cd.hasDict = true) : CdAt K C
theorem ex31 (q : Params) : ExIn (hd.heap_39 q) 31 30 28 := .mk (o := ((hd.heap_39 q).lookup 31).getD default) (n := ((hd.heap_39 q).lookup 30).getD default) (by kernel_rfl) (by kernel_rfl) (by kernel_rfl) (by kernel_rfl) (by kernel_rfl)
theorem ExIn.cls {K : Frag} {C N f : Addr} (e : ExIn K C N f) : CdAt K C := e.casesOn fun c _ _ _ _ => .mk (by unfold clsIn; rw [c]; rfl) rfl rfl
theorem ExIn.spec {K : Frag} {h : Heap} {C N f : Addr} (X : K.In h) (e : ExIn K C N f) : ExAt h C N f := e.casesOn fun c hn hd hk hi => .mk (X _ _ c) ⟨_, _, _, X _ _ hn, hd, fun e he => (by
    have := List.all_eq_true.mp hk e (by simpa using he)
    unfold strKey at this
    split at this
    · exact ⟨_, _, by assumption⟩
    · cases this), fun _ => rfl⟩ hi
theorem exc_refuse (x : Value) (C : Addr) : refuseLoop x "__setattr__" (excMro C) = pure () := by
  rw [refuseLoop_ref]; kernel_rfl

section
variable {prog : Program} {w : World} {A : Around} {s : Shared} {K : Frag} {x C : Addr} {R : Result → Shared → Prop} {name : Str} {v : Value}
theorem exc_open {ox : Obj} {od : Option Obj} {tk : Tok} {cd : ClassData} (X : K.In s.heap) (I : InstAt s.heap x ox C od) (hc : clsIn K C = some cd) (hcm : cd.mro = excMro C) (ht : takerIn K C name = some none)
    (h : ∀ b, wpAny (model prog w) A.in1 (storeInOwnDict (.ref x) (.ref C) (.str name tk) name v b) (fun fin s' => match fin with | .done f => R (.ok f) s' | .again c' => c'.quiet = true ∧ codeAny (model prog w) A c' R s') (fun e s' => R (.error e) s') s) :
    codeAny (model prog w) A (.call (.builtin "object.__setattr__") ⟨[.ref x, .str name tk, v], []⟩) R s := by
  have SF := PySem.F.store_object
  have sub : Looks (model prog w) s.heap (isInstance (.ref x) (.type "object")) true := I.type.andThen (looks_mroIn X (by unfold mroIn; rw [hc, Option.bind_some, hcm]; rfl))
  refine codeAny_call_builtin SF.slot.plain SF.entry (@check_slot (model prog w) _ _ s "object.__setattr__" "object" "__setattr__" (.ref x) [.str name tk, v] [] _ SF.kind SF.split sub (SF.args (.ref x) (.str name tk) v) ?_)
  obtain ⟨attr, ha, hr⟩ := Option.bind_eq_some_iff.mp ht
  have hm : Looks (model prog w) s.heap (mroOf (.ref C)) cd.mro := (looks_clsIn X hc).andThen .now
  have L3 : Looks (model prog w) s.heap (storeTaker? attr) none := by
    cases attr with
    | none => exact .now
    | some a =>
      obtain ⟨b, hb, hbn⟩ := Option.map_eq_some_iff.mp hr
      refine (looks_takesIn X hb).andThen ?_
      cases b
      · exact .now
      · cases hbn
  rw [osa_eq, refuse_eq]
  refine wpAny_bind (wpAny_bind (I.type.here (wpAny_bind (hm.here ?_))))
  rw [hcm, exc_refuse]
  exact wpAny_pure (wpAny_bind (I.type.here (wpAny_bind ((looks_findIn X ha).here (wpAny_bind (L3.here (h _)))))))

theorem store_at {E : Value → Shared → Prop} {Q : PySem.Fin → Shared → Prop} {dx : Addr} {tk : Tok} {es : List DictEntry} {n : Nat} (D : s.heap.get? dx = some (dictOf es n)) (hr : es.any (·.refKey) = false) (hz : es.length ≤ 100)
    (h : ∀ h', h'.get? dx = some (dictOf (putL name (PyData.keyHash w.params name) (.str name s.toks) v es) (putN name es n)) → (∀ b, b ≠ dx → h'.get? b = s.heap.get? b) → h'.objs.size = s.heap.objs.size → Q (.done (.ret .none)) { s with heap := h', toks := s.toks + 1 }) :
    wpAny (model prog w) A (storeInDict dx (.str name tk) name v) Q E s := by
  unfold storeInDict
  refine wpAny_bind (m := newKeyGuard dx name (.str name tk)) (wpAny_pure (wpAny_bind ?_))
  unfold nsSet
  refine wpAny_bind (wpAny_bind (wpAny_askSetting (wpAny_pure (wpAny_bind (wpAny_mkText (wpAny_bind (wpAny_loadPart D ?_)))))))
  dsimp only
  have c : (!es.toArray.any (·.key.isStr name) && es.toArray.any (·.refKey)) = false := by
    rw [List.any_toArray, List.any_toArray, hr, Bool.and_false]
  rw [aRefKeyMayBeTheName_at, c]
  have D' := Heap.get?_update_self (Obj.putName name (PyData.keyHash w.params name) (.str name s.toks) v) D (by rw [putName_dict]; rfl)
  rw [putName_dict] at D'
  refine wpAny_updatePart D ?_
  refine wpAny_bind (wpAny_lookBehind D' ?_ (wpAny_pure (h _ D' (fun b hb => Heap.get?_update_other _ _ (Ne.symm hb)) (Heap.size_update ..))))
  refine pastItsLine_dict ?_
  have hl : (putL name (PyData.keyHash w.params name) (.str name s.toks) v es).length ≤ es.length + 1 := by
    clear hz hr D D' c h
    induction es with
    | nil => simp [putL]
    | cons e r ih => unfold putL; split <;> simp <;> assumption
  rw [List.size_toArray, sizeLine_eq]; omega
end
end Mine
end

section
set_option maxHeartbeats 1000000
open PySem PySem.W PyProof.Rows PySem.Calls PySem.Builtin PySem.Builtin.ObjectAttr
namespace Mine
section
variable {X : FX} {loc loc' : Loc} {hp hp1 hp2 hp3 : Hp} {P P1 : Post}
theorem Core.touch {h h' : Heap} {m : Str → Option Value} {news : Led} {al : List Addr} {a : Addr} {i : Nat} {o o' : Obj} {ao : AO} (Z : Core X hp h m news al) (ha : al[i]? = some a) (hm : (a, o) ∈ news) (hs : Heap.SameBut a h h') (hg : h'.get? a = some o') (hc : o.cls ≠ .type "tuple")
    (hr : Ext news al ((a, o') :: offA a news) al → ORep ((a, o') :: offA a news) al a ao) : Core X (hp.set i ao) h' m ((a, o') :: offA a news) al ∧ Ext news al ((a, o') :: offA a news) al := by
  obtain ⟨H, x⟩ := Z.H.upd Z.N (o' := o') ha hm hc hr
  have q := Z.N _ hm
  refine ⟨⟨Z.F.change hs q.2.1 q.2.2, fun p hp => ?_, H⟩, x⟩
  rcases List.mem_cons.mp hp with e | hp
  · rw [e]; exact ⟨hg, q.2⟩
  · have q := Z.N p (List.mem_filter.mp hp).1
    exact ⟨(hs.2 p.1 (offA_ne p hp)).trans q.1, q.2⟩
@[elab_as_elim] theorem Core.exc0K {h : Heap} {m : Str → Option Value} {news : Led} {al : List Addr} {u : Value} {i : Nat} {C : Addr} {G : Value → Prop} (Z : Core X hp h m news al) (r : VRep news al u (.ref i)) (hi : hp[i]? = some (.exc C none))
    (k : ∀ a x, al[i]? = some a → (a, excObj C none x) ∈ news → G (.ref a)) : G u := by
  refine r.refC fun a ha => ?_
  obtain ⟨a', ha', ho⟩ := Z.H.addr hi
  cases Option.some.inj (ha.symm.trans ha')
  cases ho with
  | exc0 hm => exact k _ _ ha hm
@[elab_as_elim] theorem Core.exc1K {h : Heap} {m : Str → Option Value} {news : Led} {al : List Addr} {u : Value} {i d : Nat} {C : Addr} {fs : Loc} {G : Value → Prop} (Z : Core X hp h m news al) (r : VRep news al u (.ref i)) (hi : hp[i]? = some (.exc C (some d))) (hd : hp[d]? = some (.dict fs))
    (k : ∀ a dx x es n, al[i]? = some a → al[d]? = some dx → (a, excObj C (some dx) x) ∈ news → (dx, dictOf es n) ∈ news → EAll news al es fs → G (.ref a)) : G u := by
  refine r.refC fun a ha => ?_
  obtain ⟨a', ha', ho⟩ := Z.H.addr hi
  cases Option.some.inj (ha.symm.trans ha')
  obtain ⟨dx, hdx, ho2⟩ := Z.H.addr hd
  cases ho with
  | exc1 hm e =>
    cases Option.some.inj (e.symm.trans hdx)
    cases ho2 with
    | dict hm2 he => exact k _ _ _ _ _ ha e hm hm2 he
theorem EAll.strs {news : Led} {al : List Addr} {es : List DictEntry} {fs : Loc} (h : EAll news al es fs) : es.any (·.refKey) = false := by
  induction h with
  | nil => rfl
  | @cons e es y t d ds hk hv _ ih =>
    rw [List.any_cons, ih]
    have : e.refKey = false := by unfold DictEntry.refKey; rw [hk]
    rw [this]; rfl

theorem a_excattr {o : Expr} {name : Str} {p : Pos} {i : Nat} {C N f : Addr} {v : AV} (h : EvJ X loc hp o (.ref i) hp1) (he : ExIn (Mine.hd.heap_39 X.w.params) C N f)
    (hs : findIn (Mine.hd.heap_39 X.w.params) (.ref C) "__setattr__" = some (some (.builtin "object.__setattr__"))) (ht : takerIn (Mine.hd.heap_39 X.w.params) C name = some none)
    (hi : (hp1[i]? = some (.exc C none) ∧ hp2 = (hp1 ++ [AO.dict [(name, v)]]).set i (.exc C (some hp1.length))) ∨ ∃ d fs, hp1[i]? = some (.exc C (some d)) ∧ hp1[d]? = some (.dict fs) ∧ fs.length ≤ 50 ∧ hp2 = hp1.set d (.dict (putA name v fs))) :
    AsgJ X loc hp (.Attribute o name p) v loc hp2 := by
  intro s m news al u Q E R r k
  rw [assign_Attribute]
  refine wpAny_bind (wpAny_holding (h _ _ _ _ _ _ R fun u1 g1 t1 m1 a1 x1 r1 R1 => ?_))
  have XX := X.X.keeps R1.C.F.keep
  obtain ⟨hc, hcm, hcd⟩ := ExIn.cls he
  refine wpAny_bind (wpAny_standAt (wpAny_bind (wpAny_holding ?_)))
  rcases hi with ⟨hi, rfl⟩ | ⟨d, fs, hi, hd, hfl, rfl⟩
  · refine R1.C.exc0K r1 hi fun a x0 hal hm1 => ?_
    have I : InstAt g1 a (excObj C none x0) C none := ⟨(R1.C.N _ hm1).1, rfl, rfl, trivial⟩
    refine set_plain (s := { s with heap := g1, toks := t1 }) XX I hs (exc_open (s := { s with heap := g1, toks := t1 + 1 }) XX I hc hcm ht fun b => ?_)
    refine wpAny_bind (wpAny_pure (wpAny_bind (wpAny_bind (wpAny_loadPart (R1.C.N _ hm1).1 (wpAny_bind ((looks_clsIn XX hc).here ?_))))))
    rw [hcd]
    dsimp only
    rw [if_neg (by decide)]
    refine wpAny_bind (wpAny_alloc ?_)
    have hl : ∀ p ∈ m1, @LT.lt Nat _ p.1 g1.objs.size := fun p hp => Heap.lt_size (R1.C.N p hp).1
    have Z1 : Core X (hp1 ++ [.dict []]) (g1.push (dictOf [] 0)) m ((g1.objs.size, dictOf [] 0) :: m1) (a1 ++ [g1.objs.size]) :=
      ⟨R1.C.F.push _, News.push R1.C.F R1.C.N _, R1.C.H.push hl (.dict (.head _) .nil)⟩
    have xp : Ext m1 a1 ((g1.objs.size, dictOf [] 0) :: m1) (a1 ++ [g1.objs.size]) := Ext.push hl
    have hm1' := xp.keep
    have hal1 := xp.get hal
    have hD1 : (a1 ++ [g1.objs.size])[hp1.length]? = some g1.objs.size := by rw [← R1.C.H.len]; simp
    have hg2 := Heap.get?_update_self (fun o => { o with dict := some g1.objs.size }) (Heap.get?_push_of_some (dictOf [] 0) (R1.C.N _ hm1).1) rfl
    refine wpAny_bind (wpAny_update (Heap.get?_push_of_some _ (R1.C.N _ hm1).1) ?_)
    obtain ⟨Z2, x2⟩ := Z1.touch (h' := (g1.push (dictOf [] 0)).update a fun o => { o with dict := some g1.objs.size }) (ao := .exc C (some hp1.length)) hal1 (.tail _ hm1) (Heap.SameBut.update ..) hg2 (by simp) fun x => .exc1 (.head _) (x.get hD1)
    refine wpAny_pure (a := some g1.objs.size) ?_
    have hne : g1.objs.size ≠ a := Nat.ne_of_gt (Heap.lt_size (R1.C.N _ hm1).1)
    have hmd : (g1.objs.size, dictOf [] 0) ∈ (a, excObj C (some g1.objs.size) x0) :: offA a ((g1.objs.size, dictOf [] 0) :: m1) := .tail _ (offA_mem (.head _) hne)
    refine store_at (s := { s with heap := (g1.push (dictOf [] 0)).update a fun o => { o with dict := some g1.objs.size }, toks := t1 + 1 }) (es := []) (n := 0) (Z2.N _ hmd).1 rfl (Nat.zero_le _) fun h' hg hsame hsz => ?_
    obtain ⟨Z3, x3⟩ := Z2.touch (h' := h') (i := hp1.length) (ao := .dict [(name, v)]) (x2.get hD1) hmd ⟨hsz, hsame⟩ hg (by simp) fun x => .dict (.head _) (.cons rfl (r.mono ((x1.trans xp).trans (x2.trans x))) .nil)
    refine wpAny_release ?_
    have e : ((hp1 ++ [AO.dict []]).set i (.exc C (some hp1.length))).set hp1.length (.dict [(name, v)]) = (hp1 ++ [AO.dict [(name, v)]]).set i (.exc C (some hp1.length)) := by
      have hlt : i < hp1.length := hg_len hi
      simp [List.set_append, hlt]
    rw [e] at Z3
    exact k _ _ m _ _ ((x1.trans xp).trans (x2.trans x3)) ⟨Z3, R1.V.mono (xp.trans (x2.trans x3))⟩
  · refine R1.C.exc1K r1 hi hd fun a dx x0 es n hal hald hm1 hm2 hes => ?_
    have I : InstAt g1 a (excObj C (some dx) x0) C (some (dictOf es n)) := ⟨(R1.C.N _ hm1).1, rfl, rfl, (R1.C.N _ hm2).1⟩
    refine set_plain (s := { s with heap := g1, toks := t1 }) XX I hs (exc_open (s := { s with heap := g1, toks := t1 + 1 }) XX I hc hcm ht fun b => ?_)
    refine wpAny_bind (wpAny_pure (wpAny_bind (wpAny_bind (wpAny_loadPart (R1.C.N _ hm1).1 (wpAny_bind ((looks_clsIn XX hc).here ?_))))))
    rw [hcd]
    dsimp only
    rw [if_neg (by decide)]
    refine wpAny_pure (a := some dx) ?_
    refine store_at (s := { s with heap := g1, toks := t1 + 1 }) (R1.C.N _ hm2).1 hes.strs (by rw [hes.length]; (exact Nat.le_trans (by assumption) (Nat.le_of_ble_eq_true rfl))) fun h' hg hsame hsz => ?_
    obtain ⟨Z3, x3⟩ := R1.C.touch (h' := h') (ao := .dict (putA name v fs)) hald hm2 ⟨hsz, hsame⟩ hg (by simp) fun x => .dict (.head _) ((hes.mono x).put (r.mono (x1.trans x)))
    exact wpAny_release (k _ _ m _ _ (x1.trans x3) ⟨Z3, R1.V.mono x3⟩)
end
end Mine
end

section
set_option maxHeartbeats 1000000
open PySem PySem.W PyProof.Rows PySem.Calls PySem.Builtin PySem.Builtin.ObjectAttr
namespace Mine
theorem n_Exc (q : Params) : nsIn (hd.heap_39 q) mainGlobals "Exception" = some none := by k_is
theorem bo_Exc : bootBuiltins "Exception" = some (.type "Exception") := by boot_fast
theorem n_str (q : Params) : nsIn (hd.heap_39 q) mainGlobals "str" = some none := by k_is
theorem bo_str : bootBuiltins "str" = some (.type "str") := by boot_fast
theorem exc_ty : typeOf (.type "Exception") = pure (.type "type") := by kernel_rfl
theorem exc_stub : Manifest.isStub "Exception" = false := by decide +kernel
theorem exc_find (q : Params) : findCls (hd.heap_39 q) (.type "Exception") (.type "type") "__init__" = some (.val (.builtin "Exception.__init__")) := by kernel_rfl
noncomputable def isFnAt (K : Frag) (f : Addr) : Bool := match K.lookup f with | some o => o.cls == .type "function" | none => false
theorem fn28 (q : Params) : isFnAt (hd.heap_39 q) 28 = true := by kernel_rfl

section
variable {X : FX} {loc loc' : Loc} {hp hp1 hp2 hp3 : Hp} {P P1 : Post}
theorem e_strc {x : Str} {kk : Nat} {p : Pos} : EvJ X loc hp (.Constant (.str x) kk p) (.str x) hp := by
  intro s m news al Q E R k
  exact wpAny_Constant_str (k _ s.heap _ news al Ext.refl (.str _ _) R)
theorem e_adds {l r : Expr} {p : Pos} {x y : Str} (h1 : EvJ X loc hp l (.str x) hp1) (h2 : EvJ X loc hp1 r (.str y) hp2) (hz : x.length + y.length ≤ 1000) : EvJ X loc hp (.BinOp l .Add r p) (.str (x ++ y)) hp2 := by
  intro s m news al Q E R k
  refine wpAny_BinOp (h1 _ _ _ _ _ _ R fun u1 g1 t1 n1 a1 x1 r1 R1 => h2 _ _ _ _ _ _ R1 fun u2 g2 t2 n2 a2 x2 r2 R2 => ?_)
  cases r1; cases r2
  exact PyProof.Rows.add_str (fun t' tk => k _ g2 tk n2 a2 (x1.trans x2) (.str _ _) R2) (by rw [sizeLine_eq]; (exact Nat.le_trans (by assumption) (Nat.le_of_ble_eq_true rfl)))
theorem k_strint {i : Int} (hi : i.natAbs.log2 < 1920) : CallJ X hp (.type "str") [.int i] (.str (toString i)) hp := by
  intro s m news al us Q E C r k
  cases r with
  | cons r1 r2 =>
    cases r2; cases r1
    exact P.str_of_int hi (k _ s.heap _ _ _ Ext.refl (.str _ _) C)

theorem k_excinit {i : Nat} {C N f : Addr} {x : Str} (he : ExIn (Mine.hd.heap_39 X.w.params) C N f) (hi : hp[i]? = some (.exc C none)) : CallJ X hp (.builtin "Exception.__init__") [.ref i, .str x] .none hp := by
  intro s m news al us Q E Z r k
  refine r.twoC fun u1 u2 r1 r3 => ?_
  refine r3.strC fun t => ?_
  refine Core.exc0K Z r1 hi fun a x0 hal hm => ?_
  have XX := X.X.keeps Z.F.keep
  obtain ⟨hC, hN, -⟩ := ExIn.spec XX he
  obtain ⟨hh, g, d, t0, os⟩ := s
  dsimp only at Z hC k
  have F := F.excBase_Exception
  refine wpAny_call (codeAny_call_builtin F.init.plain F.initEntry (wpAny_check_init_sub F hC (Z.N _ hm).1 rfl ?_))
  unfold Builtin.«BaseException.__init__»
  dsimp only
  rw [if_neg (by simp)]
  unfold newTuple Builtin.BaseException.bexcPut
  have he₁ := Heap.get?_push_of_some (h := hh) (tupObj [.str x t] 0) (Z.N _ hm).1
  refine wpAny_bind (wpAny_newObj_type (wpAny_bind (wpAny_bind (wpAny_field he₁ rfl rfl (wpAny_bind (wpAny_setField he₁ rfl (by simp) ?_))))) (by show (1 : Nat) ≤ sizeLine; rw [sizeLine_eq]; decide))
  have Z1 : Core X hp (hh.push (tupObj [.str x t] 0)) m ((hh.objs.size, tupObj [.str x t] 0) :: news) al := ⟨Z.F.push _, News.push Z.F Z.N _, Z.H.sub fun p hp => .tail _ hp⟩
  have x1 : Ext news al ((hh.objs.size, tupObj [.str x t] 0) :: news) al := Ext.sub fun p hp => .tail _ hp
  have hg := Heap.get?_update_self (Obj.mapFields (·.setIfInBounds 0 (.ref hh.objs.size))) he₁ rfl
  obtain ⟨Z2, x2⟩ := Z1.touch (o' := excObj C none (.ref hh.objs.size)) (ao := .exc C none) hal (.tail _ hm) (Heap.SameBut.update ..) hg (by simp) fun x => .exc0 (.head _)
  have e : hp.set i (.exc C none) = hp := by
    obtain ⟨h1, h2⟩ := List.getElem?_eq_some_iff.mp hi
    rw [← h2, List.set_getElem_self]
  rw [e] at Z2
  have fin := k _ _ t0 _ _ (x1.trans x2) .none Z2
  clear Z2 x2 hg he₁ hm k r3 r1 e hC hN Z1 x1 Z r
  cases x0 <;> first | exact wpAny_letGo (wpAny_pure fin) | exact wpAny_pure (wpAny_pure fin) | skip

theorem e_excinit {np ap p : Pos} {e : Expr} {es : List Expr} {vs : List AV} {v : AV} {pl : Env → Sem Bool} (h1 : EvsJ X loc hp (e :: es) vs hp1) (h2 : CallJ X hp1 (.builtin "Exception.__init__") vs v hp2) (hx : X.env.kindOf "Exception" = some .globalImplicit)
    (hs : ∀ env, starEach (e :: es) env = (false, eval e env) :: starEach es env) (hpl : ∀ env, (backTo p (starEach es env)).any (·.1) = false)
    (hc : ∀ env, eval (.Call (.Attribute (.Name "Exception" np) "__init__" ap) (e :: es) [] p) env = (do let ov ← eval (.Name "Exception" np) env; standAt ap.atName; let (f, first) ← holding [ov] (getMethod ov "__init__" (pl env)); callWith p f first (backTo p (starEach (e :: es) env)) [])) :
    EvJ X loc hp (.Call (.Attribute (.Name "Exception" np) "__init__" ap) (e :: es) [] p) v hp2 := by
  intro s m news al Q E R k
  refine MethodCall_ (nm_built R (n_Exc _) bo_Exc hx (by decide) (by decide) ?_) (hc _)
  refine method_type R.C.F X.X exc_ty exc_stub (exc_find _) rfl ?_
  refine PyProof.Rows.callWith_builtin1 (h1 _ { s with toks := s.toks + 1 } _ _ _ _ _ R fun us g1 t1 n1 a1 x1 r1 R1 => ?_) (hs _) (hpl _)
  exact h2 _ _ _ _ _ _ _ R1.C r1 fun u g2 t2 n2 a2 x2 r2 C2 => k _ _ _ _ _ (x1.trans x2) r2 ⟨C2, R1.V.mono x2⟩

theorem callexc_of {C N fI : Addr} {vs : List AV} {W : Hp → Prop} (he : ExIn (Mine.hd.heap_39 X.w.params) C N fI) (hf : isFnAt (Mine.hd.heap_39 X.w.params) fI = true) (hroom : 1 < X.room) (hl : vs.length ≤ 100)
    (h : ∀ Y : FX, Y.w = X.w → Y.room + 1 = X.room → CodeQ Y (hp ++ [.exc C none]) (.ref fI) (.ref hp.length :: vs) (fun u h => u = .none ∧ W h)) : CallQ X hp (.ref C) vs (fun u h => u = .ref hp.length ∧ W h) := by
  intro s m news al us Q E Z r k
  have XX := X.X.keeps Z.F.keep
  obtain ⟨hC, hN, hi⟩ := ExIn.spec XX he
  obtain ⟨oI, hoI, hcI⟩ : ∃ oI, (Mine.hd.heap_39 X.w.params).lookup fI = some oI ∧ oI.cls = .type "function" := by
    unfold isFnAt at hf
    split at hf
    · exact ⟨_, by assumption, beq_iff_eq.mp hf⟩
    · cases hf
  obtain ⟨hh, g, d, t0, os⟩ := s
  dsimp only at Z hC hN XX k
  refine wpAny_call_exc_init F.excBase_Exception hC hN hi (XX _ _ hoI) hcI (fun h' e hm => ?_) (by rw [r.length, sizeLine_eq]; (exact Nat.le_trans (by assumption) (Nat.le_of_ble_eq_true rfl)))
  obtain ⟨t, ht, htn, htt⟩ := hm.there
  have hne : ∀ p ∈ news, p.1 ≠ e := fun p hp z => by
    have h1 := (Z.N p hp).1
    rw [z, hm.new] at h1; cases h1
  have hL : e ≠ X.L := fun z => by
    obtain ⟨o, es, ep, ho, _⟩ := Z.F.ns
    rw [← z, hm.new] at ho; cases ho
  have h0 : X.h₀.get? e = none := by
    cases q : X.h₀.get? e with
    | none => rfl
    | some o => have := Z.F.keep _ _ q; rw [hm.new] at this; cases this
  have N1 : News X.h₀ X.L h' ((e, excObj C none (.ref t)) :: news) := fun p hp => by
    rcases List.mem_cons.mp hp with e | hp
    · rw [e]; exact ⟨ht, hL, h0⟩
    · exact ⟨hm.keeps _ _ (Z.N p hp).1, (Z.N p hp).2⟩
  have H1 := Z.H.push' (o := excObj C none (.ref t)) (ao := .exc C none) hne (.exc0 (.head _))
  have x1 : Ext news al ((e, excObj C none (.ref t)) :: news) (al ++ [e]) := Ext.push' hne
  have hx : (al ++ [e])[hp.length]? = some e := by rw [← Z.H.len]; simp
  refine (h (X.under (Nat.lt_of_succ_lt hroom) _) rfl (Nat.sub_add_cancel (Nat.le_of_lt hroom))).call ⟨h', g, d, t0, os⟩ m _ _ (.ref e :: us) _ _ ⟨Z.F.kept hm.keeps, N1, H1⟩ (.cons (.ref hx) (r.mono x1)) fun u v hp2 h2 tk2 n2 a2 hW x2 ru C2 => ?_
  obtain ⟨rfl, e2⟩ := hW
  cases ru
  exact ⟨rfl, k _ _ _ _ _ _ _ ⟨rfl, e2⟩ (x1.trans x2) (.ref (x2.get hx)) ⟨C2.F, C2.N, C2.H⟩⟩
end
end Mine
end

section
set_option maxHeartbeats 1000000
open PySem PySem.W PyProof.Rows PySem.Calls PySem.Builtin PySem.Builtin.ObjectAttr
namespace Mine
theorem slot_exc_ga : Slot "Exception" "__getattribute__" "BaseException.__getattribute__" := .of (owner := "BaseException") (n := "__getattribute__") (by rw [typeLookup_type, builtinLookup_eq_fast]; kernel_rfl) (by decide +kernel) (by decide +kernel) (by decide +kernel)
    (by first | exact .inl (by decide +kernel) | exact .inr (by decide +kernel)) (by rw [isSubtype_type]; kernel_rfl)
section
variable {prog : Program} {w : World} {A : Around} {s : Shared} {K : Frag} {x C : Addr} {name : Str} {v : Value} {E : Value → Shared → Prop} {expr : Bool}
/-- a field of an exception of the text, read -/
theorem get_exc {ox : Obj} {od : Obj} {cd : ClassData} {Q : Value → Shared → Prop} (X : K.In s.heap) (I : InstAt s.heap x ox C (some od)) (hc : clsIn K C = some cd) (hcm : cd.mro = excMro C)
    (hga : findIn K (.ref C) "__getattribute__" = some (some (.builtin "BaseException.__getattribute__"))) (hgb : findIn K (.ref C) "__getattr__" = some none)
    (hf : findObj K C (some od) name = some (.value v)) (hh : handedIn v = true) (h : Q v { s with toks := s.toks + 1 }) : wpAny (model prog w) A (getAttr (.ref x) name expr) Q E s := by
  have hk : builtinKind "BaseException.__getattribute__" = some .slot := by decide +kernel
  have hsplit : splitId "BaseException.__getattribute__" = some ("BaseException", "__getattribute__") := by decide +kernel
  have sub : Looks (model prog w) s.heap (isInstance (.ref x) (.type "BaseException")) true := I.type.andThen (looks_mroIn X (by unfold mroIn; rw [hc, Option.bind_some, hcm]; rfl))
  have hx1 : ¬ ((onTheHeap (Value.ref C) && Value.builtin "BaseException.__getattribute__" == Value.builtin "object.__getattribute__") = true) := by
    rw [show (Value.builtin "BaseException.__getattribute__" == Value.builtin "object.__getattribute__") = false by decide +kernel, Bool.and_false]; decide
  have hx0 : ¬ ((expr && onTheHeap (Value.builtin "BaseException.__getattribute__")) = true) := by cases expr <;> decide
  obtain ⟨hp, g, d, t, os⟩ := s
  have L0 := I.type (M := model prog w)
  have L1 := looks_findIn (M := model prog w) X hga
  have L2 := looks_findIn (M := model prog w) X hgb
  unfold getAttr getAttrBy
  refine wpAny_bind (wpAny_mkText (wpAny_holding (wpAny_bind (L0.at (wpAny_bind (L1.at ?_))))))
  dsimp only
  rw [if_neg hx1]
  unfold getAttrByItsOwn
  refine wpAny_bind (m := hookBefore (.ref C)) (L2.at ?_)
  refine wpAny_bind (wpAny_attempt (wpAny_holding ?_))
  unfold callGetattribute
  rw [if_neg hx0]
  unfold boundAndCalled
  rw [slot_exc_ga.bind]
  refine wpAny_bind (wpAny_pure (wpAny_call (codeAny_call_builtin slot_exc_ga.plain F.entry_bexc_ga (@check_slot (model prog w) _ _ _ "BaseException.__getattribute__" "BaseException" "__getattribute__" (.ref x) [.str name t] [] _ hk hsplit sub (F.args_bexc_ga _ _) ?_))))
  have L3 := looks_find (M := model prog w) X I hf
  refine wpAny_bind (wpAny_pure (wpAny_bind (wpAny_pure (wpAny_bind (L0.at (wpAny_bind (L3.at ?_)))))))
  refine wpAny_pure ?_
  show wpAny _ _ (handedOut v) _ _ _
  rw [handedOut_of hh]; exact wpAny_pure h

/-- raise, of an exception made before -/
theorem raise_exc {N : Addr} {o : Obj} {env : Env} {y : Sem Value} {Q : Flow → Shared → Prop}
    (hh : A.handled = none)
    (h : wpAny (model prog w) A y (fun u s₁ => ∃ e dx z, u = .ref e ∧ s₁.heap.get? C = some (exObj o C N) ∧ s₁.heap.get? e = some (excObj C (some dx) z) ∧ E (.ref e) s₁) E s) :
    wpAny (model prog w) A (raiseStmt env (some y) none) Q E s := by
  have hcB : (Value.ref C :: (excMro C).tail).contains (.type "BaseException") = true := by rw [List.contains_cons, show (excMro C).tail.contains (.type "BaseException") = true from rfl, Bool.or_true]
  unfold raiseStmt
  refine wpAny_bind (wpAny_mono h (fun u s₁ h₁ => ?_) fun _ _ x => x)
  obtain ⟨e, dx, z, rfl, hC, he, hE⟩ := h₁
  unfold exObj at hC
  obtain ⟨hp, g, d, tk, os⟩ := s₁
  repeat (first | with_reducible refine wpAny_loadPart_at he ?_ | with_reducible refine wpAny_loadPart_at hC ?_ | (with_reducible refine wpAny_isSubtype_exc hC ?_; rw [hcB]) | wp_step)
  exact wpAny_raiseNew_none hh hE
end
end Mine
end

section
set_option maxHeartbeats 1000000
open PySem PySem.W PyProof.Rows PySem.Calls PySem.Builtin PySem.Builtin.ObjectAttr
namespace Mine
/-- e stands in the ledger as an exception of the text, which tells code 13 -/
inductive Thrown (news : Led) (al : List Addr) (C e dx : Addr) : Prop
  | mk (x : Value) (es : List DictEntry) (n : Nat) (t : Tok) (hm : (e, excObj C (some dx) x) ∈ news) (he : e ∉ al) (hd : (dx, dictOf es n) ∈ news) (hc : getL "code" es = some (some (.int 13 t))) : Thrown news al C e dx
noncomputable def RaiseJ (X : FX) (loc : Loc) (hp : Hp) (ss : List Stmt) (C : Addr) : Prop :=
  ∀ s m news al (Q : Flow → Shared → Prop) (E : Value → Shared → Prop), RepS X loc hp s.heap m news al →
    (∀ e dx h' tk news' al', Ext news al news' al' → Core X hp h' m news' al' → Thrown news' al' C e dx → (∀ p ∈ news, p.1 ≠ e) → E (.ref e) { s with heap := h', toks := tk }) → wpAny X.M X.A (execs ss X.env) Q E s
/-- what an exception leaves that has left the frame above X -/
inductive Left (X : FX) (hp : Hp) (m : Str → Option Value) (news : Led) (al : List Addr) (C e : Addr) (h' : Heap) : Prop
  | mk (dx T : Addr) (hr gg : Heap) (L3 : Addr) (m3 : Str → Option Value) (news' : Led) (al' : List Addr) (FG : Fr X.h₀ X.L gg m) (F3 : Fr gg L3 hr m3) (N3 : News gg L3 hr news') (H3 : HRep news' al' hp) (x : Ext news al news' al') (hT : Thrown news' al' C e dx) (hfr : ∀ p ∈ news, p.1 ≠ e)
    (S : Shk (L3 :: X.L :: X.outer.filterMap (·.frame)) e hr h') (Y : FlyAt hr h' e C dx .none T) : Left X hp m news al C e h'
noncomputable def CallR (X : FX) (hp : Hp) (f : Value) (vs : List AV) (C : Addr) : Prop :=
  ∀ s m news al us (Q E : Value → Shared → Prop), Core X hp s.heap m news al → VAll news al us vs →
    (∀ e h' tk, Left X hp m news al C e h' → E (.ref e) { s with heap := h', toks := tk }) → wpAny X.M X.A (call f us) Q E s
noncomputable def EvR (X : FX) (loc : Loc) (hp : Hp) (e : Expr) (C : Addr) : Prop :=
  ∀ s m news al (Q E : Value → Shared → Prop), RepS X loc hp s.heap m news al →
    (∀ x h' tk news' al', Ext news al news' al' → VR X news' al' m loc → Left X hp m news' al' C x h' → (∀ p ∈ news, p.1 ≠ x) → E (.ref x) { s with heap := h', toks := tk }) → wpAny X.M X.A (eval e X.env) Q E s
theorem Left.fresh {X : FX} {hp : Hp} {m : Str → Option Value} {news : Led} {al : List Addr} {C e : Addr} {h' : Heap} (h : Left X hp m news al C e h') : ∀ p ∈ news, p.1 ≠ e := h.casesOn fun _ _ _ _ _ _ _ _ _ _ _ _ _ _ f _ _ => f
theorem Ext.addr {n0 n1 : Led} {a0 a1 : List Addr} {hp1 : Hp} (x : Ext n0 a0 n1 a1) (H : HRep n1 a1 hp1) {p : Addr × Obj} (hp : p ∈ n0) : ∃ o, (p.1, o) ∈ n1 := by
  by_cases h : p.1 ∈ a0
  · obtain ⟨k, hk⟩ := List.mem_iff_getElem?.mp h
    exact H.has (x.get hk)
  · exact ⟨_, x.keep p hp h⟩
section
variable {X : FX} {loc loc' : Loc} {hp hp1 hp2 hp3 : Hp} {P P1 : Post} {C N f : Addr}

theorem rj_if {t : Expr} {body orelse : List Stmt} {p : Pos} {ss : List Stmt} (h : TestJ X loc hp t true hp) (h1 : RaiseJ X loc hp body C) : RaiseJ X loc hp (.If t body orelse p :: ss) C := by
  intro s m news al Q E R k
  refine wpAny_execs_cons (wpAny_If (h _ _ _ _ _ _ R fun g1 t1 n1 a1 x1 R1 => ?_))
  refine wp_pos ?_
  refine h1 _ _ _ _ _ _ R1 fun e dx h' tk n2 a2 x2 C2 hT hf => k _ _ _ _ _ _ (x1.trans x2) C2 hT fun p hp z => ?_
  obtain ⟨o, ho⟩ := x1.addr R1.C.H hp
  exact hf _ ho z
theorem rj_raise {ce : Expr} {pos : Pos} {ss : List Stmt} {fs : Loc} (h : EvJ X loc hp ce (.ref hp.length) (hp ++ [.exc C (some (hp.length + 1)), .dict fs])) (hf : List.lookup ("code" : Str) fs = some (AV.int 13)) (he : ExIn (Mine.hd.heap_39 X.w.params) C N f) : RaiseJ X loc hp (.Raise (some ce) none pos :: ss) C := by
  intro s m news al Q E R k
  refine wpAny_execs_cons ?_
  rw [arm_exec_Raise]
  obtain ⟨hC, hN, -⟩ := ExIn.spec X.X he
  rename_i o mN
  show wpAny X.M X.A (do standAt pos; raiseStmt X.env (some (do let v ← eval ce X.env; standAt pos; pure v)) none) _ E s
  refine wpAny_bind (wpAny_standAt (raise_exc (C := C) (N := N) (o := o) rfl (wpAny_bind ?_)))
  refine h _ _ _ _ _ _ R fun u g1 t1 n1 a1 x1 r1 R1 => wpAny_bind (wpAny_standAt (wpAny_pure ?_))
  refine R1.C.exc1K r1 (C := C) (d := hp.length + 1) (fs := fs) (show (hp ++ [AO.exc C (some (hp.length + 1)), .dict fs])[hp.length]? = some (.exc C (some (hp.length + 1))) by simp) (show (hp ++ [AO.exc C (some (hp.length + 1)), .dict fs])[hp.length + 1]? = some (.dict fs) by rw [List.getElem?_append_right (by omega)]; simp) fun e dx x es n hal hald hm1 hm2 hes => ?_
  obtain ⟨u, hu, ru⟩ := hes.get hf
  cases ru
  have hea : e ∉ al := fun q => by
    obtain ⟨i, hi⟩ := List.mem_iff_getElem?.mp q
    have h1 := nodup_get R1.C.H.nd (x1.get hi) hal
    have h2 := (List.getElem?_eq_some_iff.mp hi).1
    rw [R.C.H.len] at h2; omega
  obtain ⟨R', x'⟩ := R.cut x1 R1
  exact ⟨e, dx, x, rfl, R1.C.F.keep _ _ hC, (R1.C.N _ hm1).1, k e dx _ _ _ _ x' R'.C ⟨x, es, n, _, hm1, hea, hm2, hu⟩ fun p hp z => x1.fresh e (List.mem_of_getElem? hal) hea p hp z⟩

theorem callr_of {xs : List Str} {vs : List AV} (loc0 : Loc) {fn : Addr} {body : List Stmt} {name qual : Str} {params : Arguments} {scope : Scope} {dV kV doc pm cdv ct oc : Value} {an od : Option Addr} {osl : Array (Option Value)}
    (ho : (hd.heap_39 X.w.params).lookup fn = some ⟨oc, od, .func (fnOf name qual params body scope dV kV doc pm an cdv ct), osl⟩) (hcd : codeIn (hd.heap_39 X.w.params) cdv qual = true) (hroom : 0 < X.room)
    (hbind : ∀ us : List Value, us.length = vs.length → bindArgs (fnOf name qual params body scope dV kV doc pm an cdv ct) ⟨us, []⟩ = pure (xs.zip us))
    (hloc : ∀ y ∈ xs, scope.names.lookup y = some .local) (hl0 : (xs.zip vs).reverse = loc0)
    (h : ∀ Y : FX, Y.w = X.w → KS Y scope → Y.room + 1 = X.room → RaiseJ Y loc0 hp body C)
    (hco : scope.isCoroutine = false) (hgen : scope.isGenerator = false) (hk : scope.kind = .function) (hcell : ∀ x ∈ scope.names, x.2 ≠ .cell) : CallR X hp (.ref fn) vs C := by
  intro s m news al us Q E Z r k
  refine wpAny_call (code_def X.B Z.F X.X Z.N X.T rfl rfl X.hk ho hcd X.dp1 (BindsTo.of_eq (hbind us r.length)) (fun y hy => hloc _ (zip_keys y hy)) (fun gg L' h₁ FG F' N' B' X' T' => ?_) hco hgen hk hcell)
  have hY := h (X.sub hroom qual scope fn cdv [] [] gg L' B' X' T' (X.dicts FG) hk) rfl rfl (Nat.sub_add_cancel hroom)
  subst hl0
  refine hY { s with heap := h₁, toks := s.toks + (xs.zip us).length } _ news al _ _ ⟨⟨F', N', Z.H⟩, (r.zip xs).reverse.lrep, fun _ _ h => by cases h⟩ fun e dx h2 tk2 n2 a2 x2 C2 hT hf => ?_
  obtain ⟨x, es, n, t, hm1, hea, hm2, hc⟩ := id hT
  have K := pushX (env := envOf qual scope L' fn cdv) B' C2.F rfl hk
  unfold leaving
  refine wpAny_bind (fly_first (fs := L' :: X.L :: X.outer.filterMap (fun (x : Env) => x.frame)) K.stack K.frames rfl (fun b hb => (show b ∈ L' :: X.L :: X.outer.filterMap (fun (x : Env) => x.frame) from hb)) (C2.N _ hm1).1 rfl rfl rfl rfl fun h3 T S3 Y3 => ?_)
  refine fly_flight (s := { s with heap := h3, toks := tk2 }) S3 Y3 fun h4 S4 Y4 => ?_
  exact k e h4 tk2 ⟨dx, T, h2, gg, L', _, n2, a2, FG, C2.F, C2.N, C2.H, x2, hT, hf, S4, Y4⟩

/-- a method of the text's own, that raises -/
theorem e_methR {o e : Expr} {es : List Expr} {name : Str} {ap p : Pos} {i d : Nat} {D fm : Addr} {fs : Loc} {vs : List AV} {pl : Env → Sem Bool} (h1 : EvJ X loc hp o (.ref i) hp) (hi : hp[i]? = some (.inst D d)) (hd : hp[d]? = some (.dict fs)) (hno : fs.lookup name = .none)
    (h2 : EvsJ X loc hp (e :: es) vs hp) (h3 : CallR X hp (.ref fm) (.ref i :: vs) C)
    (ck : CK X.w.params D) (hf : findIn (Mine.hd.heap_39 X.w.params) (.ref D) name = some (some (.ref fm))) (ht : isFn (Mine.hd.heap_39 X.w.params) (.ref fm) = true) (hkeep : keepIn (Mine.hd.heap_39 X.w.params) (.ref fm) = true)
    (hs : ∀ env, starEach (e :: es) env = (false, eval e env) :: starEach es env) (hpl : ∀ env, (backTo p (starEach es env)).any (·.1) = false)
    (hc : ∀ env, eval (.Call (.Attribute o name ap) (e :: es) [] p) env = (do let ov ← eval o env; standAt ap.atName; let (f, first) ← holding [ov] (getMethod ov name (pl env)); callWith p f first (backTo p (starEach (e :: es) env)) [])) :
    EvR X loc hp (.Call (.Attribute o name ap) (e :: es) [] p) C := by
  intro s m news al Q E R k
  refine MethodCall_ (h1 _ _ _ _ _ _ R fun u1 g1 t1 n1 a1 x1 r1 R1 => R1.C.instC r1 hi hd fun a dx ens n hal hald hm1 hm2 hes => method_inst R1.C.F X.X (R1.C.instAt hm1 hm2) ck.pg hf ht (hes.none hno) ?_) (hc _)
  refine callWith_K X.X hkeep (h2 _ _ _ _ _ _ _ R1 fun us g2 t2 n2 a2 x2 r2 R2 => ⟨X.X.keeps R2.C.F.keep, ?_⟩) (hs _) (hpl _)
  exact h3 _ _ _ _ _ _ _ R2.C (.cons (.ref (x2.get hal)) r2) fun x h' tk hL => k _ _ _ _ _ (x1.trans x2) R2.V hL fun p hp z => by
    have hfr := hL.fresh
    obtain ⟨o, ho⟩ := (x1.trans x2).addr R2.C.H hp
    exact hfr _ ho z
end
end Mine
end

section
set_option maxHeartbeats 1000000
open PySem PySem.W PyProof.Rows PySem.Calls PySem.Builtin PySem.Builtin.ObjectAttr
namespace Mine
section
variable {X : FX} {loc loc' : Loc} {hp hp1 hp2 hp3 : Hp} {P P1 : Post} {C N f : Addr}

inductive Caught (X : FX) (h : Heap) (m : Str → Option Value) (e : Addr) (news : Led) : Prop
  | mk (g : Heap) (B : Below X.A₀ X.base X.outer g) (K : (hd.heap_39 X.w.params).In g) (T : Top X.p X.loose X.mean X.mg X.mb g) (D : KtsDicts (X.outer.filterMap (·.frame)) g) (hT : Tu true X (X.turn g B K T D)) (F : Fr g X.L h m) (heL : e ≠ X.L) (he0 : g.get? e = none) (N : News g X.L h news) : Caught X h m e news
theorem catch_ground {hr h : Heap} {gg : Heap} {L3 e : Addr} {m m3 : Str → Option Value} {oe : Obj} {news' : Led} (FG : Fr X.h₀ X.L gg m) (F3 : Fr gg L3 hr m3) (N3 : News gg L3 hr news') (he : (e, oe) ∈ news') (S : Shk (L3 :: X.L :: X.outer.filterMap (·.frame)) e hr h) :
    Caught X h m e (offA e news') := by
  have ng : ∀ b o, gg.get? b = some o → b ≠ L3 ∧ b ≠ e := fun b o q => ⟨fun z => (by rw [z, kts_self F3] at q; cases q), fun z => (by have := (N3 _ he).2.2; rw [z] at q; rw [q] at this; cases this)⟩
  obtain ⟨X', hT, F, hN⟩ := turn_ground (h := h) FG (fun b o q n1 n2 => S.keep b o (F3.keep b o q) (fun hm => by
      rcases List.mem_cons.mp hm with z | hm
      · exact (ng b o q).1 z
      · rcases List.mem_cons.mp hm with z | hm
        · exact n1 z
        · exact n2 hm) (ng b o q).2) (fun b o q _ => S.slot b o (F3.keep b o q) (ng b o q).2)
  obtain ⟨g, t, -, B, K, T, D⟩ := id hT
  refine ⟨g, B, K, T, D, hT, F, fun z => ?_, t.none_ _ (kts_none FG.keep (N3 _ he).2.2), fun p hp => ?_⟩
  · obtain ⟨o, _, _, ho, _⟩ := FG.ns
    have := (N3 _ he).2.2
    rw [show (e, oe).1 = X.L from z, ho] at this; cases this
  have hq := N3 p (List.mem_filter.mp hp).1
  refine hN p hq.2.2 (S.keep _ _ hq.1 (fun hm => ?_) (offA_ne p hp))
  rcases List.mem_cons.mp hm with z | hm
  · exact hq.2.1 z
  · rcases List.mem_cons.mp hm with z | hm
    · obtain ⟨o, _, _, ho, _⟩ := FG.ns
      have := hq.2.2
      rw [show p.1 = X.L from z, ho] at this; cases this
    · obtain ⟨_, o, ho, _⟩ := X.B.frames.mem hm
      have := FG.keep _ _ ho
      rw [hq.2.2] at this; cases this

theorem x_try {ce : Expr} {np p1 p3 p4 p5 p6 p7 : Pos} {n x : Str} {ss : List Stmt} (h : EvR X loc hp ce C) (he : ExIn (Mine.hd.heap_39 X.w.params) C N f) (ex : nsIn (Mine.hd.heap_39 X.w.params) mainGlobals x = some (some (.ref C)))
    (hga : findIn (Mine.hd.heap_39 X.w.params) (.ref C) "__getattribute__" = some (some (.builtin "BaseException.__getattribute__"))) (hgb : findIn (Mine.hd.heap_39 X.w.params) (.ref C) "__getattr__" = some none)
    (hca : findIn (Mine.hd.heap_39 X.w.params) (.ref C) "code" = some none) (hhd : hasDictIn (Mine.hd.heap_39 X.w.params) C = true)
    (hx : X.env.kindOf x = some .globalImplicit) (hn : X.env.kindOf n = some .local) (hd1 : (x == ("__debug__" : Str)) = false) (hd2 : (n == ("__debug__" : Str)) = false)
    (hs : swapsWith ce none p1.line X.env = pure false) (hi : interactive X.env = false) (hP : P (.ret (.int 13)) [] hp) (hcv : X.cv = []) :
    ExecG true X loc hp (.Try [.Expr ce p1] [.ExceptHandler (some (.Name x np)) (some n) [.Return (some (.Attribute (.Name n p3) "code" p4)) p5] p6] [] [] p7 :: ss) P := by
  intro s m news al Q E R k
  refine wpAny_execs_cons (wpAny_Try_except (wpAny_execs_cons (wpAny_Expr_any (h _ _ _ _ _ _ R fun e h1 tk1 n1 a1 x1 V1 hL hfr0 => ?_) hi hs)))
  obtain ⟨dx, T, hr, gg, L3, m3, n2, a2, FG, F3, N3, H3, x2, ⟨y, es, nn, tt, hm1, hea, hm2, hcode⟩, hfr, S, Y⟩ := hL
  have l0 : gg.FunFrames X.base (X.env :: X.outer) := (pushX X.B FG rfl X.hk).frames
  have l1 : hr.FunFrames X.base (X.env :: X.outer) := l0.of_keeps fun b o ho _ => ⟨o, F3.keep b o ho, rfl⟩
  have hre := (N3 _ hm1).1
  refine fly_next (s := { s with heap := h1, toks := tk1 }) (fs := L3 :: X.L :: X.outer.filterMap (fun (x : Env) => x.frame)) rfl (S.frames l1 hre rfl) rfl (fun b hb => .tail _ (show b ∈ X.L :: X.outer.filterMap (fun (x : Env) => x.frame) from hb)) S Y fun h2 T2 S2 Y2 => ?_
  refine fly_flight (s := { s with heap := h2, toks := tk1 }) S2 Y2 fun h3 S3 Y3 => ?_
  obtain ⟨g3, B3, K3, TT3, D3, hT3, F3', heL, he0, -⟩ := catch_ground FG F3 N3 hm1 S3
  obtain ⟨hC, -, -⟩ := ExIn.spec (K3.keeps F3'.keep) he
  obtain ⟨oe, vs, -, -, hoe, hocls, hodict, hodata, -⟩ := id Y3
  refine wpAny_handleBy_cons (codeAny_handlers_test ?_) (by intro q; cases q)
  refine nameX_K (s := { s with heap := h3, toks := tk1 }) F3' K3 (topRead_of TT3) ex ?_ X.hk hx hd1
  refine wpAny_excMatches_sub_self (h := h3) hC hoe hocls rfl (codeAny_handlers_suite_as ?_)
  refine fly_flight (s := { s with heap := h3, toks := tk1 }) S3 Y3 fun h4 S4 Y4 => ?_
  obtain ⟨g4, B4, K4, TT4, D4, hT4, F4, heL4, he04, N4⟩ := catch_ground FG F3 N3 hm1 S4
  obtain ⟨oe4, vs4, -, -, hoe4, hocls4, hodict4, hodata4, -⟩ := id Y4
  have N4' : News g4 X.L h4 ((e, oe4) :: offA e n2) := fun p hp => by
    rcases List.mem_cons.mp hp with z | hp
    · rw [z]; exact ⟨hoe4, heL4, he04⟩
    · exact N4 p hp
  refine storeX_L (s := { s with heap := h4, toks := tk1 }) F4 N4' (fun h5 F5 N5 => ?_) X.hk hn
  have hde : dx ≠ e := fun z => by
    have h1 := (N3 _ hm1).1
    have h2 := (N3 _ hm2).1
    rw [show (dx, dictOf es nn).1 = e from z] at h2
    rw [h1] at h2; cases h2
  have I : InstAt h5 e oe4 C (some (dictOf es nn)) := ⟨(N5 _ (.head _)).1, hocls4, by unfold notCls; rw [hodata4], by rw [hodict4]; exact (N5 _ (.tail _ (offA_mem hm2 hde))).1⟩
  obtain ⟨hc, hcm, hcd⟩ := ExIn.cls he
  refine wpAny_execs_cons (wpAny_Return_some (Attribute_any_ (nameX_L (s := { s with heap := h5, toks := tk1 + 1 }) F5 (if_pos rfl) ?_ X.hk hn hd2)))
  refine get_exc (s := { s with heap := h5, toks := tk1 + 1 }) (K4.keeps F5.keep) I hc hcm hga hgb (findObj_own hhd hca rfl (by show getL "code" es = _; exact hcode)) rfl ?_
  refine wpAny_nameGoes hn F5.ns (by show (X.cs.kind == .class || (X.cs.kind == .module && X.L != mainGlobals)) = false; rw [X.hk]; rfl) fun h6 m6 hn6 hs6 => ?_
  have x12 : Ext news al n2 a2 := x1.trans x2
  have tN : ∀ a vs n, (a, tupObj vs n) ∈ n2 → a ≠ e := fun a vs n hm z => by
    have h1 := (N3 _ hm1).1
    have h2 := (N3 _ hm).1
    rw [show (a, tupObj vs n).1 = e from z] at h2
    rw [h1] at h2; cases h2
  obtain ⟨H5, x5⟩ := H3.drop hea tN
  have x6 : Ext news al (offA e n2) a2 := ⟨⟨x12.al, fun a vs n hm => offA_mem (x12.tup _ _ _ hm) (tN a vs n (x12.tup _ _ _ hm))⟩, fun p hp hn => offA_mem (x12.keep p hp hn) (hfr0 p hp), x12.fresh⟩
  exact k _ (.ret (.int 13 tt)) (.ret (.int 13)) [] hp h6 (tk1 + 1 + 1 + 1) m6 (offA e n2) a2 hT4 hP (.ret (.int _ _)) x6 ⟨⟨F5.set hn6 hs6, News.set (fun p hp => N5 p (.tail _ hp)) hs6, H5⟩, fun _ _ e => (by cases e), fun y v e => (by rw [show (X.turn g4 B4 K4 TT4 D4).cv = [] from hcv] at e; cases e)⟩
end
end Mine
end

section
set_option maxHeartbeats 1000000
open PySem PySem.W PyProof.Rows PySem.Calls
namespace Mine
noncomputable abbrev apc (p : Pc) : AV := .tup [.int p.1, .bytes p.2]

/-- the sort's tree of questions, run by an oracle -/
noncomputable def askRun {α : Type} (lt : Nat → Nat → Bool) (n : Nat) : KasT α → Option α
  | .ret a => some a
  | .ask i j k => if i < n ∧ j < n ∧ i ≠ j then askRun lt n (k (lt i j)) else none
noncomputable def posAt (n l i : Nat) : Nat := if i + 1 = n then l else if i < l then i else i + 1
noncomputable def insAt (n l : Nat) : List Nat := List.range l ++ (n - 1) :: (List.range (n - 1 - l)).map (· + l)
theorem sort_runs : ∀ n < 10, ∀ l < n, 2 ≤ n → (askRun (fun i j => decide (posAt n l i < posAt n l j)) n (kas_sort n)).map (·.toList) = some (insAt n l) := by decide +kernel
theorem run_wp {α : Type} {lt : Nat → Nat → Bool} {n : Nat} {cmp : Nat → Nat → (Bool → Shared → Prop) → Shared → Prop} {Q : α → Shared → Prop} {s : Shared} (hc : ∀ i j C, i < n → j < n → i ≠ j → C (lt i j) s → cmp i j C s) :
    ∀ (t : KasT α) (a : α), askRun lt n t = some a → Q a s → t.kasWp cmp Q s
  | .ret a, b, h, q => by cases h; exact q
  | .ask i j k, b, h, q => by
    unfold askRun at h
    split at h
    · rename_i hij
      exact hc i j _ hij.1 hij.2.1 hij.2.2 (run_wp hc (k (lt i j)) b h q)
    · cases h

theorem sorted_one {prog : Program} {w : World} {A : Around} {E : Value → Shared → Prop} {s : Shared} {h₀ : Heap} {L l : Addr} {m : Str → Option Value} {news : Led} {v : Value} {Q : Value → Shared → Prop} (F : Fr h₀ L s.heap m) (N : News h₀ L s.heap news) (hl : s.heap.IsList l [v].toArray)
    (h : ∀ D c h', Fr h₀ L h' m → News h₀ L h' ((D, listOf [v].toArray c) :: news) → (∀ q ∈ news, @LT.lt Nat _ q.1 D) → Q (.ref D) { s with heap := h' }) : wpAny (model prog w) A (call (.builtin "sorted") [.ref l]) Q E s := by
  refine Calls.call_function_entry kind_sorted plain_sorted entry_sorted (args_sorted1 _) ?_
  unfold Builtin.«sorted»
  refine wpAny_bind (m := checkCount "sorted" 1 1 _) (wpAny_pure ?_)
  refine wpAny_bind (collect_list hl ?_ (by rw [sizeLine_eq]; simp))
  refine wpAny_bind (wpAny_newList ?_ (by rw [sizeLine_eq]; simp))
  have hsz : ((s.heap.push (seqObj "list" #[] 0)).update s.heap.objs.size (Obj.mapSeq (· ++ [v].toArray))).objs.size = s.heap.objs.size + 1 := by
    rw [Heap.size_update, Heap.size_push]
  generalize hH : (s.heap.push (seqObj "list" #[] 0)).update s.heap.objs.size (Obj.mapSeq (· ++ [v].toArray)) = H at hsz
  have keep : ∀ b o, s.heap.get? b = some o → H.get? b = some o := fun b o q => by
    have hlt : b < s.heap.objs.size := Heap.lt_size q
    rw [← hH, Heap.get?_update_ne _ _ _ _ (Nat.ne_of_lt hlt)]
    exact Heap.get?_push_of_some _ q
  have F1 : Fr h₀ L H m := F.kept keep
  have N1 : News h₀ L H news := N.grown keep
  have hlt : ∀ p ∈ news, @LT.lt Nat _ p.1 H.objs.size := fun p hp => Heap.lt_size (N1 p hp).1
  have hDL : H.objs.size ≠ L := Nat.ne_of_gt F1.ns.lt
  have hD0 : h₀.get? H.objs.size = none := next_is_new F1
  have ho := Heap.get?_push_size H (o := seqObj "list" [v].toArray 0) rfl
  refine wpAny_bind (wpAny_holding (wpAny_call_entry (s := { s with heap := H.push (seqObj "list" [v].toArray 0) }) slot_list_sort ⟨_, ho, rfl⟩ entry_list_sort ?_ (args_list_sort _)))
  rw [list_sort_plain]
  refine wpAny_bind (listItems_at ho rfl ?_)
  refine wpAny_bind (listUpdate_at ho rfl ?_ (by rw [sizeLine_eq]; simp) (Nat.zero_le _))
  obtain ⟨e1, ho1⟩ : ∃ e1, ((H.push (seqObj "list" [v].toArray 0)).update H.objs.size (Obj.mapSeq fun _ => (#[] : Array Value))).get? H.objs.size = some (seqObj "list" #[] e1) := ⟨_, get?_update_seq ho fun _ => #[]⟩
  have s1 := Heap.SameBut.update (H.push (seqObj "list" [v].toArray 0)) H.objs.size (Obj.mapSeq fun _ => (#[] : Array Value))
  have F2 := ((F1.push (seqObj "list" [v].toArray 0)).change s1 hDL hD0)
  have N2 : News h₀ L _ news := fun p hp => ⟨(s1.2 p.1 (Nat.ne_of_lt (hlt p hp))).trans (Heap.get?_push_of_some _ (N1 p hp).1), (N1 p hp).2⟩
  generalize hG : (H.push (seqObj "list" [v].toArray 0)).update H.objs.size (Obj.mapSeq fun _ => (#[] : Array Value)) = G at ho1 F2 N2 s1
  refine wpAny_bind (seqEpoch_at (s := { s with heap := G }) ho1 rfl ?_)
  refine wpAny_bind (wpAny_newTuple ?_ (by rw [sizeLine_eq]; simp))
  refine wpAny_bind (wpAny_newList ?_ (Nat.zero_le _))
  refine wpAny_holding ?_
  have ho2 : ((G.push (seqObj "tuple" [v].toArray 0)).push (seqObj "list" #[] 0)).get? H.objs.size = some (seqObj "list" #[] e1) := Heap.get?_push_of_some _ (Heap.get?_push_of_some _ ho1)
  have F3 := (F2.push (seqObj "tuple" [v].toArray 0)).push (seqObj "list" #[] 0)
  have N3 : News h₀ L ((G.push (seqObj "tuple" [v].toArray 0)).push (seqObj "list" #[] 0)) news := N2.grown fun b x e => Heap.get?_push_of_some _ (Heap.get?_push_of_some _ e)
  generalize hK : (G.push (seqObj "tuple" [v].toArray 0)).push (seqObj "list" #[] 0) = K at ho2 F3 N3
  show wpAny (model prog w) A.in1.in1 _ _ E { s with heap := K }
  have hn2 : [v].toArray.size < 2 := by simp
  rw [if_pos hn2, if_pos hn2]
  refine wpAny_bind (wpAny_pure (wpAny_bind (wpAny_pure ?_)))
  dsimp only
  have hout : (arrOf (SortSt.mk' general' ([v].toArray.zip [v].toArray) #[] 7 none)).map (·.2) = [v].toArray := by
    show ([v].toArray.zip [v].toArray).map (·.2) = _
    simp
  rw [hout]
  refine wpAny_bind (seqEpoch_at (s := { s with heap := K }) ho2 rfl ?_)
  refine wpAny_bind (listUpdate_at (s := { s with heap := K }) ho2 rfl ?_ (Nat.zero_le _) (by rw [sizeLine_eq]; simp))
  simp only [bne_self_eq_false, Bool.false_eq_true, if_false]
  obtain ⟨c2, hc2⟩ : ∃ c2, (K.update H.objs.size (Obj.mapSeq fun _ => [v].toArray)).get? H.objs.size = some (seqObj "list" [v].toArray c2) := ⟨_, get?_update_seq ho2 fun _ => [v].toArray⟩
  have s2 := Heap.SameBut.update K H.objs.size (Obj.mapSeq fun _ => [v].toArray)
  refine wpAny_pure ⟨_, rfl, wpAny_pure ⟨_, rfl, h H.objs.size c2 _ (F3.change s2 hDL hD0) (fun p hp => ?_) hlt⟩⟩
  rcases List.mem_cons.mp hp with e | hp
  · rw [e]; exact ⟨hc2, hDL, hD0⟩
  · exact ⟨(s2.2 p.1 (Nat.ne_of_lt (hlt p hp))).trans (N3 p hp).1, (N3 p hp).2⟩

theorem VAll.firsts {h₀ h : Heap} {L : Addr} {news : Led} {al : List Addr} (N : News h₀ L h news) : ∀ {vs : List Value} {ps : List Pc}, VAll news al vs (ps.map apc) → ∃ fs, KatTups h vs fs ∧ fs.length = ps.length ∧ ∀ v ∈ fs, ∃ i t, v = .int i t
  | _, [], .nil => ⟨[], .nil, rfl, fun _ h => nomatch h⟩
  | _, p :: ps, .cons r1 r2 => by
    obtain ⟨fs, h1, h2, h3⟩ := r2.firsts N
    obtain ⟨a, v, w, n, rfl, hm, ra, rb⟩ := r1.pair
    cases ra with
    | int i t =>
      exact ⟨.int p.1 t :: fs, .cons (N _ hm).1 rfl rfl rfl h1, by simp [h2], fun x hx => by
        rcases List.mem_cons.mp hx with e | hx
        · exact ⟨_, _, e⟩
        · exact h3 x hx⟩
theorem posAt_last {m l : Nat} : posAt (m + 1) l m = l := if_pos rfl
theorem posAt_lo {m l i : Nat} (h : i < m) (g : i < l) : posAt (m + 1) l i = i := by rw [posAt, if_neg fun e => Nat.ne_of_lt h (Nat.succ.inj e), if_pos g]
theorem posAt_hi {m l i : Nat} (h : i < m) (g : ¬ i < l) : posAt (m + 1) l i = i + 1 := by rw [posAt, if_neg fun e => Nat.ne_of_lt h (Nat.succ.inj e), if_neg g]
structure Asc (f : Nat → Int) (m l : Nat) : Prop where
  asc : ∀ i j, i < j → j < m → f i < f j
  lo : ∀ i, i < m → i < l → f i < f m
  hi : ∀ i, i < m → l ≤ i → f m < f i
theorem Asc.lt {f : Nat → Int} {m l : Nat} (A : Asc f m l) {i j : Nat} (hi : i ≤ m) (hj : j ≤ m) (h : posAt (m + 1) l i < posAt (m + 1) l j) : f i < f j := by
  rcases Nat.lt_or_eq_of_le hi with a | rfl
  · rcases Nat.lt_or_eq_of_le hj with b | rfl
    · refine A.asc i j ?_ b
      by_cases c : i < l
      · rw [posAt_lo a c] at h
        by_cases d : j < l
        · rwa [posAt_lo b d] at h
        · exact Nat.lt_of_lt_of_le c (Nat.not_lt.mp d)
      · rw [posAt_hi a c] at h
        by_cases d : j < l
        · rw [posAt_lo b d] at h; exact Nat.lt_of_succ_lt h
        · rw [posAt_hi b d] at h; exact Nat.lt_of_succ_lt_succ h
    · rw [posAt_last] at h
      by_cases c : i < l
      · exact A.lo i a c
      · rw [posAt_hi a c] at h; exact absurd (Nat.lt_of_succ_lt h) c
  · rcases Nat.lt_or_eq_of_le hj with b | rfl
    · rw [posAt_last] at h
      by_cases d : j < l
      · rw [posAt_lo b d] at h; exact absurd (Nat.lt_trans h d) (Nat.lt_irrefl _)
      · exact A.hi j b (Nat.not_lt.mp d)
    · exact absurd h (Nat.lt_irrefl _)
theorem posAt_inj {m l i j : Nat} (hi : i ≤ m) (hj : j ≤ m) (h : posAt (m + 1) l i = posAt (m + 1) l j) : i = j := by
  rcases Nat.lt_or_eq_of_le hi with a | rfl
  · rcases Nat.lt_or_eq_of_le hj with b | rfl
    · by_cases c : i < l
      · rw [posAt_lo a c] at h
        by_cases d : j < l
        · rwa [posAt_lo b d] at h
        · rw [posAt_hi b d] at h; exact absurd (h ▸ c : j + 1 < l) fun z => d (Nat.lt_of_succ_lt z)
      · rw [posAt_hi a c] at h
        by_cases d : j < l
        · rw [posAt_lo b d] at h; exact absurd (h.symm ▸ d : i + 1 < l) fun z => c (Nat.lt_of_succ_lt z)
        · rw [posAt_hi b d] at h; exact Nat.succ.inj h
    · rw [posAt_last] at h
      by_cases c : i < l
      · rw [posAt_lo a c] at h; exact absurd c (h ▸ Nat.lt_irrefl _)
      · rw [posAt_hi a c] at h; exact absurd (h ▸ Nat.lt_succ_self i) c
  · rcases Nat.lt_or_eq_of_le hj with b | rfl
    · rw [posAt_last] at h
      by_cases d : j < l
      · rw [posAt_lo b d] at h; exact absurd d (h ▸ Nat.lt_irrefl _)
      · rw [posAt_hi b d] at h; exact absurd (h.symm ▸ Nat.lt_succ_self j) d
    · rfl
theorem Asc.key {f : Nat → Int} {m l : Nat} (A : Asc f m l) {i j : Nat} (hi : i ≤ m) (hj : j ≤ m) (n : i ≠ j) : (f i == f j) = false ∧ decide (f i < f j) = decide (posAt (m + 1) l i < posAt (m + 1) l j) := by
  rcases Nat.lt_or_gt_of_ne (fun e => n (posAt_inj (l := l) hi hj e)) with z | z
  · have y := A.lt hi hj z
    exact ⟨beq_eq_false_iff_ne.mpr (Int.ne_of_lt y), decide_eq_decide.mpr ⟨fun _ => z, fun _ => y⟩⟩
  · have y := A.lt hj hi z
    exact ⟨beq_eq_false_iff_ne.mpr (Int.ne_of_gt y), decide_eq_decide.mpr ⟨fun x => absurd (Int.lt_trans x y) (Int.lt_irrefl _), fun x => absurd (Nat.lt_trans x z) (Nat.lt_irrefl _)⟩⟩
/-- the key of the i-th piece -/
noncomputable def keyN (a : List Pc) (x : Pc) (i : Nat) : Int := (((a ++ [x])[i]?).map (·.1)).getD 0
theorem keyN_asc {a : List Pc} {x : Pc} {l : Nat} (ha : a.Pairwise fun p q => p.1 < q.1) (h1 : ∀ j (h : j < a.length), j < l → a[j].1 < x.1) (h2 : ∀ j (h : j < a.length), l ≤ j → x.1 < a[j].1) : Asc (keyN a x) a.length l := by
  have fa : ∀ i (h : i < a.length), keyN a x i = a[i].1 := fun i h => by unfold keyN; rw [List.getElem?_append_left h, List.getElem?_eq_getElem h]; rfl
  have fm : keyN a x a.length = x.1 := by unfold keyN; rw [List.getElem?_append_right (Nat.le_refl _), Nat.sub_self]; rfl
  exact ⟨fun i j h g => by rw [fa i (Nat.lt_trans h g), fa j g]; exact List.pairwise_iff_getElem.mp ha i j _ _ h, fun i h g => by rw [fa i h, fm]; exact h1 i h g, fun i h g => by rw [fa i h, fm]; exact h2 i h g⟩
theorem insAt_map {α : Type} (f : Nat → α) {a : List α} {x : α} {l : Nat} (hl : l ≤ a.length) (h1 : ∀ i (h : i < a.length), f i = a[i]) (h2 : f a.length = x) : (insAt (a.length + 1) l).map f = a.take l ++ x :: a.drop l := by
  unfold insAt
  rw [List.map_append, List.map_cons, List.map_map, Nat.add_sub_cancel, h2]
  congr 1
  · refine List.ext_getElem (by simp; omega) fun i h3 h4 => ?_
    simp at h3
    simp [h1 i (by (exact Nat.lt_of_lt_of_le (by assumption) (by assumption)))]
  · congr 1
    refine List.ext_getElem (by simp) fun i h3 h4 => ?_
    simp at h3
    simp only [List.getElem_map, List.getElem_range, Function.comp, List.getElem_drop]
    rw [h1 (i + l) (by omega)]
    congr 1
    omega
inductive PcAt (h : Heap) (u : Value) (z : Int) : Prop
  | mk (b : Addr) (v : Tok) (w : Value) (n : Nat) (e : u = .ref b) (g : h.get? b = some (tupObj [.int z v, w] n)) : PcAt h u z
theorem pc_at {h₀ h : Heap} {L : Addr} {news : Led} {al : List Addr} {vs : List Value} {a : List Pc} {x : Pc} {i : Nat} (hv : VAll news al vs ((a ++ [x]).map apc)) (N : News h₀ L h news) (hi : i ≤ a.length) : PcAt h (vs.getD i .none) (keyN a x i) := by
  have hi' : i < (a ++ [x]).length := by rw [List.length_append]; exact Nat.lt_succ_of_le hi
  obtain ⟨u, hu, ru⟩ := hv.get (i := i) (v := apc (a ++ [x])[i]) (by rw [List.getElem?_map, List.getElem?_eq_getElem hi']; rfl)
  obtain ⟨b, v, w, n, rfl, hm, ra, rb⟩ := ru.pair
  cases ra with
  | int z t =>
    refine ⟨b, t, w, n, ?_, ?_⟩
    · rw [List.getD_eq_getElem?_getD, hu]; rfl
    · unfold keyN; rw [List.getElem?_eq_getElem hi']; exact (N _ hm).1
section
variable {X : FX} {hp : Hp}
/-- sorted, of pieces that rise but for the last one -/
theorem k_sorted {i l : Nat} {a : List Pc} {x : Pc} (hi : hp[i]? = some (.list ((a ++ [x]).map apc))) (hn : a.length < 9) (ha : a.Pairwise fun p q => p.1 < q.1) (hl : l ≤ a.length) (h1 : ∀ j (h : j < a.length), j < l → a[j].1 < x.1) (h2 : ∀ j (h : j < a.length), l ≤ j → x.1 < a[j].1) :
    CallJ X hp (.builtin "sorted") [.ref i] (.ref hp.length) (hp ++ [.list ((a.take l ++ x :: a.drop l).map apc)]) := by
  intro s m news al us Q E C r k
  cases r with
  | @cons u us' _ _ r1 r2 =>
  cases r2
  obtain ⟨ad, vs, n, rfl, hal, hm, hv⟩ := C.list r1 hi
  have hvl := hv.length
  simp only [List.length_map, List.length_append, List.length_cons, List.length_nil] at hvl
  have hL := PySem.IsL.isList (C.N _ hm).1
  have hv1 : vs.length = a.length + 1 := hvl
  by_cases h0 : a.length = 0
  · obtain rfl := List.length_eq_zero_iff.mp h0
    obtain ⟨v, rfl⟩ := List.length_eq_one_iff.mp hv1
    refine sorted_one C.F C.N hL fun D c h' F' N' hlt => ?_
    refine Core.newListK C hv F' N' hlt fun C' v' => ?_
    rw [List.take_nil, List.drop_nil] at k
    exact k _ _ s.toks _ _ (Ext.push hlt) v' C'
  · refine kat_sorted C.F C.N hL (by rw [hv1]; exact Nat.succ_le_succ (Nat.pos_of_ne_zero h0)) (by rw [hv1]; exact Nat.lt_of_lt_of_le (Nat.succ_lt_succ hn) (by decide)) fun D e1 h' F' N' hlt => ?_
    have x1 : Ext news al ((D, seqObj "list" #[] e1) :: news) al := Ext.sub fun p hp => .tail _ hp
    obtain ⟨fs, ht, hfl, hfi⟩ := (hv.mono x1).firsts N'
    refine kat_kind (T := .type "int") ht (by rw [hfl]; simp) (fun v hv => by obtain ⟨i, t, rfl⟩ := hfi v hv; exact Looks.of_pure rfl) (by simp) ?_
    obtain ⟨p, hp, hpl⟩ := Option.map_eq_some_iff.mp (sort_runs (a.length + 1) (Nat.succ_lt_succ hn) l (Nat.lt_succ_of_le hl) (Nat.succ_le_succ (Nat.pos_of_ne_zero h0)))
    have A := keyN_asc ha h1 h2
    rw [hv1]
    refine run_wp (lt := fun i j => decide (posAt (a.length + 1) l i < posAt (a.length + 1) l j)) (n := a.length + 1) (fun i j K hi hj hij q => ?_) _ p hp ?_
    · obtain ⟨b1, v1, w1, n1, e1, g1⟩ := pc_at (hv.mono x1) N' (Nat.le_of_lt_succ hi)
      obtain ⟨b2, v2, w2, n2, e2, g2⟩ := pc_at (hv.mono x1) N' (Nat.le_of_lt_succ hj)
      unfold kas_ask
      rw [e1, e2]
      obtain ⟨ne, lt⟩ := A.key (Nat.le_of_lt_succ hi) (Nat.le_of_lt_succ hj) hij
      refine kat_lt (s := { s with heap := h' }) g1 rfl g2 rfl (kat_cons (wpAny_eqBool_int ?_))
      rw [ne]
      refine kat_no (oneLt_int ?_)
      rw [lt]; exact q
    · refine KasFin.intro F' N' (.head fun p hp => Nat.ne_of_lt (hlt p hp)) fun h2' c F2 N2 => ?_
      have hout : (p.toList.map fun i => vs.getD i Value.none) = vs.take l ++ vs.getD a.length .none :: (vs.take a.length).drop l := by
        rw [hpl]
        have hta : (vs.take a.length).length = a.length := by simp; omega
        have := insAt_map (fun i => vs.getD i Value.none) (a := vs.take a.length) (x := vs.getD a.length .none) (l := l) (by omega) (fun i h => by simp at h; simp [List.getD_eq_getElem?_getD, List.getElem?_eq_getElem (show i < vs.length by omega)]) (by rw [hta])
        rw [hta] at this
        rw [this, List.take_take, Nat.min_eq_left hl]
      rw [hout] at N2
      obtain ⟨ux, hux, rux⟩ := hv.get (i := a.length) (v := apc x) (by simp)
      have hv2 : VAll news al (vs.take l ++ vs.getD a.length .none :: (vs.take a.length).drop l) ((a.take l ++ x :: a.drop l).map apc) := by
        rw [List.map_append, List.map_cons]
        have t1 := hv.take l
        have t2 := (hv.take a.length).drop l
        rw [List.map_append] at t1 t2
        have e1 : (a.map apc ++ [x].map apc).take l = (a.map apc).take l := List.take_append_of_le_length (by rw [List.length_map]; exact hl)
        have e2 : (a.map apc ++ [x].map apc).take a.length = a.map apc := by
          rw [List.take_append_of_le_length (Nat.le_of_eq (List.length_map ..).symm), List.take_of_length_le (Nat.le_of_eq (List.length_map ..))]
        rw [e1] at t1
        rw [e2] at t2
        rw [List.map_take, List.map_drop]
        refine t1.append' (.cons ?_ t2)
        rw [List.getD_eq_getElem?_getD, hux]; exact rux
      obtain ⟨C', v'⟩ := C.newList hv2 F2 N2 hlt
      exact k _ _ s.toks _ _ (Ext.push hlt) v' C'
end
end Mine
end

section
set_option maxHeartbeats 1000000
open PySem PySem.W PyProof.Rows PySem.Calls
namespace Mine
section
variable {X : FX} {loc loc' : Loc} {hp hp1 hp2 hp3 : Hp} {P P1 : Post} {J : Nat → Loc → Hp → Prop} {B : Loc → Hp → Prop}
theorem RepS.add {h : Heap} {m : Str → Option Value} {news : Led} {al : List Addr} {p : Addr × Obj} (R : RepS X loc hp h m news al) (hg : h.get? p.1 = some p.2) (hL : p.1 ≠ X.L) (h0 : X.h₀.get? p.1 = none) : RepS X loc hp h m (p :: news) al :=
  ⟨⟨R.C.F, fun q hq => by
    rcases List.mem_cons.mp hq with e | hq
    · rw [e]; exact ⟨hg, hL, h0⟩
    · exact R.C.N q hq, R.C.H.sub fun p hp => .tail _ hp⟩, R.V.mono (Ext.sub fun p hp => .tail _ hp)⟩
/-- two entries change at once, others may come -/
theorem RepS.touch2 {h h' : Heap} {m : Str → Option Value} {news : Led} {al : List Addr} {I E : Addr} {o o' u u' : Obj} (R : RepS X loc hp h m news al) (ho : (I, o) ∈ news) (hd : Odd o) (hn : I ∉ al) (hu : (E, u) ∈ news) (hud : Odd u) (hun : E ∉ al) (hne : E ≠ I)
    (hk : ∀ b q, b ≠ E → b ≠ I → h.get? b = some q → h'.get? b = some q) (hI : h'.get? I = some o') (hE : h'.get? E = some u') (hf : o'.isFreed = false) :
    RepS X loc hp h' m ((E, u') :: offA E ((I, o') :: offA I news)) al ∧ ∀ n0 a0, Ext n0 a0 news al → (∀ p ∈ n0, p.1 ≠ I) → (∀ p ∈ n0, p.1 ≠ E) → Ext n0 a0 ((E, u') :: offA E ((I, o') :: offA I news)) al := by
  have hg := Heap.get?_update_self (fun _ => o') (R.C.N _ ho).1 hf
  have s1 := Heap.SameBut.update h I (fun _ => o')
  obtain ⟨R1, x1, _⟩ := R.touch ho hd hn s1 hg
  have hu1 : (E, u) ∈ (I, o') :: offA I news := .tail _ (offA_mem hu hne)
  obtain ⟨R2, x2⟩ := R1.drop hu1 hud hun (h' := h') fun b q n1 e => by
    by_cases z : b = I
    · subst z; rw [hg] at e; cases e; exact hI
    · exact hk b q n1 z ((s1.2 b z).symm.trans e)
  exact ⟨R2.add (p := (E, u')) hE (R.C.N _ hu).2.1 (R.C.N _ hu).2.2, fun n0 a0 x h1 h2 => (x2 n0 a0 (x1 n0 a0 x h1) h2).trans (Ext.sub fun p hp => .tail _ hp)⟩

noncomputable abbrev enumObj (a : Value) (I : Addr) (i : Int) (old : Value) : Obj := { cls := .type "enumerate", dict := none, data := .fields #[a, .bool false, .ref I, rawInt i, .none, old] }
inductive EnumSt (X : FX) (J : Nat → Loc → Hp → Prop) (a I : Addr) (n0 : Led) (a0 : List Addr) (n : Nat) (s₀ : Shared) : Nat → Shared → Prop
  | mk {i : Nat} {loc : Loc} {hp : Hp} {h : Heap} {tk : Nat} {m : Str → Option Value} {news : Led} {al : List Addr} {old : Value} {oI : Obj} (hi : i ≤ n) (R : RepS X loc hp h m news al) (hJ : J i loc hp) (x : Ext n0 a0 news al) (he : (I + 1, enumObj .none I i old) ∈ news) (hI : (I, oI) ∈ news)
    (hc : oI.cls = .type "list_iterator") (hd : oI.data = .fields #[.ref a, .int i 0]) (hn1 : (I + 1 : Nat) ∉ al) (hn2 : I ∉ al) : EnumSt X J a I n0 a0 n s₀ (n - i) { s₀ with heap := h, toks := tk }

theorem enum_odd {a : Value} {I : Addr} {i : Int} {old : Value} : Odd (enumObj a I i old) := odd_of (by simp) fun v e => (by cases e)
theorem m_for_enum {elts : List Expr} {kk : Nat} {np tp cp p : Pos} {e : Expr} {body : List Stmt} {i : Nat} {l : List AV} (J : Nat → Loc → Hp → Prop) (hiter : EvJ X loc hp e (.ref i) hp1) (hi : hp1[i]? = some (.list l))
    (hl : ∀ k loc hp, J k loc hp → hp[i]? = some (.list l)) (h0 : JW J 0 loc hp1)
    (turn : ∀ (k : Nat) v loc hp, l[k]? = some v → J k loc hp → ∃ loc1 hp2, AsgJ X loc hp (.Tuple elts kk tp) (.tup [.int k, v]) loc1 hp2 ∧ ExecJ X loc1 hp2 body (TurnP J (k + 1) B P))
    (done : ∀ loc hp, J l.length loc hp → B loc hp) (hb : bootBuiltins "enumerate" = some (.type "enumerate")) (en : nsIn (hd.heap_39 X.w.params) mainGlobals "enumerate" = some none) (hx : X.env.kindOf "enumerate" = some .globalImplicit)
    (hs : ∀ env, starEach [e] env = (false, eval e env) :: starEach [] env)
    (hc : ∀ env, eval (.Call (.Name "enumerate" np) [e] [] cp) env = (do callWith cp (← eval (.Name "enumerate" np) env) [] (backTo cp (starEach [e] env)) (backToKw cp (keywordEach [] env))))
    (hf : ∀ x, foldedSetIterable (.Call (.Name "enumerate" np) [e] [] cp) X.env x = pure x) : StmJ X loc hp (.For (.Tuple elts kk tp) (.Call (.Name "enumerate" np) [e] [] cp) body [] p) (LoopP B P) := by
  intro s m news al Q E R k
  refine for_mine (Call_ (nm_built R en hb hx (by decide) (by decide) ?_) (hc _)) hf
  refine PyProof.Rows.callWith_type1 (args_cons (hiter _ _ _ _ _ _ R fun u h1 tk1 n1 a1 x1 r1 R1 => args_nil ?_) (hs _)) (hs _) rfl
  obtain ⟨a, vs, n, rfl, ha, hm, hv⟩ := R1.C.list r1 hi
  refine call_enumerate_list (PySem.IsL.isList (R1.C.N _ hm).1) fun h2 hE hI hsz hk => ?_
  refine wpAny_pyIter_enum hE ?_
  have hlt : ∀ p ∈ n1, @LT.lt Nat _ p.1 h1.objs.size := fun p hp => Heap.lt_size (R1.C.N p hp).1
  have hIL : h1.objs.size ≠ X.L := Nat.ne_of_gt R1.C.F.ns.lt
  have hEL : h1.objs.size + 1 ≠ X.L := Nat.ne_of_gt (Nat.lt_succ_of_lt R1.C.F.ns.lt)
  have hnn : ∀ b, h1.objs.size ≤ b → X.h₀.get? b = none := fun b hb => by
    cases q : X.h₀.get? b with
    | none => rfl
    | some o => exact absurd (Heap.lt_size (R1.C.F.keep _ _ q)) (Nat.not_lt.mpr hb)
  obtain ⟨oI, hoI, hcI, hdI⟩ := hI
  have R2 : RepS X loc hp1 h2 m n1 a1 := ⟨⟨R1.C.F.keeps hk, R1.C.N.grown hk, R1.C.H⟩, R1.V⟩
  have R3 := (R2.add (p := (h1.objs.size, oI)) hoI hIL (hnn _ (Nat.le_refl _))).add (p := (h1.objs.size + 1, enumObj .none h1.objs.size 0 .none)) hE hEL (hnn _ (Nat.le_succ _))
  have hna : ∀ b, h1.objs.size ≤ b → b ∉ a1 := fun b hb q => by
    obtain ⟨j, hj⟩ := List.mem_iff_getElem?.mp q
    obtain ⟨ob, hob⟩ := R1.C.H.has hj
    exact absurd (hlt _ hob) (Nat.not_lt.mpr hb)
  generalize h1.objs.size = I at *
  have hn0I : ∀ p ∈ n1, p.1 ≠ I := fun p hp => Nat.ne_of_lt (hlt p hp)
  have hn0E : ∀ p ∈ n1, p.1 ≠ I + 1 := fun p hp => Nat.ne_of_lt (Nat.lt_succ_of_lt (hlt p hp))
  obtain ⟨l0, hsub, hJ0⟩ := h0
  refine codeAny_forLoop_any (EnumSt X J a I n1 a1 l.length { s with heap := h2, toks := tk1 }) ?_ (l.length - 0) (.mk (Nat.zero_le _) ⟨R3.C, R3.V.weak hsub⟩ hJ0 ((Ext.sub fun p hp => .tail _ hp).trans (Ext.sub fun p hp => .tail _ hp)) (.head _) (.tail _ (.head _)) hcI hdI (hna _ (Nat.le_succ _)) (hna _ (Nat.le_refl _)))
  rintro j s' ⟨hi, R, hJ, x, he, hI, hc, hd, hn1, hn2⟩
  rename_i j loc2 hp2 h3 tk3 m3 n3 a3 old oJ
  obtain ⟨a', vs', n', e1, ha', hm', hv'⟩ := R.C.list (r1.mono x) (hl _ _ _ hJ)
  cases e1
  have hL := PySem.IsL.isList (R.C.N _ hm').1
  have hit : h3.IsListIter I a j := ⟨oJ, (R.C.N _ hI).1, hc, hd⟩
  have hoJ : Odd oJ := odd_of (by rw [hc]; simp) fun v e => (by rw [hd] at e; cases e)
  rcases Nat.lt_or_ge j l.length with hlt' | hge
  · obtain ⟨u, hu, ru⟩ := hv'.get (i := j) (v := (l[j]?).getD .none) (by simp [hlt'])
    refine wpAny_pyNext_enum_item (s := { s with heap := h3, toks := tk3 }) (R.C.N _ he).1 hit hL (x := u) (by simpa using hu) (Nat.succ_ne_self _) fun h4 hE4 hI4 hT4 hz4 hk4 => ?_
    refine wpAny_letOwnedTupleGo_enum (s := { s with heap := h4, toks := tk3 + 1 }) hE4 fun h5 hE5 hs5 => ?_
    obtain ⟨oI5, hoI5, hcI5, hdI5⟩ := hI4
    have hET : h3.objs.size ≠ I + 1 := Nat.ne_of_gt (Heap.lt_size (R.C.N _ he).1)
    obtain ⟨R5, x5⟩ := R.touch2 (h' := h5) (o' := oI5) (u' := enumObj .none I ((j : Int) + 1) u) hI hoJ hn2 he enum_odd hn1 (Nat.succ_ne_self _) (fun b q n1 n2 e => (hs5.2 b n1).trans (hk4 b q n1 n2 e)) ((hs5.2 I (Nat.succ_ne_self _).symm).trans hoI5) hE5 (by obtain ⟨_, _, dt, _⟩ := oI5; cases hdI5; rfl)
    have hlt3 : ∀ p ∈ n3, @LT.lt Nat _ p.1 h3.objs.size := fun p hp => Heap.lt_size (R.C.N p hp).1
    have R6 := R5.add (p := (h3.objs.size, tupObj [.int j tk3, u] 0)) ((hs5.2 _ hET).trans hT4) (Nat.ne_of_gt R.C.F.ns.lt) (next_is_new R.C.F)
    have x6 := (x5 n1 a1 x hn0I hn0E).trans (Ext.sub (news' := (h3.objs.size, tupObj [.int j tk3, u] 0) :: _) fun p hp => .tail _ hp)
    have x36 : Ext0 n3 a3 ((h3.objs.size, tupObj [.int j tk3, u] 0) :: (I + 1, enumObj .none I ((j : Int) + 1) u) :: offA (I + 1) ((I, oI5) :: offA I n3)) a3 := ⟨⟨[], by simp⟩, fun b ws c hm => by
      obtain ⟨t1, -⟩ := odd_ne R.C.N hI hoJ
      obtain ⟨t2, -⟩ := odd_ne R.C.N he enum_odd
      exact .tail _ (.tail _ (offA_mem (.tail _ (offA_mem hm (t1 _ _ _ hm))) (t2 _ _ _ hm)))⟩
    obtain ⟨loc1, hp4, hA, hB⟩ := turn j ((l[j]?).getD .none) loc2 hp2 (by simp [hlt']) hJ
    refine hA _ _ _ _ _ _ _ R6 (.tup (.head _) (.cons (.int _ _) (.cons (ru.mono0 x36) .nil))) fun h7 tk7 m7 n7 a7 x7 R7 => ?_
    refine hB _ _ _ _ _ _ R7 fun fl af l8 hp8 h8 tk8 m8 n8 a8 hP hF x8 R8 => ?_
    have x9 := x6.trans (x7.trans x8)
    have fin : JW J (j + 1) l8 hp8 → ∃ q, q < l.length - j ∧ EnumSt X J a I n1 a1 l.length { s with heap := h2, toks := tk1 } q { s with heap := h8, toks := tk8 } := by
      rintro ⟨l9, hs9, hJ9⟩
      have x10 := x7.trans x8
      have hmE := x10.keep _ (.tail _ (.head _)) hn1
      have hmI := x10.keep (I, oI5) (.tail _ (.tail _ (offA_mem (.head _) (Nat.succ_ne_self _).symm))) hn2
      refine ⟨l.length - (j + 1), by omega, .mk (i := j + 1) (old := u) hlt' ⟨R8.C, R8.V.weak hs9⟩ hJ9 x9 ?_ hmI hcI5 hdI5 (fun q => x10.fresh _ q hn1 _ (.tail _ (.head _)) rfl) (fun q => x10.fresh _ q hn2 (I, oI5) (.tail _ (.tail _ (offA_mem (.head _) (Nat.succ_ne_self _).symm))) rfl)⟩
      exact hmE
    cases hF with
    | next => exact fin hP
    | cont => exact fin hP
    | brk => exact k .next .next _ _ _ _ _ _ _ hP .next (x1.trans x9) R8
    | ret r => exact k (.ret _) (.ret _) _ _ _ _ _ _ _ hP (.ret r) (x1.trans x9) R8
  · have e : j = l.length := Nat.le_antisymm hi hge
    subst e
    refine wpAny_pyNext_enum_end (s := { s with heap := h3, toks := tk3 }) rfl (R.C.N _ he).1 hit hL (by simp [hv'.length]) fun h4 hx4 => wpAny_execs_nil ?_
    obtain ⟨R4, x4⟩ := R.drop hI hoJ hn2 hx4
    exact k .next .next _ _ _ _ _ _ _ (done _ _ hJ) .next (x1.trans (x4 n1 a1 x hn0I)) R4
end
end Mine
end

section
set_option maxHeartbeats 1000000
open PySem PySem.W PyProof.Rows PySem.Calls
namespace Mine
theorem take_snoc {α : Type} {l : List α} {i : Nat} {x : α} (h : l[i]? = some x) : l.take (i + 1) = l.take i ++ [x] := by
  rw [List.take_add_one, h]; rfl
theorem fold_snoc {α β : Type} {f : β → α → β} {b : β} {l : List α} {i : Nat} {x : α} (h : l[i]? = some x) : (l.take (i + 1)).foldl f b = f ((l.take i).foldl f b) x := by
  rw [take_snoc h, List.foldl_append]; rfl
theorem asps_snoc {sp : Sp} {p : Int × Int} : asps (sp ++ [p]) = asps sp ++ [asp p] := by simp [asps]
theorem asps_get {sp : Sp} {k : Nat} {v : AV} (h : (asps sp)[k]? = some v) : ∃ p, sp[k]? = some p ∧ asp p = v := by simpa using h
theorem get_lt {α : Type} {l : List α} {k : Nat} {x : α} (h : l[k]? = some x) : k < l.length := (List.getElem?_eq_some_iff.mp h).1
theorem asps_small (sp : Sp) (n : Nat) : (AO.list (asps sp)).Small n := small_val.mpr fun v hv => by
  obtain ⟨p, _, rfl⟩ := List.mem_map.mp hv
  rfl
theorem slb {lo hi : Option Expr} {sp : Pos} {b : Array UInt8} {t : Tok} {a : Addr} : subscripted (.Slice lo hi none sp) false (.bytes b t) (.ref a) = operate [.ref a, .bytes b t] (getItem (.bytes b t) (.ref a)) := by with_unfolding_all rfl
theorem sll {lo hi : Option Expr} {sp : Pos} {b a : Addr} : subscripted (.Slice lo hi none sp) false (.ref b) (.ref a) = operate [.ref a, .ref b] (getItem (.ref b) (.ref a)) := by with_unfolding_all rfl
section
variable {X : FX} {loc loc' : Loc} {hp hp1 hp2 : Hp} {P P1 : Post}
theorem en {S : Scope} {x : Str} {p : Pos} {v : AV} (K : KS X S) (h : loc.lookup x = some v) (hk : S.names.lookup x = some .local) (hd : (x == ("__debug__" : Str)) = false) : EvJ X loc hp (.Name x p) v hp := e_name h (K.kind hk) hd
theorem an {S : Scope} {x : Str} {p : Pos} {v : AV} (K : KS X S) (hk : S.names.lookup x = some .local) : AsgJ X loc hp (.Name x p) v ((x, v) :: loc) hp := a_name (K.kind hk)
/-- one-armed if, whose arm changes the heap alone -/
theorem x_when {t : Expr} {b : Bool} {body : List Stmt} {p : Pos} {ss : List Stmt} {H : Hp} (h : TestJ X loc hp t b hp) (h1 : b = true → ExecJ X loc hp body (fun af l h => af = .next ∧ l = loc ∧ h = H)) (e : b = false → hp = H) (h2 : ExecJ X loc H ss P) : ExecJ X loc hp (.If t body [] p :: ss) P :=
  x_if h (fun hb => x_mono (h1 hb) fun af l h ⟨e1, e2, e3⟩ => by subst e1; subst e2; subst e3; exact h2) (fun hb => x_nil (by cases e hb; exact h2))
end
theorem len1 {us : List Value} (h : us.length = 1) : ∃ a, us = [a] := List.length_eq_one_iff.mp h
theorem len2 {us : List Value} (h : us.length = 2) : ∃ a b, us = [a, b] := by
  obtain ⟨a, r, rfl⟩ := List.exists_cons_of_length_eq_add_one h
  obtain ⟨b, rfl⟩ := len1 (Nat.succ.inj h)
  exact ⟨a, b, rfl⟩
theorem len3 {us : List Value} (h : us.length = 3) : ∃ a b c, us = [a, b, c] := by
  obtain ⟨a, r, rfl⟩ := List.exists_cons_of_length_eq_add_one h
  obtain ⟨b, c, rfl⟩ := len2 (Nat.succ.inj h)
  exact ⟨a, b, c, rfl⟩
theorem len4 {us : List Value} (h : us.length = 4) : ∃ a b c d, us = [a, b, c, d] := by
  obtain ⟨a, r, rfl⟩ := List.exists_cons_of_length_eq_add_one h
  obtain ⟨b, c, d, rfl⟩ := len3 (Nat.succ.inj h)
  exact ⟨a, b, c, d, rfl⟩
theorem LSub.skip {x : Str} {v : AV} {a b : Loc} (hx : a.lookup x = none) (h : LSub a b) : LSub a ((x, v) :: b) := fun y u hy => by
  rw [List.lookup_cons]
  by_cases c : (y == x) = true
  · rw [beq_iff_eq.mp c, hx] at hy; cases hy
  · rw [Bool.not_eq_true] at c
    rw [c]; exact h y u hy
noncomputable abbrev apcs (ps : List Pc) : List AV := ps.map apc
theorem apcs_snoc {sp : List Pc} {p : Pc} : apcs (sp ++ [p]) = apcs sp ++ [apc p] := by simp [apcs]
theorem apcs_get {sp : List Pc} {k : Nat} {v : AV} (h : (apcs sp)[k]? = some v) : ∃ p, sp[k]? = some p ∧ apc p = v := by simpa using h
theorem apcs_small (sp : List Pc) (n : Nat) : (AO.list (apcs sp)).Small n := small_val.mpr fun v hv => by
  obtain ⟨p, _, rfl⟩ := List.mem_map.mp hv
  rfl
noncomputable abbrev Bx := List Int × Int
noncomputable def takeS (bx : Bx) (w : Int) : Int × Bx := match bx.1 with
  | n :: r => (n.fmod w, (r, bx.2))
  | [] => ((((bx.2 * 48271 + 11).fmod 2147483647).fdiv 97).fmod w, ([], (bx.2 * 48271 + 11).fmod 2147483647))
noncomputable abbrev bxO (l : Nat) (bx : Bx) : AO := .list [.ref l, .int bx.2]
noncomputable abbrev bxL (bx : Bx) : AO := .list (bx.1.map .int)
noncomputable def setBox (hp : Hp) (b l : Nat) (bx : Bx) : Hp := (hp.set b (bxO l bx)).set l (bxL bx)
theorem set_same {hp : Hp} {i : Nat} {o : AO} (h : hp[i]? = some o) : hp.set i o = hp := by
  obtain ⟨h1, h2⟩ := List.getElem?_eq_some_iff.mp h
  rw [← h2, List.set_getElem_self]
theorem takeS_bounds {bx : Bx} {w : Int} (h : 0 < w) : 0 ≤ (takeS bx w).1 ∧ (takeS bx w).1 < w := by
  unfold takeS
  split <;> exact ⟨fmod_lo _ h, fmod_hi _ h⟩
end Mine
end

section
set_option maxHeartbeats 1000000
open PySem PySem.W PyProof.Rows PySem.Calls
namespace Mine
section
variable {X : FX} {hp : Hp}
noncomputable abbrev asv (o : Option (Int × Int)) : AV := match o with | none => .none | some p => asp p
theorem first_span_j {i : Nat} {sp : Sp} {most : Int} (hr : 0 < X.room) (hi0 : hp[i]? = some (.list (asps sp))) (hlen : sp.length ≤ 1000) :
    CallJ X hp (.ref 69) [.ref i, .int most] (asv (firstV sp most)) hp := by
  refine (?_ : CallQ X hp _ _ (fun u h => u = asv (firstV sp most) ∧ h = hp)).one fun _ _ h => h
  refine' callq_of (xs := ["spans", "most"]) [("most", .int most), ("spans", .ref i)] ?ho ?hcd hr ?hb ?hl rfl ?h ?c1 ?c2 ?c3 ?c4
  case ho => k_is
  case hcd => k_is
  case hb => intro us h; obtain ⟨a, b, rfl⟩ := len2 h; rfl
  case hl => decide
  case c1 => rfl
  case c2 => rfl
  case c3 => rfl
  case c4 => decide
  intro Y hw hY hroom
  have hz : (asps sp).length ≤ 1000000 := by rw [List.length_map]; (exact Nat.le_trans (by assumption) (Nat.le_of_ble_eq_true rfl))
  refine x_if (t_or_cons (t_cmp (e_lenl (en hY rfl rfl rfl) hi0 (KS.kind hY rfl) hz (fun _ => rfl) (fun _ => rfl)) e_int (c_int rfl) rfl) (fun _ => (t_or_cons (t_cmp (en hY rfl rfl rfl) e_int (c_int rfl) rfl) (fun _ => t_or_nil)))) (fun h => ?_) (fun h => ?_)
  · refine x_ret e_none ⟨?_, rfl⟩
    rw [Bool.or_false, Bool.or_eq_true, decide_eq_true_eq, decide_eq_true_eq, List.length_map] at h
    match sp, h with
    | [], _ => rfl
    | p :: r, h => rw [firstV, if_pos (by rcases h with h | h; · exact absurd h (by simp; omega)
                                          exact h)]
  · rw [Bool.or_false, Bool.or_eq_false_iff, decide_eq_false_iff_not, decide_eq_false_iff_not, List.length_map] at h
    match sp, h with
    | p :: r, h =>
      refine x_nil (show ExecJ _ _ _ _ _ from ?_)
      refine x_go (g_asg (e_item (en hY rfl rfl rfl) e_int hi0 (by decide) rfl hz (fun _ _ _ => by with_unfolding_all rfl)) (a_tup (as_cons (an hY rfl) (as_cons (an hY rfl) as_nil (fun _ => rfl)) (fun _ => rfl)) (fun _ => rfl) (fun _ => rfl)) rfl rfl (fun _ => rfl)) ?_
      refine x_ret (e_tuple (es_cons (en hY rfl rfl rfl) (es_cons (e_min (en hY rfl rfl rfl) (e_addi (en hY rfl rfl rfl) (en hY rfl rfl rfl)) (KS.kind hY rfl) (fun _ => rfl) (fun _ => rfl) (fun _ => rfl) (fun _ => rfl)) es_nil (fun _ => rfl)) (fun _ => rfl)) rfl) ⟨?_, rfl⟩
      rw [firstV, if_neg h.2]

theorem taken_from_j {i : Nat} {ps : List Pc} {at_ : Int} (hr : 0 < X.room) (hi0 : hp[i]? = some (.list (apcs ps))) (hlen : ps.length ≤ 100) (hby : ∀ p ∈ ps, p.2.length ≤ 1000) :
    CallJ X hp (.ref 48) [.ref i, .int at_] (.tup [.bytes (ps.foldl (takenStep at_) ([], [])).1, .ref hp.length]) (hp ++ [.list (apcs (ps.foldl (takenStep at_) ([], [])).2)]) := by
  refine (?_ : CallQ X hp _ _ (fun u h => u = .tup [.bytes (ps.foldl (takenStep at_) ([], [])).1, .ref hp.length] ∧ h = hp ++ [.list (apcs (ps.foldl (takenStep at_) ([], [])).2)])).one fun _ _ h => h
  refine' callq_of (xs := ["pieces", "at"]) [("at", .int at_), ("pieces", .ref i)] ?ho ?hcd hr ?hb ?hl rfl ?h ?c1 ?c2 ?c3 ?c4
  case ho => k_is
  case hcd => k_is
  case hb => intro us h; obtain ⟨a, b, rfl⟩ := len2 h; rfl
  case hl => decide
  case c1 => rfl
  case c2 => rfl
  case c3 => rfl
  case c4 => decide
  intro Y hw hY hroom
  refine x_go (g_swap2 (e_tuple (es_cons e_bconst (es_cons (e_list es_nil rfl) es_nil (fun _ => rfl)) (fun _ => rfl)) rfl) (KS.swap hY fun _ _ _ _ _ => rfl) (KS.kind hY rfl) (KS.kind hY rfl) rfl) ?_
  refine x_loop (m_for_list (J := fun k l h => ∃ f lf, (ps.take k).foldl (takenStep at_) ([], []) = (f, lf) ∧ l = ([("found", .bytes f), ("left", .ref hp.length), ("at", .int at_), ("pieces", .ref i)] : Loc) ∧ h = hp ++ [.list (apcs lf)] ∧ lf.length ≤ k) (en hY rfl rfl rfl) (hg_old hi0) ?_ ⟨_, LSub.refl, _, _, rfl, rfl, rfl, Nat.le_refl _⟩ ?_ ?_ (fun _ => rfl))
  · rintro k l h ⟨f, lf, -, rfl, rfl, -⟩; exact hg_old hi0
  · rintro k v l h hv ⟨f, lf, hst, rfl, rfl, hlf⟩
    obtain ⟨p, hp1, rfl⟩ := apcs_get hv
    have hk := get_lt hp1
    have hpb := hby p (List.mem_of_getElem? hp1)
    have hst' := fold_snoc (f := takenStep at_) (b := ([], [])) hp1
    rw [hst] at hst'
    refine ⟨_, _, (a_tup (as_cons (an hY rfl) (as_cons (an hY rfl) as_nil (fun _ => rfl)) (fun _ => rfl)) (fun _ => rfl) (fun _ => rfl)), ?_⟩
    refine x_if (t_chain (en hY rfl rfl rfl) (en hY rfl rfl rfl) (e_addi (en hY rfl rfl rfl) (e_lenb (en hY rfl rfl rfl) (KS.kind hY rfl) (by (exact Nat.le_trans (by assumption) (Nat.le_of_ble_eq_true rfl))) (fun _ => rfl) (fun _ => rfl))) (c_int rfl) (c_int rfl) rfl) (fun h => ?_) (fun h => ?_)
    · have h' : p.1 ≤ at_ ∧ at_ < p.1 + (p.2.length : Nat) := by
        rw [Bool.and_eq_true, decide_eq_true_eq, decide_eq_true_eq] at h; exact h
      refine x_go (g_asg (e_sliceb (en hY rfl rfl rfl) (p_some (e_subi (en hY rfl rfl rfl) (en hY rfl rfl rfl))) p_none (Int.sub_nonneg_of_le h'.1) trivial (by (exact Nat.le_trans (by assumption) (Nat.le_of_ble_eq_true rfl))) (fun _ _ _ => slb) (fun _ _ _ => by with_unfolding_all rfl)) (an hY rfl) rfl rfl (fun _ => rfl)) ?_
      refine x_nil (x_nil ⟨[("found", .bytes _), ("left", .ref hp.length), ("at", .int at_), ("pieces", .ref i)], LSub.cons rfl (LSub.cons rfl (LSub.cons rfl (LSub.cons rfl LSub.nil))), _, lf, ?_, rfl, rfl, by (exact Nat.le_succ_of_le (by assumption))⟩)
      rw [hst', takenStep, if_pos h']
    · have h' : ¬ (p.1 ≤ at_ ∧ at_ < p.1 + (p.2.length : Nat)) := fun q => by
        rw [decide_eq_true q.1, decide_eq_true q.2] at h; cases h
      refine x_if (t_cmp (en hY rfl rfl rfl) (en hY rfl rfl rfl) (c_int rfl) rfl) (fun h2 => ?_) (fun h2 => ?_)
      · refine x_go (g_expr' (e_append (en hY rfl rfl rfl) (e_tuple (es_cons (en hY rfl rfl rfl) (es_cons (en hY rfl rfl rfl) es_nil (fun _ => rfl)) (fun _ => rfl)) rfl) hg_new hg_new (by rw [List.length_map]; omega) set_new (fun _ => rfl) (fun _ => rfl)) rfl) ?_
        refine x_nil (x_nil (x_nil ⟨_, LSub.skip rfl (LSub.skip rfl LSub.refl), f, lf ++ [p], ?_, rfl, by rw [apcs_snoc], by rw [List.length_append]; simp; assumption⟩))
        rw [hst', takenStep, if_neg h', if_pos (of_decide_eq_true h2)]
      · refine x_nil (x_nil (x_nil ⟨_, LSub.skip rfl (LSub.skip rfl LSub.refl), f, lf, ?_, rfl, rfl, by (exact Nat.le_succ_of_le (by assumption))⟩))
        rw [hst', takenStep, if_neg h', if_neg (of_decide_eq_false h2)]
  · rintro l h ⟨f, lf, hst, rfl, rfl, hlf⟩
    rw [show ps.take (apcs ps).length = ps from List.take_of_length_le (Nat.le_of_eq (List.length_map ..).symm)] at hst
    refine x_ret (e_tuple (es_cons (en hY rfl rfl rfl) (es_cons (en hY rfl rfl rfl) es_nil (fun _ => rfl)) (fun _ => rfl)) rfl) ?_
    rw [hst]
    exact ⟨rfl, rfl⟩

theorem take_j {b l : Nat} {bx : Bx} {w : Int} (hr : 0 < X.room) (hb : hp[b]? = some (bxO l bx)) (hl : hp[l]? = some (bxL bx)) (hbl : b ≠ l) (hw : 0 < w) (hn : bx.1.length ≤ 100) :
    CallJ X hp (.ref 174) [.ref b, .int w] (.int (takeS bx w).1) (setBox hp b l (takeS bx w).2) := by
  refine (?_ : CallQ X hp _ _ (fun u h => u = .int (takeS bx w).1 ∧ h = setBox hp b l (takeS bx w).2)).one fun _ _ h => h
  refine' callq_of (xs := ["box", "wide"]) [("wide", .int w), ("box", .ref b)] ?ho ?hcd hr ?hb ?hl rfl ?h ?c1 ?c2 ?c3 ?c4
  case ho => k_is
  case hcd => k_is
  case hb => intro us h; obtain ⟨a, b, rfl⟩ := len2 h; rfl
  case hl => decide
  case c1 => rfl
  case c2 => rfl
  case c3 => rfl
  case c4 => decide
  intro Y hw' hY hroom
  obtain ⟨ns, sd⟩ := bx
  have hblt := hg_len hb
  have hz : (ns.map AV.int).length ≤ 1000000 := by rw [List.length_map]; exact Nat.le_trans hn (by decide)
  have hz2 : ∀ x : Int, ([AV.ref l, .int x]).length ≤ 1000000 := fun _ => by simp
  refine x_if (t_cmp (e_lenl (e_item (en hY rfl rfl rfl) e_int hb (by decide) rfl (hz2 _) (fun _ _ _ => by with_unfolding_all rfl)) hl (KS.kind hY rfl) hz (fun _ => rfl) (fun _ => rfl)) e_int (c_int rfl) rfl) (fun h => ?_) (fun h => ?_)
  · match ns, h with
    | n :: r, _ =>
      refine x_ret (e_modi (e_methl (e_item (en hY rfl rfl rfl) e_int hb (by decide) rfl (hz2 _) (fun _ _ _ => by with_unfolding_all rfl)) hl (es_cons e_int es_nil (fun _ => rfl)) (k_pop hl (by decide) rfl hz) PySem.F.slot_list_pop PySem.F.type_list_pop (fun _ => rfl) (fun _ => rfl) (fun _ => rfl)) (en hY rfl rfl rfl) (by omega)) ⟨rfl, ?_⟩
      unfold setBox takeS
      rw [set_same hb]; rfl
  · cases ns with
    | cons n r => exact absurd (of_decide_eq_false h) (by simp)
    | nil =>
      refine x_nil (show ExecJ _ _ _ _ _ from ?_)
      have hb2 : (hp.set b (bxO l ([], (sd * 48271 + 11).fmod 2147483647)))[b]? = some (bxO l ([], (sd * 48271 + 11).fmod 2147483647)) := List.getElem?_set_self hblt
      refine x_go (g_asg (e_modi (e_addi (e_muli (e_item (en hY rfl rfl rfl) e_int hb (by decide) rfl (hz2 _) (fun _ _ _ => by with_unfolding_all rfl)) e_int (by decide) (by decide)) e_int) e_int (by decide)) (a_sub (en hY rfl rfl rfl) e_int hb (by decide) (by simp) (hz2 _) rfl) rfl rfl (fun _ => rfl)) ?_
      refine x_ret (e_modi (e_divi (e_item (en hY rfl rfl rfl) e_int hb2 (by decide) rfl (hz2 _) (fun _ _ _ => by with_unfolding_all rfl)) e_int (by decide) (by decide)) (en hY rfl rfl rfl) (by omega)) ⟨rfl, ?_⟩
      unfold setBox takeS
      rw [set_same (i := l)]; · rfl
      rw [List.getElem?_set_ne hbl]; exact hl
end
end Mine
end

section
set_option maxHeartbeats 1000000
open PySem PySem.W PyProof.Rows PySem.Calls
namespace Mine
section
variable {X : FX} {hp : Hp}
noncomputable def ApL (f : Nat) (b : Int) (jn : List UInt8) : Loc := [("found", .ref f), ("begin", .int b), ("joined", .bytes jn)]
/-- what the sort at the end of add_piece is asked -/
structure PieceEnd (st : List Pc × Pc) (res : List Pc) (l : Nat) : Prop where
  len : st.1.length < 9
  asc : st.1.Pairwise fun p q => p.1 < q.1
  le : l ≤ st.1.length
  lo : ∀ j (h : j < st.1.length), j < l → st.1[j].1 < st.2.1
  hi : ∀ j (h : j < st.1.length), l ≤ j → st.2.1 < st.1[j].1
  res : res = st.1.take l ++ st.2 :: st.1.drop l
inductive ApJ (hp : Hp) (ps : List Pc) (off : Int) (data : List UInt8) (k : Nat) (l : Loc) (h : Hp) : Prop
  | mk (fo : List Pc) (b : Int) (jn : List UInt8) (hst : (ps.take k).foldl pieceStep ([], (off, data)) = (fo, (b, jn))) (e1 : l = ApL hp.length b jn) (e2 : h = hp ++ [.list (apcs fo)]) (e3 : fo.length ≤ k) : ApJ hp ps off data k l h
theorem add_piece_j {i : Nat} {ps res : List Pc} {off : Int} {data : List UInt8} (hr : 0 < X.room) (hi0 : hp[i]? = some (.list (apcs ps))) (hlen : ps.length ≤ 100) (hby : ∀ p ∈ ps, p.2.length ≤ 1000) (hdat : data.length ≤ 1000)
    (hnil : data = [] → res = ps) (hcons : data ≠ [] → (∀ k, ((ps.take k).foldl pieceStep ([], (off, data))).2.2.length ≤ 1000) ∧ ∃ l, PieceEnd (ps.foldl pieceStep ([], (off, data))) res l) :
    CallJ X hp (.ref 41) [.ref i, .int off, .bytes data] (.ref hp.length) (hp ++ [.list (apcs res)]) := by
  refine call_new (hp' := hp) ?_ rfl (fun _ => apcs_small _ _) (fun h => h)
  refine' callq_of (xs := ["pieces", "offset", "data"]) [("data", .bytes data), ("offset", .int off), ("pieces", .ref i)] ?ho ?hcd hr ?hb ?hl rfl ?h ?c1 ?c2 ?c3 ?c4
  case ho => k_is
  case hcd => k_is
  case hb => intro us h; obtain ⟨a, b, c, rfl⟩ := len3 h; rfl
  case hl => decide
  case c1 => rfl
  case c2 => rfl
  case c3 => rfl
  case c4 => decide
  intro Y hw hY hroom
  refine x_if (t_cmp (e_lenb (en hY rfl rfl rfl) (KS.kind hY rfl) (by (exact Nat.le_trans (by assumption) (Nat.le_of_ble_eq_true rfl))) (fun _ => rfl) (fun _ => rfl)) e_int (c_int rfl) rfl) (fun h => ?_) (fun h => ?_)
  · have hd0 : data = [] := List.length_eq_zero_iff.mp (Int.ofNat.inj (of_decide_eq_true h))
    refine x_ret (e_copy (en hY rfl rfl rfl) hi0 (KS.kind hY rfl) (by rw [List.length_map]; (exact Nat.le_trans (by assumption) (Nat.le_of_ble_eq_true rfl))) (fun _ => rfl) (fun _ => rfl)) ⟨0, _, rfl, rfl, ?_⟩
    rw [hnil hd0]; rfl
  have hd0 : data ≠ [] := fun z => absurd (of_decide_eq_false h) (by rw [z]; simp)
  obtain ⟨hjn, l, pe⟩ := hcons hd0
  refine x_nil (show ExecJ _ _ _ _ _ from ?_)
  refine x_go (g_swap3 (e_tuple (es_cons (e_list es_nil rfl) (es_cons (en hY rfl rfl rfl) (es_cons (e_bytesb (en hY rfl rfl rfl) (KS.kind hY rfl) (fun _ => rfl) (fun _ => rfl)) es_nil (fun _ => rfl)) (fun _ => rfl)) (fun _ => rfl)) rfl) (KS.swap hY fun _ _ _ _ _ => rfl) (KS.kind hY rfl) (KS.kind hY rfl) (KS.kind hY rfl) rfl) ?_
  refine x_loop (m_for_list (J := ApJ hp ps off data) (en hY rfl rfl rfl) (hg_old hi0) ?_
    ⟨ApL hp.length off data, LSub.cons rfl (LSub.cons rfl (LSub.cons rfl LSub.nil)), [], off, data, rfl, rfl, rfl, Nat.le_refl _⟩ ?_ ?_ (fun _ => rfl))
  · rintro k l h ⟨fo, b, jn, -, rfl, rfl, -⟩; exact hg_old hi0
  · rintro k v l h hv ⟨fo, b, jn, hst, rfl, rfl, hlf⟩
    obtain ⟨p, hp1, rfl⟩ := apcs_get hv
    have hk := get_lt hp1
    have hpb := hby p (List.mem_of_getElem? hp1)
    have hjk : jn.length ≤ 1000 := by have := hjn k; rw [hst] at this; exact this
    have hst' := fold_snoc (f := pieceStep) (b := ([], (off, data))) hp1
    rw [hst] at hst'
    refine ⟨_, _, (a_tup (as_cons (an hY rfl) (as_cons (an hY rfl) as_nil (fun _ => rfl)) (fun _ => rfl)) (fun _ => rfl) (fun _ => rfl)), ?_⟩
    refine x_go (g_swap2 (e_tuple (es_cons (e_addi (en hY rfl rfl rfl) (e_lenb (en hY rfl rfl rfl) (KS.kind hY rfl) (by (exact Nat.le_trans (by assumption) (Nat.le_of_ble_eq_true rfl))) (fun _ => rfl) (fun _ => rfl))) (es_cons (e_addi (en hY rfl rfl rfl) (e_lenb (en hY rfl rfl rfl) (KS.kind hY rfl) (by (exact Nat.le_trans (by assumption) (Nat.le_of_ble_eq_true rfl))) (fun _ => rfl) (fun _ => rfl))) es_nil (fun _ => rfl)) (fun _ => rfl)) rfl) (KS.swap hY fun _ _ _ _ _ => rfl) (KS.kind hY rfl) (KS.kind hY rfl) rfl) ?_
    refine x_if (t_or_cons (t_cmp (en hY rfl rfl rfl) (en hY rfl rfl rfl) (c_int rfl) rfl) (fun _ => (t_or_cons (t_cmp (en hY rfl rfl rfl) (en hY rfl rfl rfl) (c_int rfl) rfl) (fun _ => t_or_nil)))) (fun h => ?_) (fun h => ?_)
    · rw [Bool.or_false, Bool.or_eq_true, decide_eq_true_eq, decide_eq_true_eq] at h
      refine x_go (g_expr' (e_append (en hY rfl rfl rfl) (e_tuple (es_cons (en hY rfl rfl rfl) (es_cons (en hY rfl rfl rfl) es_nil (fun _ => rfl)) (fun _ => rfl)) rfl) hg_new hg_new (by rw [List.length_map]; omega) set_new (fun _ => rfl) (fun _ => rfl)) rfl) ?_
      refine x_nil (x_nil ⟨ApL hp.length b jn, LSub.cons rfl (LSub.cons rfl (LSub.cons rfl LSub.nil)), fo ++ [p], b, jn, ?_, rfl, by rw [apcs_snoc], by rw [List.length_append]; simp; assumption⟩)
      rw [hst', pieceStep, if_pos h]
    · rw [Bool.or_false, Bool.or_eq_false_iff, decide_eq_false_iff_not, decide_eq_false_iff_not] at h
      have hc := fun (a b : Option Int) => Nat.le_trans (cutL_len jn a b) hjk
      refine x_go (g_asg (e_sliceb (en hY rfl rfl rfl) p_none (p_some (e_max e_int (e_subi (en hY rfl rfl rfl) (en hY rfl rfl rfl)) (KS.kind hY rfl) (fun _ => rfl) (fun _ => rfl) (fun _ => rfl) (fun _ => rfl))) trivial mx_nn (by (exact Nat.le_trans (by assumption) (Nat.le_of_ble_eq_true rfl))) (fun _ _ _ => slb) (fun _ _ _ => by with_unfolding_all rfl)) (an hY rfl) rfl rfl (fun _ => rfl)) ?_
      refine x_go (g_asg (e_sliceb (en hY rfl rfl rfl) (p_some (e_max e_int (e_subi (en hY rfl rfl rfl) (en hY rfl rfl rfl)) (KS.kind hY rfl) (fun _ => rfl) (fun _ => rfl) (fun _ => rfl) (fun _ => rfl))) p_none mx_nn trivial (by (exact Nat.le_trans (by assumption) (Nat.le_of_ble_eq_true rfl))) (fun _ _ _ => slb) (fun _ _ _ => by with_unfolding_all rfl)) (an hY rfl) rfl rfl (fun _ => rfl)) ?_
      refine x_go (g_swap2 (e_tuple (es_cons (e_min (en hY rfl rfl rfl) (en hY rfl rfl rfl) (KS.kind hY rfl) (fun _ => rfl) (fun _ => rfl) (fun _ => rfl) (fun _ => rfl)) (es_cons (e_addb (e_addb (en hY rfl rfl rfl) (en hY rfl rfl rfl) (Nat.le_trans (Nat.add_le_add (hc _ _) hpb) (by decide))) (en hY rfl rfl rfl) (by rw [List.length_append]; exact Nat.le_trans (Nat.add_le_add (Nat.add_le_add (hc _ _) hpb) (hc _ _)) (by decide))) es_nil (fun _ => rfl)) (fun _ => rfl)) rfl) (KS.swap hY fun _ _ _ _ _ => rfl) (KS.kind hY rfl) (KS.kind hY rfl) rfl) ?_
      refine x_nil (x_nil ⟨ApL hp.length _ _, LSub.cons rfl (LSub.cons rfl (LSub.cons rfl LSub.nil)), fo, _, _, ?_, rfl, rfl, by (exact Nat.le_succ_of_le (by assumption))⟩)
      rw [hst', pieceStep, if_neg (fun q => q.elim h.1 h.2)]
  · rintro l' h ⟨fo, b, jn, hst, rfl, rfl, hlf⟩
    rw [show ps.take (apcs ps).length = ps from List.take_of_length_le (Nat.le_of_eq (List.length_map ..).symm)] at hst
    rw [hst] at pe
    obtain ⟨a1, a2, a3, a4, a5, rfl⟩ := pe
    have a6 : fo.length < 9 := a1
    refine x_ret (e_callb (es_cons (e_addl (en hY rfl rfl rfl) (e_list (es_cons (e_tuple (es_cons (en hY rfl rfl rfl) (es_cons (en hY rfl rfl rfl) es_nil (fun _ => rfl)) (fun _ => rfl)) rfl) es_nil (fun _ => rfl)) rfl) (hg_old hg_new) hg_new (by rw [List.length_map]; simp; omega)) es_nil (fun _ => rfl)) (k_sorted (a := fo) (x := (b, jn)) (l := l) (by rw [List.map_append]; exact hg_new) a1 a2 a3 a4 a5) bo_sorted (n_sorted _) (KS.kind hY rfl) (by decide) rfl (fun _ => rfl) (fun _ => rfl) (fun _ => rfl)) ⟨3, _, by simp, by rw [List.append_assoc, List.append_assoc, List.append_assoc], rfl⟩
end
end Mine
end

section
set_option maxHeartbeats 1000000
open PySem PySem.W PyProof.Rows PySem.Calls
namespace Mine
theorem ckIn (q : Params) : CK q 107 := ⟨by k_is, by k_is, by k_is, by k_is⟩
theorem fIn_limit (q : Params) : findIn (hd.heap_39 q) (.ref 107) "limit" = some none := by k_is
theorem fIn_told (q : Params) : findIn (hd.heap_39 q) (.ref 107) "told" = some none := by k_is
theorem fIn_waiting (q : Params) : findIn (hd.heap_39 q) (.ref 107) "waiting" = some none := by k_is
section
variable {X : FX} {hp : Hp}
noncomputable abbrev inF (lim told : Int) (w : Nat) : Loc := [("limit", .int lim), ("told", .int told), ("waiting", .ref w)]
theorem has_waiting_j {o d w : Nat} {lim told : Int} {wt : List Pc} (hr : 0 < X.room) (ho : hp[o]? = some (.inst 107 d)) (hd0 : hp[d]? = some (.dict (inF lim told w))) (hw0 : hp[w]? = some (.list (apcs wt))) (hwl : wt.length ≤ 100) :
    CallJ X hp (.ref 104) [.ref o] (.bool (decide (((wt.length : Nat) : Int) > 0))) hp := by
  refine (?_ : CallQ X hp _ _ (fun u h => u = .bool (decide (((wt.length : Nat) : Int) > 0)) ∧ h = hp)).one fun _ _ h => h
  refine' callq_of (xs := ["self"]) [("self", .ref o)] ?ho ?hcd hr ?hb ?hl rfl ?h ?c1 ?c2 ?c3 ?c4
  case ho => k_is
  case hcd => k_is
  case hb => intro us h; obtain ⟨a, rfl⟩ := len1 h; rfl
  case hl => decide
  case c1 => rfl
  case c2 => rfl
  case c3 => rfl
  case c4 => decide
  intro Y hw hY hroom
  refine x_ret (e_cmp (e_lenl (e_attr (en hY rfl rfl rfl) ho hd0 rfl (ckIn _) (fIn_waiting _) (fun _ => by with_unfolding_all rfl)) hw0 (KS.kind hY rfl) (by rw [List.length_map]; (exact Nat.le_trans (by assumption) (Nat.le_of_ble_eq_true rfl))) (fun _ => rfl) (fun _ => rfl)) e_int (c_int rfl) rfl) ⟨?_, rfl⟩
  rw [List.length_map]
theorem newIn_j {lim : Int} (hr : 2 < X.room) : CallJ X hp (.ref 107) [.int lim] (.ref (hp.length + 1)) (hp ++ [.dict (inF lim 0 (hp.length + 2)), .inst 107 hp.length, .list []]) := by
  refine (callcls_of (C := 107) (fI := 90) (W := fun h => h = hp ++ [.dict (inF lim 0 (hp.length + 2)), .inst 107 hp.length, .list []]) (by k_is) (by k_is) (by k_is) (by (exact Nat.le_of_lt (by assumption))) fun Z hZw hZr => ?_).one fun _ _ h => h
  refine' codeq_of (xs := ["self", "limit"]) [("limit", .int lim), ("self", .ref (hp.length + 1))] ?ho ?hcd (by (exact rm (by assumption) (by assumption) (Nat.le_of_ble_eq_true rfl))) ?hb ?hl rfl ?h ?c1 ?c2 ?c3 ?c4
  case ho => k_is
  case hcd => k_is
  case hb => intro us h; obtain ⟨a, b, rfl⟩ := len2 h; rfl
  case hl => decide
  case c1 => rfl
  case c2 => rfl
  case c3 => rfl
  case c4 => decide
  intro Y hw hY hroom
  have n1 : ∀ f : Loc, (hp ++ [AO.dict f, .inst 107 hp.length])[hp.length + 1]? = some (.inst 107 hp.length) := fun f => by rw [List.getElem?_append_right (by omega)]; simp
  have n2 : ∀ f : Loc, ∀ l : AO, (hp ++ [AO.dict f, .inst 107 hp.length, l])[hp.length + 1]? = some (.inst 107 hp.length) := fun f l => by rw [List.getElem?_append_right (by omega)]; simp
  refine x_go (g_asg (en hY rfl rfl rfl) (a_attr (en hY rfl rfl rfl) (n1 _) hg_new (Nat.le_of_ble_eq_true rfl) (ckIn _) (fIn_limit _) set_new) rfl rfl (fun _ => rfl)) ?_
  refine x_go (g_asg e_int (a_attr (en hY rfl rfl rfl) (n1 _) hg_new (Nat.le_of_ble_eq_true rfl) (ckIn _) (fIn_told _) set_new) rfl rfl (fun _ => rfl)) ?_
  refine x_go (g_asg (e_list es_nil rfl) (a_attr (en hY rfl rfl rfl) (hg_old (n1 _)) (hg_old hg_new) (Nat.le_of_ble_eq_true rfl) (ckIn _) (fIn_waiting _) rfl) rfl rfl (fun _ => rfl)) ?_
  refine x_nil ⟨rfl, ?_⟩
  rw [List.append_assoc, List.length_append]
  exact set_new
end
end Mine
end

section
set_option maxHeartbeats 1000000
open PySem PySem.W PyProof.Rows PySem.Calls
namespace Mine
theorem n_CBE (q : Params) : ∃ t, nsIn (hd.heap_39 q) mainGlobals "CRYPTO_BUFFER_EXCEEDED" = some (some (.int 13 t)) := ⟨_, by k_is⟩
theorem n_CF (q : Params) : ∃ t, nsIn (hd.heap_39 q) mainGlobals "CRYPTO_FRAME" = some (some (.int 6 t)) := ⟨_, by k_is⟩
theorem kp_31 (q : Params) : keepIn (hd.heap_39 q) (.ref 31) = true := by k_is
theorem sa31 (q : Params) : findIn (hd.heap_39 q) (.ref 31) "__setattr__" = some (some (.builtin "object.__setattr__")) := by k_is
theorem t31_code (q : Params) : takerIn (hd.heap_39 q) 31 "code" = some none := by k_is
theorem t31_ft (q : Params) : takerIn (hd.heap_39 q) 31 "frame_type" = some none := by k_is
theorem t31_text (q : Params) : takerIn (hd.heap_39 q) 31 "text" = some none := by k_is
section
variable {X : FX} {loc : Loc} {hp hp1 : Hp}
theorem e_glob {x : Str} {p : Pos} {i : Int} {S : Scope} (K : KS X S) (en : ∃ t, nsIn (hd.heap_39 X.w.params) mainGlobals x = some (some (.int i t))) (hx : S.names.lookup x = some .globalImplicit) (hd : (x == ("__debug__" : Str)) = false) : EvJ X loc hp (.Name x p) (.int i) hp := by
  intro s m news al Q E R k
  obtain ⟨t, en⟩ := en
  exact nm_def R en (K.kind hx) hd (k _ s.heap s.toks _ _ Ext.refl (.int _ _) R)
theorem newExc_j {x : Str} (hr : 2 < X.room) (hx : x.length ≤ 100) : CallJ X hp (.ref 31) [.int 13, .int 6, .str x] (.ref hp.length) (hp ++ [.exc 31 (some (hp.length + 1)), .dict [("code", .int 13), ("frame_type", .int 6), ("text", .str x)]]) := by
  refine (callexc_of (W := fun h => h = hp ++ [.exc 31 (some (hp.length + 1)), .dict [("code", .int 13), ("frame_type", .int 6), ("text", .str x)]]) (ex31 _) (fn28 _) (by (exact Nat.le_of_lt (by assumption))) (Nat.le_of_ble_eq_true rfl) fun Z hZw hZr => ?_).one fun _ _ h => h
  refine' codeq_of (xs := ["self", "code", "frame_type", "text"]) [("text", .str x), ("frame_type", .int 6), ("code", .int 13), ("self", .ref hp.length)] ?ho ?hcd (by (exact rm (by assumption) (by assumption) (Nat.le_of_ble_eq_true rfl))) ?hb ?hl rfl ?h ?c1 ?c2 ?c3 ?c4
  case ho => k_is
  case hcd => k_is
  case hb => intro us h; obtain ⟨a, b, c, d, rfl⟩ := len4 h; rfl
  case hl => decide
  case c1 => rfl
  case c2 => rfl
  case c3 => rfl
  case c4 => decide
  intro Y hw hY hroom
  have hl1 : (Str.ofString (toString (13 : Int))).length + (Str.ofString ": ").length ≤ 1000 := by decide
  have hl2 : (Str.ofString (toString (13 : Int)) ++ Str.ofString ": ").length + x.length ≤ 1000 := by
    have : (Str.ofString (toString (13 : Int)) ++ Str.ofString ": ").length = 4 := by decide
    omega
  refine x_go (g_expr' (e_excinit (es_cons (en hY rfl rfl rfl) (es_cons (e_adds (e_adds (e_callt (es_cons (en hY rfl rfl rfl) es_nil (fun _ => rfl)) (k_strint (by decide)) bo_str (n_str _) (KS.kind hY rfl) (by decide) rfl (fun _ => rfl) (fun _ => rfl) (fun _ => rfl)) e_strc hl1) (en hY rfl rfl rfl) hl2) es_nil (fun _ => rfl)) (fun _ => rfl)) (k_excinit (ex31 _) hg_new) (KS.kind hY rfl) (fun _ => rfl) (fun _ => rfl) (fun _ => rfl)) rfl) ?_
  refine x_go (g_asg (en hY rfl rfl rfl) (a_excattr (en hY rfl rfl rfl) (ex31 _) (sa31 _) (t31_code _) (.inl ⟨hg_new, rfl⟩)) rfl rfl (fun _ => rfl)) ?_
  have e1 : (hp ++ [AO.exc 31 none] ++ [AO.dict [("code", .int 13)]]).set hp.length (.exc 31 (some (hp ++ [AO.exc 31 none]).length)) = hp ++ [.exc 31 (some (hp.length + 1)), .dict [("code", .int 13)]] := by
    rw [List.append_assoc, List.length_append]; exact set_new
  rw [e1]
  have n1 : ∀ f : Loc, (hp ++ [AO.exc 31 (some (hp.length + 1)), .dict f])[hp.length + 1]? = some (.dict f) := fun f => by rw [List.getElem?_append_right (by omega)]; simp
  have s1 : ∀ f f' : Loc, (hp ++ [AO.exc 31 (some (hp.length + 1)), .dict f]).set (hp.length + 1) (.dict f') = hp ++ [.exc 31 (some (hp.length + 1)), .dict f'] := fun f f' => by
    rw [List.set_append_right _ _ (by omega)]; simp
  refine x_go (g_asg (en hY rfl rfl rfl) (a_excattr (en hY rfl rfl rfl) (ex31 _) (sa31 _) (t31_ft _) (.inr ⟨_, _, hg_new, n1 _, by decide, rfl⟩)) rfl rfl (fun _ => rfl)) ?_
  rw [s1]
  refine x_go (g_asg (en hY rfl rfl rfl) (a_excattr (en hY rfl rfl rfl) (ex31 _) (sa31 _) (t31_text _) (.inr ⟨_, _, hg_new, n1 _, Nat.le_of_ble_eq_true rfl, rfl⟩)) rfl rfl (fun _ => rfl)) ?_
  rw [s1]
  exact x_nil ⟨rfl, rfl⟩

theorem rj_if' {t : Expr} {b : Bool} {C : Addr} {body orelse : List Stmt} {p : Pos} {ss : List Stmt} (h : TestJ X loc hp t b hp) (hb : b = true) (h1 : RaiseJ X loc hp body C) : RaiseJ X loc hp (.If t body orelse p :: ss) C := by
  subst hb
  exact rj_if h h1
/-- arrived, of what stands too far -/
theorem arrived_r {o d w : Nat} {lim told off : Int} {data : List UInt8} (hr : 3 < X.room) (ho : hp[o]? = some (.inst 107 d)) (hd0 : hp[d]? = some (.dict (inF lim told w))) (hdat : data.length ≤ 1000) (hfar : off + (data.length : Nat) > told + lim) :
    CallR X hp (.ref 97) [.ref o, .int off, .bytes data] 31 := by
  refine' callr_of (xs := ["self", "offset", "data"]) [("data", .bytes data), ("offset", .int off), ("self", .ref o)] ?ho ?hcd (by (exact Nat.lt_of_le_of_lt (Nat.le_of_ble_eq_true rfl) (by assumption))) ?hb ?hl rfl ?h ?c1 ?c2 ?c3 ?c4
  case ho => k_is
  case hcd => k_is
  case hb => intro us h; obtain ⟨a, b, c, rfl⟩ := len3 h; rfl
  case hl => decide
  case c1 => rfl
  case c2 => rfl
  case c3 => rfl
  case c4 => decide
  intro Y hw hY hroom
  refine rj_if' (t_cmp (e_addi (en hY rfl rfl rfl) (e_lenb (en hY rfl rfl rfl) (KS.kind hY rfl) (by (exact Nat.le_trans (by assumption) (Nat.le_of_ble_eq_true rfl))) (fun _ => rfl) (fun _ => rfl))) (e_addi (e_attr (en hY rfl rfl rfl) ho hd0 rfl (ckIn _) (fIn_told _) (fun _ => by with_unfolding_all rfl)) (e_attr (en hY rfl rfl rfl) ho hd0 rfl (ckIn _) (fIn_limit _) (fun _ => by with_unfolding_all rfl))) (c_int rfl) rfl) (decide_eq_true hfar) ?_
  refine rj_raise (e_callf (es_cons (e_glob hY (n_CBE _) rfl rfl) (es_cons (e_glob hY (n_CF _) rfl rfl) (es_cons e_strc es_nil (fun _ => rfl)) (fun _ => rfl)) (fun _ => rfl)) (newExc_j (by (exact rm (by assumption) (by assumption) (Nat.le_of_ble_eq_true rfl))) (by decide)) (n_QE _) (kp_31 _) (KS.kind hY rfl) rfl (fun _ => rfl) (fun _ => rfl) (fun _ => rfl)) rfl (ex31 _)
end
end Mine
end

section
set_option maxHeartbeats 1000000
open PySem PySem.W PyProof.Rows PySem.Calls
namespace Mine
section
variable {X : FX} {loc : Loc} {hp hp1 : Hp} {P : Post}
theorem x_merge {t : Expr} {b : Bool} {body orelse : List Stmt} {p : Pos} {ss : List Stmt} (L : Loc) (H : Hp) (h : TestJ X loc hp t b hp1) (h1 : b = true → ExecJ X loc hp1 body (fun af l h => af = .next ∧ LSub L l ∧ h = H)) (h2 : b = false → ExecJ X loc hp1 orelse (fun af l h => af = .next ∧ LSub L l ∧ h = H)) (h3 : ExecJ X L H ss P) : ExecJ X loc hp (.If t body orelse p :: ss) P :=
  x_if h (fun hb => x_mono (h1 hb) fun af l h ⟨e1, e2, e3⟩ => by subst e1; subst e3; exact x_weak e2 h3) (fun hb => x_mono (h2 hb) fun af l h ⟨e1, e2, e3⟩ => by subst e1; subst e3; exact x_weak e2 h3)
theorem set_app {g : Hp} {d : Nat} {x : AO} (h : d < hp.length) : (hp ++ g).set d x = hp.set d x ++ g := List.set_append_left _ _ h
noncomputable def arrCut (told off : Int) (data : List UInt8) : Int × List UInt8 := if off < told then (told, cutL data (some (told - off)) none) else (off, data)

/-- arrived, of what is old -/
theorem arrived_old_j {o d w : Nat} {lim told off : Int} {data : List UInt8} (hr : 3 < X.room) (ho : hp[o]? = some (.inst 107 d)) (hd0 : hp[d]? = some (.dict (inF lim told w))) (hdat : data.length ≤ 1000)
    (hfit : ¬ off + (data.length : Nat) > told + lim) (hold : off + (data.length : Nat) ≤ told) :
    CallJ X hp (.ref 97) [.ref o, .int off, .bytes data] (.bytes []) hp := by
  refine (?_ : CallQ X hp _ _ (fun u h => u = .bytes [] ∧ h = hp)).one fun _ _ h => h
  refine' callq_of (xs := ["self", "offset", "data"]) [("data", .bytes data), ("offset", .int off), ("self", .ref o)] ?ho ?hcd (by (exact Nat.lt_of_le_of_lt (Nat.le_of_ble_eq_true rfl) (by assumption))) ?hb ?hl rfl ?h ?c1 ?c2 ?c3 ?c4
  case ho => k_is
  case hcd => k_is
  case hb => intro us h; obtain ⟨a, b, c, rfl⟩ := len3 h; rfl
  case hl => decide
  case c1 => rfl
  case c2 => rfl
  case c3 => rfl
  case c4 => decide
  intro Y hw hY hroom
  refine x_if (t_cmp (e_addi (en hY rfl rfl rfl) (e_lenb (en hY rfl rfl rfl) (KS.kind hY rfl) (by (exact Nat.le_trans (by assumption) (Nat.le_of_ble_eq_true rfl))) (fun _ => rfl) (fun _ => rfl))) (e_addi (e_attr (en hY rfl rfl rfl) ho hd0 rfl (ckIn _) (fIn_told _) (fun _ => by with_unfolding_all rfl)) (e_attr (en hY rfl rfl rfl) ho hd0 rfl (ckIn _) (fIn_limit _) (fun _ => by with_unfolding_all rfl))) (c_int rfl) rfl) (fun h => absurd (of_decide_eq_true h) hfit) (fun h => x_nil (show ExecJ _ _ _ _ _ from ?_))
  refine x_if (t_cmp (e_addi (en hY rfl rfl rfl) (e_lenb (en hY rfl rfl rfl) (KS.kind hY rfl) (by (exact Nat.le_trans (by assumption) (Nat.le_of_ble_eq_true rfl))) (fun _ => rfl) (fun _ => rfl))) (e_attr (en hY rfl rfl rfl) ho hd0 rfl (ckIn _) (fIn_told _) (fun _ => by with_unfolding_all rfl)) (c_int rfl) rfl) (fun h => ?_) (fun h => absurd hold (of_decide_eq_false h))
  exact x_ret e_bconst ⟨rfl, rfl⟩

/-- arrived, of what is new -/
theorem arrived_new_j {o d w : Nat} {lim told off : Int} {data : List UInt8} {wt mid : List Pc} (hr : 3 < X.room) (ho : hp[o]? = some (.inst 107 d)) (hd0 : hp[d]? = some (.dict (inF lim told w))) (hw0 : hp[w]? = some (.list (apcs wt))) (hod : o ≠ d) (hdw : d ≠ w) (hwl : wt.length ≤ 90) (hby : ∀ p ∈ wt, p.2.length ≤ 1000) (hdat : data.length ≤ 1000)
    (hfit : ¬ off + (data.length : Nat) > told + lim) (hnew : ¬ off + (data.length : Nat) ≤ told)
    (hnil : (arrCut told off data).2 = [] → mid = wt) (hcons : (arrCut told off data).2 ≠ [] → (∀ k, ((wt.take k).foldl pieceStep ([], arrCut told off data)).2.2.length ≤ 1000) ∧ ∃ l, PieceEnd (wt.foldl pieceStep ([], arrCut told off data)) mid l)
    (hml : mid.length ≤ 100) (hmy : ∀ p ∈ mid, p.2.length ≤ 1000) (hfl : (mid.foldl (takenStep told) ([], [])).1.length ≤ 1000) :
    CallJ X hp (.ref 97) [.ref o, .int off, .bytes data] (.bytes (mid.foldl (takenStep told) ([], [])).1)
      (hp.set d (.dict (inF lim (told + ((mid.foldl (takenStep told) ([], [])).1.length : Nat)) (hp.length + 1))) ++ [.list (apcs mid), .list (apcs (mid.foldl (takenStep told) ([], [])).2)]) := by
  refine (?_ : CallQ X hp _ _ (fun u h => u = .bytes (mid.foldl (takenStep told) ([], [])).1 ∧ h = hp.set d (.dict (inF lim (told + ((mid.foldl (takenStep told) ([], [])).1.length : Nat)) (hp.length + 1))) ++ [.list (apcs mid), .list (apcs (mid.foldl (takenStep told) ([], [])).2)])).one fun _ _ h => h
  refine' callq_of (xs := ["self", "offset", "data"]) [("data", .bytes data), ("offset", .int off), ("self", .ref o)] ?ho ?hcd (by (exact Nat.lt_of_le_of_lt (Nat.le_of_ble_eq_true rfl) (by assumption))) ?hb ?hl rfl ?h ?c1 ?c2 ?c3 ?c4
  case ho => k_is
  case hcd => k_is
  case hb => intro us h; obtain ⟨a, b, c, rfl⟩ := len3 h; rfl
  case hl => decide
  case c1 => rfl
  case c2 => rfl
  case c3 => rfl
  case c4 => decide
  intro Y hw hY hroom
  have dl := hg_len hd0
  have ol := hg_len ho
  generalize hf : mid.foldl (takenStep told) ([], []) = fl at *
  obtain ⟨f, lf⟩ := fl
  refine x_if (t_cmp (e_addi (en hY rfl rfl rfl) (e_lenb (en hY rfl rfl rfl) (KS.kind hY rfl) (by (exact Nat.le_trans (by assumption) (Nat.le_of_ble_eq_true rfl))) (fun _ => rfl) (fun _ => rfl))) (e_addi (e_attr (en hY rfl rfl rfl) ho hd0 rfl (ckIn _) (fIn_told _) (fun _ => by with_unfolding_all rfl)) (e_attr (en hY rfl rfl rfl) ho hd0 rfl (ckIn _) (fIn_limit _) (fun _ => by with_unfolding_all rfl))) (c_int rfl) rfl) (fun h => absurd (of_decide_eq_true h) hfit) (fun h => x_nil (show ExecJ _ _ _ _ _ from ?_))
  refine x_if (t_cmp (e_addi (en hY rfl rfl rfl) (e_lenb (en hY rfl rfl rfl) (KS.kind hY rfl) (by (exact Nat.le_trans (by assumption) (Nat.le_of_ble_eq_true rfl))) (fun _ => rfl) (fun _ => rfl))) (e_attr (en hY rfl rfl rfl) ho hd0 rfl (ckIn _) (fIn_told _) (fun _ => by with_unfolding_all rfl)) (c_int rfl) rfl) (fun h => absurd (of_decide_eq_true h) hnew) (fun h => x_nil (show ExecJ _ _ _ _ _ from ?_))
  refine x_merge [("offset", .int (arrCut told off data).1), ("data", .bytes (arrCut told off data).2), ("self", .ref o)] hp (t_cmp (en hY rfl rfl rfl) (e_attr (en hY rfl rfl rfl) ho hd0 rfl (ckIn _) (fIn_told _) (fun _ => by with_unfolding_all rfl)) (c_int rfl) rfl) (fun h => ?_) (fun h => ?_) ?_
  · have h' : off < told := of_decide_eq_true h
    refine x_go (g_swap2 (e_tuple (es_cons (e_attr (en hY rfl rfl rfl) ho hd0 rfl (ckIn _) (fIn_told _) (fun _ => by with_unfolding_all rfl)) (es_cons (e_sliceb (en hY rfl rfl rfl) (p_some (e_subi (e_attr (en hY rfl rfl rfl) ho hd0 rfl (ckIn _) (fIn_told _) (fun _ => by with_unfolding_all rfl)) (en hY rfl rfl rfl))) p_none (by show (0:Int) ≤ _; omega) trivial (by (exact Nat.le_trans (by assumption) (Nat.le_of_ble_eq_true rfl))) (fun _ _ _ => slb) (fun _ _ _ => by with_unfolding_all rfl)) es_nil (fun _ => rfl)) (fun _ => rfl)) rfl) (KS.swap hY fun _ _ _ _ _ => rfl) (KS.kind hY rfl) (KS.kind hY rfl) rfl) (x_nil ⟨rfl, ?_, rfl⟩)
    rw [arrCut, if_pos h']
    exact LSub.cons rfl (LSub.cons rfl (LSub.cons rfl LSub.nil))
  · refine x_nil ⟨rfl, ?_, rfl⟩
    rw [arrCut, if_neg (of_decide_eq_false h)]
    exact LSub.cons rfl (LSub.cons rfl (LSub.cons rfl LSub.nil))
  have hcl : (arrCut told off data).2.length ≤ 1000 := by
    unfold arrCut
    split
    · exact Nat.le_trans (cutL_len data (some (told - off)) none) hdat
    · exact hdat
  have o1 : ∀ (x : AO) (g : Hp), (hp.set d x ++ g)[o]? = some (.inst 107 d) := fun x g => hg_old (by rw [List.getElem?_set_ne (Ne.symm hod)]; exact ho)
  have d1 : ∀ (x : AO) (g : Hp), (hp.set d x ++ g)[d]? = some x := fun x g => hg_old (List.getElem?_set_self dl)
  refine x_go (g_asg (e_callf (es_cons (e_attr (en hY rfl rfl rfl) ho hd0 rfl (ckIn _) (fIn_waiting _) (fun _ => by with_unfolding_all rfl)) (es_cons (en hY rfl rfl rfl) (es_cons (en hY rfl rfl rfl) es_nil (fun _ => rfl)) (fun _ => rfl)) (fun _ => rfl))
    (add_piece_j (res := mid) (by (exact rm (by assumption) (by assumption) (Nat.le_of_ble_eq_true rfl))) hw0 (by (exact Nat.le_trans (by assumption) (Nat.le_of_ble_eq_true rfl))) hby hcl hnil hcons) (n_add_piece _) (kp_41 _) (KS.kind hY rfl) rfl (fun _ => rfl) (fun _ => rfl) (fun _ => rfl)) (a_attr (en hY rfl rfl rfl) (hg_old ho) (hg_old hd0) (Nat.le_of_ble_eq_true rfl) (ckIn _) (fIn_waiting _) (set_app dl)) rfl rfl (fun _ => rfl)) ?_
  have m1 : (hp.set d (.dict (inF lim told hp.length)) ++ [AO.list (apcs mid)])[hp.length]? = some (.list (apcs mid)) := by
    have := @hg_new (hp.set d (.dict (inF lim told hp.length))) (AO.list (apcs mid)) []
    rwa [List.length_set] at this
  have hk := taken_from_j (X := Y) (at_ := told) (by (exact rm (by assumption) (by assumption) (Nat.le_of_ble_eq_true rfl))) m1 hml hmy
  rw [hf] at hk
  refine x_go (g_asg (e_callf (es_cons (e_attr (en hY rfl rfl rfl) (o1 _ _) (d1 _ _) rfl (ckIn _) (fIn_waiting _) (fun _ => by with_unfolding_all rfl)) (es_cons (e_attr (en hY rfl rfl rfl) (o1 _ _) (d1 _ _) rfl (ckIn _) (fIn_told _) (fun _ => by with_unfolding_all rfl)) es_nil (fun _ => rfl)) (fun _ => rfl)) hk (n_taken_from _) (kp_48 _) (KS.kind hY rfl) rfl (fun _ => rfl) (fun _ => rfl) (fun _ => rfl))
    (a_tup (as_cons (an hY rfl) (as_cons (a_attr (en hY rfl rfl rfl) (hg_old (o1 _ _)) (hg_old (d1 _ _)) (Nat.le_of_ble_eq_true rfl) (ckIn _) (fIn_waiting _) rfl) as_nil (fun _ => rfl)) (fun _ => rfl)) (fun _ => rfl) (fun _ => rfl)) rfl rfl (fun _ => rfl)) ?_
  have e1 : ∀ (x y : AO) (g : Hp), (hp.set d x ++ g).set d y = hp.set d y ++ g := fun x y g => by rw [set_app (by rw [List.length_set]; exact dl), List.set_set]
  rw [List.append_assoc, e1]
  refine x_go (g_augi (en hY rfl rfl rfl) (o1 _ _) (d1 _ _) rfl (e_lenb (en hY rfl rfl rfl) (KS.kind hY rfl) (by have : f.length ≤ 1000 := hfl; (exact Nat.le_trans (by assumption) (Nat.le_of_ble_eq_true rfl))) (fun _ => rfl) (fun _ => rfl)) (Nat.le_of_ble_eq_true rfl) (ckIn _) (fIn_told _) (e1 _ _ _)) ?_
  refine x_ret (en hY rfl rfl rfl) ⟨rfl, ?_⟩
  rw [List.length_append, List.length_set]
  rfl
end
end Mine
end

section
set_option maxHeartbeats 1000000
open PySem PySem.W PyProof.Rows PySem.Calls
namespace Mine
theorem m_arrived (q : Params) : findIn (hd.heap_39 q) (.ref 107) "arrived" = some (some (.ref 97)) := by k_is
theorem fn_97 (q : Params) : isFn (hd.heap_39 q) (.ref 97) = true := by k_is
theorem kp_97 (q : Params) : keepIn (hd.heap_39 q) (.ref 97) = true := by k_is
theorem g31_ga (q : Params) : findIn (hd.heap_39 q) (.ref 31) "__getattribute__" = some (some (.builtin "BaseException.__getattribute__")) := by k_is
theorem g31_gb (q : Params) : findIn (hd.heap_39 q) (.ref 31) "__getattr__" = some none := by k_is
theorem g31_code (q : Params) : findIn (hd.heap_39 q) (.ref 31) "code" = some none := by k_is
theorem g31_d (q : Params) : hasDictIn (hd.heap_39 q) 31 = true := by k_is
section
variable {X : FX} {hp : Hp}
theorem refusal_g {o d w : Nat} {lim told off : Int} {data : List UInt8} (hr : 4 < X.room) (ho : hp[o]? = some (.inst 107 d)) (hd0 : hp[d]? = some (.dict (inF lim told w))) (hdat : data.length ≤ 1000) (hfar : off + (data.length : Nat) > told + lim) :
    CallG true X hp (.ref 186) [.ref o, .int off, .bytes data] (fun v h => v = .int 13 ∧ h = hp) := by
  refine' callg_of (xs := ["here", "start", "data"]) [("data", .bytes data), ("start", .int off), ("here", .ref o)] ?ho ?hcd (by (exact Nat.lt_of_le_of_lt (Nat.le_of_ble_eq_true rfl) (by assumption))) ?hb ?hl rfl ?h ?c1 ?c2 ?c3 ?c4
  case ho => k_is
  case hcd => k_is
  case hb => intro us h; obtain ⟨a, b, c, rfl⟩ := len3 h; rfl
  case hl => decide
  case c1 => rfl
  case c2 => rfl
  case c3 => rfl
  case c4 => decide
  intro Y hw hY hroom hcv
  refine x_try (e_methR (en hY rfl rfl rfl) ho hd0 rfl (es_cons (en hY rfl rfl rfl) (es_cons (en hY rfl rfl rfl) es_nil (fun _ => rfl)) (fun _ => rfl)) (arrived_r (by (exact rm (by assumption) (by assumption) (Nat.le_of_ble_eq_true rfl))) ho hd0 hdat hfar) (ckIn _) (m_arrived _) (fn_97 _) (kp_97 _) (fun _ => rfl) (fun _ => rfl) (fun _ => rfl)) (ex31 _) (n_QE _) (g31_ga _) (g31_gb _) (g31_code _) (g31_d _) (KS.kind hY rfl) (KS.kind hY rfl) rfl rfl ?s (not_inter _) ⟨rfl, rfl⟩ ?v
  case s => rfl
  case v => exact hcv
end
end Mine
end

section
set_option maxHeartbeats 1000000
open PySem PySem.W PyProof.Rows PySem.Calls
namespace Mine
section
variable {X : FX} {loc loc' : Loc} {hp hp1 hp2 hp3 : Hp} {P : Post} {v : Bool}

/-! the element of a comprehension -/
theorem KS.comp {X : FX} {S sc : Scope} {x : Str} {k : Option NameKind} {cl : List (Str × Addr)} {C : Addr} (h : KS X S) (e : ∀ cn L a ccd cl' cl C, (compEnvC sc cl C (envX cn S L a ccd cl')).kindOf x = k) : (compEnvC sc cl C X.env).kindOf x = k := by
  show (compEnvC sc cl C (envX X.cn X.cs X.L X.a X.ccd X.cl)).kindOf x = k
  rw [h]; exact e _ _ _ _ _ _ _
theorem el_take {S sc : Scope} {c : Addr} {x f y : Str} {k w : Int} {np bp ip p : Pos} {kk : Nat} {fa : Addr} {bv v : AV} (hY : KS X S) (hcv : X.cv = [(y, bv)]) (hcl : X.cl = [(y, c)]) (hk : sc.kind = .function)
    (hky : ∀ cn L a ccd cl' cl C, (compEnvC sc cl C (envX cn S L a ccd cl')).kindOf y = some .cell) (hkf : ∀ cn L a ccd cl' cl C, (compEnvC sc cl C (envX cn S L a ccd cl')).kindOf f = some .globalImplicit)
    (hdy : (y == ("__debug__" : Str)) = false) (hdf : (f == ("__debug__" : Str)) = false)
    (en : nsIn (hd.heap_39 X.w.params) mainGlobals f = some (some (.ref fa))) (hkeep : keepIn (hd.heap_39 X.w.params) (.ref fa) = true)
    (h : CallJ X hp (.ref fa) [bv, .int w] v hp')
    (hc : ∀ env, eval (.Call (.Name f np) [.Name y bp, .Constant (.int w) kk ip] [] p) env = (do callWith p (← eval (.Name f np) env) [] (backTo p (starEach [.Name y bp, .Constant (.int w) kk ip] env)) (backToKw p (keywordEach [] env)))) :
    EltJ X sc [(y, c)] x k hp (.Call (.Name f np) [.Name y bp, .Constant (.int w) kk ip] [] p) v hp' := by
  intro s m news al loc C oC m₂ t Q E R hC hN hx k
  have hfk : (compEnvC sc [(y, c)] C X.env).scope.kind = .function := hk
  refine Call_ (LCgL.ld_global R.C.F X.X X.T en ?_ rfl hfk (hY.comp hkf) hdf) (hc _)
  refine callWith_K X.X hkeep (args_cons ?_ rfl) rfl rfl
  obtain ⟨c', o, u, e1, e2, e3, e4, e5⟩ := R.V.K y bv (by rw [hcv, List.lookup_cons, beq_self_eq_true])
  rw [hcl, List.lookup_cons, beq_self_eq_true] at e1
  cases e1
  refine lcf_cell R.C.N (by rw [List.lookup_cons, beq_self_eq_true]) e2 e4 ?_ hfk (hY.comp hky) hdy
  refine args_cons (wpAny_Constant_int (args_nil ⟨X.X.keeps R.C.F.keep, ?_⟩)) rfl
  exact h { s with toks := s.toks + 1 } _ _ _ _ _ _ R.C (.cons e5 (.cons (.int _ _) .nil)) fun u2 h' tk n2 a2 x2 r2 C2 => k _ _ _ _ _ x2 r2 ⟨C2, R.V.mono x2⟩
theorem el_ifat {S sc : Scope} {cl : List (Str × Addr)} {x : Str} {k a b : Int} {p1 p2 p3 p4 p5 p6 p7 : Pos} {k1 k2 : Nat} {body : Expr} {v : AV} (hY : KS X S) (hk : sc.kind = .function)
    (hkx : ∀ cn L a ccd cl' cl C, (compEnvC sc cl C (envX cn S L a ccd cl')).kindOf x = some .local) (hdx : (x == ("__debug__" : Str)) = false)
    (h1 : k > a → EltJ X sc cl x k hp body v hp1) (h2 : ¬ k > a → hp1 = hp ∧ v = .int (b + k)) :
    EltJ X sc cl x k hp (.IfExp (.Compare (.Name x p1) [.Gt] [.Constant (.int a) k1 p2] p3) body (.BinOp (.Constant (.int b) k2 p4) .Add (.Name x p5) p6) p7) v hp1 := by
  intro s m news al loc C oC m₂ t Q E R hC hN hx kk
  have hfk : (compEnvC sc cl C X.env).scope.kind = .function := hk
  refine IfExp_ (wpAny_isTrue_Compare1 ?_ rfl)
  refine LCgL.ld_own R.C.N hC hN hx (wpAny_Constant_int ?_) hfk (hY.comp hkx) hdx
  refine gt_int (wpAny_truthy_bool ?_)
  by_cases hka : k > a
  · rw [decide_eq_true hka, if_pos rfl]
    exact h1 hka { s with toks := s.toks + 1 } _ _ _ _ C oC _ t _ _ R hC hN hx kk
  · rw [decide_eq_false hka, if_neg (by simp)]
    obtain ⟨rfl, rfl⟩ := h2 hka
    refine wpAny_BinOp (wpAny_Constant_int ?_)
    exact LCgL.ld_own R.C.N hC hN hx (add_int (kk _ _ _ _ _ Ext.refl (.int _ _) R)) hfk (hY.comp hkx) hdx
theorem clos_one {sc : Scope} {y : Str} {c : Addr} (hcl : X.cl = [(y, c)]) (e : ∀ cn cs L a ccd, closureFor sc (envX cn cs L a ccd [(y, c)]) = pure [(y, c)]) : closureFor sc X.env = pure [(y, c)] := by
  show closureFor sc (envX X.cn X.cs X.L X.a X.ccd X.cl) = _
  rw [hcl]; exact e _ _ _ _ _

/-! expressions that shake the ground -/
theorem CallQ.g {f : Value} {vs : List AV} {W : AV → Hp → Prop} (h : CallQ X hp f vs W) : CallG v X hp f vs W := fun s m news al us Q E C r k =>
  h _ _ _ _ _ _ _ C r fun u a p h' tk n a' hW => k X u a p h' tk n a' Tu.refl hW
theorem absG {ss : List Stmt} (Q : Loc → Hp → Prop) (hq : Q loc hp) (h : ∀ loc hp, Q loc hp → ExecG v X loc hp ss P) : ExecG v X loc hp ss P := h _ _ hq
theorem Tu.cv {X Y : FX} (a : Tu v X Y) : Y.cv = X.cv ∧ Y.cl = X.cl := by
  obtain ⟨g, t, e, B, K, T, D⟩ := a
  exact ⟨rfl, rfl⟩
noncomputable def EvG (v : Bool) (X : FX) (loc : Loc) (hp : Hp) (e : Expr) (W : AV → Hp → Prop) : Prop :=
  ∀ s m news al (Q E : Value → Shared → Prop), RepS X loc hp s.heap m news al →
    (∀ X' u a hp' h' tk news' al', Tu v X X' → W a hp' → Ext news al news' al' → VRep news' al' u a → RepS X' loc hp' h' m news' al' → Q u { s with heap := h', toks := tk }) → wpAny X.M X.A (eval e X.env) Q E s
theorem VR.tu {X X' : FX} {news : Led} {al : List Addr} {m : Str → Option Value} (t : Tu v X X') (V : VR X news al m loc) : VR X' news al m loc := by
  obtain ⟨g, t, e, B, K, T, D⟩ := t
  exact ⟨V.L, V.K⟩
theorem e_callfG {x : Str} {np p : Pos} {e : Expr} {es : List Expr} {f : Addr} {vs : List AV} {W : AV → Hp → Prop} (h1 : EvsJ X loc hp (e :: es) vs hp1) (h2 : CallG v X hp1 (.ref f) vs W) (en : nsIn (hd.heap_39 X.w.params) mainGlobals x = some (some (.ref f))) (hkeep : keepIn (hd.heap_39 X.w.params) (.ref f) = true)
    (hx : X.env.kindOf x = some .globalImplicit) (hd : (x == ("__debug__" : Str)) = false)
    (hs : ∀ env, starEach (e :: es) env = (false, eval e env) :: starEach es env) (hpl : ∀ env, (backTo p (starEach es env)).any (·.1) = false)
    (hc : ∀ env, eval (.Call (.Name x np) (e :: es) [] p) env = (do callWith p (← eval (.Name x np) env) [] (backTo p (starEach (e :: es) env)) (backToKw p (keywordEach [] env)))) : EvG v X loc hp (.Call (.Name x np) (e :: es) [] p) W := by
  intro s m news al Q E R k
  refine Call_ (nm_def R en hx hd ?_) (hc _)
  refine callWith_K X.X hkeep (h1 _ _ _ _ _ _ _ R fun us g1 t1 n1 a1 x1 r1 R1 => ⟨X.X.keeps R1.C.F.keep, ?_⟩) (hs _) (hpl _)
  exact h2 _ _ _ _ _ _ _ R1.C r1 fun X' u a p2 g2 t2 n2 a2 hT hW x2 r2 C2 => k _ _ _ _ _ _ _ _ hT hW (x1.trans x2) r2 ⟨C2, (R1.V.mono x2).tu hT⟩
theorem e_methG {o e : Expr} {es : List Expr} {name : Str} {ap p : Pos} {i d : Nat} {C f : Addr} {fs : Loc} {vs : List AV} {W : AV → Hp → Prop} {pl : Env → Sem Bool} (h1 : EvJ X loc hp o (.ref i) hp1) (hi : hp1[i]? = some (.inst C d)) (hd : hp1[d]? = some (.dict fs)) (hno : fs.lookup name = .none)
    (h2 : EvsJ X loc hp1 (e :: es) vs hp2) (h3 : CallG v X hp2 (.ref f) (.ref i :: vs) W)
    (ck : CK X.w.params C) (hf : findIn (Mine.hd.heap_39 X.w.params) (.ref C) name = some (some (.ref f))) (ht : isFn (Mine.hd.heap_39 X.w.params) (.ref f) = true) (hkeep : keepIn (Mine.hd.heap_39 X.w.params) (.ref f) = true)
    (hs : ∀ env, starEach (e :: es) env = (false, eval e env) :: starEach es env) (hpl : ∀ env, (backTo p (starEach es env)).any (·.1) = false)
    (hc : ∀ env, eval (.Call (.Attribute o name ap) (e :: es) [] p) env = (do let ov ← eval o env; standAt ap.atName; let (f, first) ← holding [ov] (getMethod ov name (pl env)); callWith p f first (backTo p (starEach (e :: es) env)) [])) :
    EvG v X loc hp (.Call (.Attribute o name ap) (e :: es) [] p) W := by
  intro s m news al Q E R k
  refine MethodCall_ (h1 _ _ _ _ _ _ R fun u1 g1 t1 n1 a1 x1 r1 R1 => R1.C.instC r1 hi hd fun a dx ens n hal hald hm1 hm2 hes => method_inst R1.C.F X.X (R1.C.instAt hm1 hm2) ck.pg hf ht (hes.none hno) ?_) (hc _)
  refine callWith_K X.X hkeep (h2 _ _ _ _ _ _ _ R1 fun us g2 t2 n2 a2 x2 r2 R2 => ⟨X.X.keeps R2.C.F.keep, ?_⟩) (hs _) (hpl _)
  exact h3 _ _ _ _ _ _ _ R2.C (.cons (.ref (x2.get hal)) r2) fun X' u b p3 g3 t3 n3 a3 hT hW x3 r3 C3 => k _ _ _ _ _ _ _ _ hT hW ((x1.trans x2).trans x3) r3 ⟨C3, (R2.V.mono x3).tu hT⟩
theorem x_exprG {e : Expr} {p : Pos} {ss : List Stmt} {W : AV → Hp → Prop} (h1 : EvG v X loc hp e W) (hs : swapsWith e none p.line X.env = pure false) (h2 : ∀ X' a h, Tu v X X' → W a h → ExecG v X' loc h ss P) : ExecG v X loc hp (.Expr e p :: ss) P := by
  intro s m news al Q E R k
  refine wpAny_execs_cons (wpAny_Expr_any (h1 _ _ _ _ _ _ R fun X' u a hp' h' tk n' a' hT hW hx r R' => ?_) (not_inter X) hs)
  have h2' := h2 _ _ _ hT hW
  obtain ⟨g, t, e, B, K, T, D⟩ := id hT
  exact h2' _ _ _ _ _ _ R' fun X2 fl af l p h2 tk2 m2 n2 a2 hT2 hP hF hx2 R2 => k _ _ _ _ _ _ _ _ _ _ (hT.trans hT2) hP hF (hx.trans hx2) R2
/-- if e != e2, of values that are alike -/
theorem x_ifGf {l r : Expr} {op : CmpOp} {p1 p2 : Pos} {body ss : List Stmt} {va b : AV} (h1 : EvG v X loc hp l (fun a h => a = va ∧ h = hp1)) (h2 : ∀ X', Tu v X X' → EvJ X' loc hp1 r b hp2) (h3 : ∀ X', Tu v X X' → CmpJ X' hp2 op va b false) (hm : behindInMarks op r = false)
    (h4 : ∀ X', Tu v X X' → ExecG v X' loc hp2 ss P) : ExecG v X loc hp (.If (.Compare l [op] [r] p1) body [] p2 :: ss) P := by
  intro s m news al Q E R k
  refine wpAny_execs_cons (wpAny_If (wpAny_isTrue_Compare1 (h1 _ _ _ _ _ _ R fun X' u a hp' g1 t1 n1 a1 hT hW x1 r1 R1 => ?_) hm))
  obtain ⟨rfl, rfl⟩ := hW
  have h2' := h2 _ hT
  have h3' := h3 _ hT
  have h4' := h4 _ hT
  obtain ⟨g, t, e, B, K, T, D⟩ := id hT
  refine h2' _ _ _ _ _ _ R1 fun u2 g2 t2 n2 a2 x2 r2 R2 => ?_
  refine h3' _ _ _ _ _ _ _ _ R2.C (r1.mono x2) r2 fun g3 t3 n3 a3 x3 C3 => wpAny_truthy_bool ?_
  refine wp_neg ?_
  refine wpAny_execs_nil ?_
  exact h4' _ _ _ _ _ _ ⟨C3, R2.V.mono x3⟩ fun X2 fl af l p h2 tk2 m2 n2 a2 hT2 hP hF hx2 R2 => k _ _ _ _ _ _ _ _ _ _ (hT.trans hT2) hP hF (((x1.trans x2).trans x3).trans hx2) R2
theorem x_retAnd {e1 e2 : Expr} {p1 p2 : Pos} {ss : List Stmt} {W1 : Hp → Prop} {W2 : AV → Hp → Prop} (h1 : EvG v X loc hp e1 (fun a h => a = .bool true ∧ W1 h)) (h2 : ∀ X' h, Tu v X X' → W1 h → EvG v X' loc h e2 W2) (hP : ∀ a h, W2 a h → P (.ret a) loc h) :
    ExecG v X loc hp (.Return (some (.BoolOp .And [e1, e2] p1)) p2 :: ss) P := by
  intro s m news al Q E R k
  refine wpAny_execs_cons (wpAny_Return_some (BoolOp_and (h1 _ _ _ _ _ _ R fun X' u a hp' g1 t1 n1 a1 hT hW x1 r1 R1 => ?_)))
  obtain ⟨rfl, hW⟩ := hW
  have h2' := h2 _ _ hT hW
  cases r1
  refine wpAny_truthy_bool ?_
  refine wp_pos ?_
  obtain ⟨g, t, e, B, K, T, D⟩ := id hT
  exact BoolOp_one (h2' _ _ _ _ _ _ R1 fun X2 u2 a2 p2 g2 t2 n2 b2 hT2 hW2 x2 r2 R2 => k _ _ _ _ _ _ _ _ _ _ (hT.trans hT2) (hP _ _ hW2) (.ret r2) (x1.trans x2) R2)
end
end Mine
end

section
namespace Mine
noncomputable def Can (sp : Sp) : Prop := sp.Pairwise (fun p q => p.2 < q.1) ∧ ∀ p ∈ sp, p.1 < p.2
noncomputable def In (sp : Sp) (i : Int) : Prop := ∃ p ∈ sp, p.1 ≤ i ∧ i < p.2
theorem In.nil {i : Int} : ¬ In [] i := fun ⟨_, h, _⟩ => by cases h
theorem In.cons {p : Int × Int} {r : Sp} {i : Int} : In (p :: r) i ↔ (p.1 ≤ i ∧ i < p.2) ∨ In r i := by
  unfold In
  simp only [List.mem_cons, or_and_right, exists_or, exists_eq_left]
theorem In.app {a b : Sp} {i : Int} : In (a ++ b) i ↔ In a i ∨ In b i := by
  unfold In
  simp only [List.mem_append, or_and_right, exists_or]
theorem Can.tail {p : Int × Int} {r : Sp} (h : Can (p :: r)) : Can r := ⟨(List.pairwise_cons.mp h.1).2, fun q hq => h.2 q (.tail _ hq)⟩
theorem Can.gap {p : Int × Int} {r : Sp} (h : Can (p :: r)) : ∀ q ∈ r, p.2 < q.1 := (List.pairwise_cons.mp h.1).1
theorem Can.one {p : Int × Int} {r : Sp} (h : Can (p :: r)) : p.1 < p.2 := h.2 p (.head _)
theorem Can.cons {p : Int × Int} {r : Sp} (h : Can r) (h1 : p.1 < p.2) (h2 : ∀ q ∈ r, p.2 < q.1) : Can (p :: r) :=
  ⟨List.pairwise_cons.mpr ⟨h2, h.1⟩, fun q hq => by rcases List.mem_cons.mp hq with e | hq; · rw [e]; exact h1
                                                    exact h.2 q hq⟩
theorem Can.nil : Can [] := ⟨.nil, fun _ h => by cases h⟩
theorem mn_l {a b : Int} (h : a ≤ b) : mn a b = a := if_neg (Int.not_lt.mpr h)
theorem mx_l {a b : Int} (h : b ≤ a) : mx a b = a := if_neg (Int.not_lt.mpr h)
theorem mn_r {a b : Int} (h : b ≤ a) : mn a b = b := by
  unfold mn; split
  · rfl
  · exact Int.le_antisymm (Int.not_lt.mp ‹_›) h
theorem mx_r {a b : Int} (h : a ≤ b) : mx a b = b := by
  unfold mx; split
  · rfl
  · exact Int.le_antisymm h (Int.not_lt.mp ‹_›)
theorem mn_le {a b : Int} : mn a b ≤ a ∧ mn a b ≤ b ∧ (mn a b = a ∨ mn a b = b) := by
  unfold mn; split
  · exact ⟨Int.le_of_lt ‹_›, Int.le_refl _, .inr rfl⟩
  · exact ⟨Int.le_refl _, Int.not_lt.mp ‹_›, .inl rfl⟩
theorem mx_ge {a b : Int} : a ≤ mx a b ∧ b ≤ mx a b ∧ (mx a b = a ∨ mx a b = b) := by
  unfold mx; split
  · exact ⟨Int.le_of_lt ‹_›, Int.le_refl _, .inr rfl⟩
  · exact ⟨Int.le_refl _, Int.not_lt.mp ‹_›, .inl rfl⟩

theorem lt_mn {i a b : Int} : i < mn a b ↔ i < a ∧ i < b := by
  rcases Int.le_total a b with h | h
  · rw [mn_l h]; exact ⟨fun z => ⟨z, Int.lt_of_lt_of_le z h⟩, fun z => z.1⟩
  · rw [mn_r h]; exact ⟨fun z => ⟨Int.lt_of_lt_of_le z h, z⟩, fun z => z.2⟩
theorem mx_le {i a b : Int} : mx a b ≤ i ↔ a ≤ i ∧ b ≤ i := by
  rcases Int.le_total a b with h | h
  · rw [mx_r h]; exact ⟨fun z => ⟨Int.le_trans h z, z⟩, fun z => z.2⟩
  · rw [mx_l h]; exact ⟨fun z => ⟨z, Int.le_trans h z⟩, fun z => z.1⟩
theorem mn_or {i a b : Int} : mn a b ≤ i ↔ a ≤ i ∨ b ≤ i := by
  rcases Int.le_total a b with h | h
  · rw [mn_l h]; exact ⟨.inl, fun z => z.elim id (Int.le_trans h)⟩
  · rw [mn_r h]; exact ⟨.inr, fun z => z.elim (Int.le_trans h) id⟩
theorem mx_or {i a b : Int} : i < mx a b ↔ i < a ∨ i < b := by
  rcases Int.le_total a b with h | h
  · rw [mx_r h]; exact ⟨.inr, fun z => z.elim (fun y => Int.lt_of_lt_of_le y h) id⟩
  · rw [mx_l h]; exact ⟨.inl, fun z => z.elim id fun y => Int.lt_of_lt_of_le y h⟩
theorem span_or {i lo hi a b : Int} (h1 : lo ≤ b) (h2 : a ≤ hi) : mn lo a ≤ i ∧ i < mx hi b ↔ (a ≤ i ∧ i < b) ∨ (lo ≤ i ∧ i < hi) := by
  rw [mn_or, mx_or]
  refine ⟨fun z => ?_, fun z => z.elim (fun y => ⟨.inr y.1, .inr y.2⟩) fun y => ⟨.inl y.1, .inl y.2⟩⟩
  rcases z with ⟨x | x, y | y⟩
  · exact .inr ⟨x, y⟩
  · rcases Int.lt_or_le i a with w | w
    · exact .inr ⟨x, Int.lt_of_lt_of_le w h2⟩
    · exact .inl ⟨w, y⟩
  · rcases Int.lt_or_le i lo with w | w
    · exact .inl ⟨x, Int.lt_of_lt_of_le w h1⟩
    · exact .inr ⟨w, y⟩
  · exact .inl ⟨x, y⟩
theorem span_cut {i lo hi a b : Int} : (a ≤ i ∧ i < mn b lo) ∨ (mx a hi ≤ i ∧ i < b) ↔ (a ≤ i ∧ i < b) ∧ ¬ (lo ≤ i ∧ i < hi) := by
  rw [lt_mn, mx_le]
  refine ⟨fun z => z.elim (fun y => ⟨⟨y.1, y.2.1⟩, fun w => absurd y.2.2 (Int.not_lt.mpr w.1)⟩) fun y => ⟨⟨y.1.1, y.2⟩, fun w => absurd w.2 (Int.not_lt.mpr y.1.2)⟩, fun z => ?_⟩
  rcases Int.lt_or_le i lo with w | w
  · exact .inl ⟨z.1.1, z.1.2, w⟩
  · exact .inr ⟨⟨z.1.1, Int.not_lt.mp fun y => z.2 ⟨w, y⟩⟩, z.1.2⟩
/-- a span put into a row of spans -/
noncomputable def addR : Sp → Int → Int → Sp
  | [], lo, hi => [(lo, hi)]
  | p :: r, lo, hi => if p.2 < lo then p :: addR r lo hi else if hi < p.1 then (lo, hi) :: p :: r else addR r (mn lo p.1) (mx hi p.2)
theorem addR_low {x : Int} : ∀ {sp : Sp} {lo hi : Int}, x < lo → (∀ p ∈ sp, x < p.1) → ∀ q ∈ addR sp lo hi, x < q.1
  | [], lo, hi, h, _, q, hq => by rw [List.mem_singleton.mp hq]; exact h
  | p :: r, lo, hi, h, hp, q, hq => by
    unfold addR at hq
    have hr := fun q hq => hp q (.tail _ hq)
    split at hq
    · rcases List.mem_cons.mp hq with e | hq
      · rw [e]; exact hp p (.head _)
      · exact addR_low h hr q hq
    · split at hq
      · rcases List.mem_cons.mp hq with e | hq
        · rw [e]; exact h
        · exact hp q hq
      · refine addR_low ?_ hr q hq
        rcases (@mn_le lo p.1).2.2 with e | e <;> rw [e]
        · exact h
        · exact hp p (.head _)
theorem addR_high {x : Int} : ∀ {sp : Sp} {lo hi : Int}, hi ≤ x → (∀ p ∈ sp, p.2 ≤ x) → ∀ q ∈ addR sp lo hi, q.2 ≤ x
  | [], lo, hi, h, _, q, hq => by rw [List.mem_singleton.mp hq]; exact h
  | p :: r, lo, hi, h, hp, q, hq => by
    unfold addR at hq
    have hr := fun q hq => hp q (.tail _ hq)
    split at hq
    · rcases List.mem_cons.mp hq with e | hq
      · rw [e]; exact hp p (.head _)
      · exact addR_high h hr q hq
    · split at hq
      · rcases List.mem_cons.mp hq with e | hq
        · rw [e]; exact h
        · exact hp q hq
      · refine addR_high ?_ hr q hq
        rcases (@mx_ge hi p.2).2.2 with e | e <;> rw [e]
        · exact h
        · exact hp p (.head _)
theorem addR_can : ∀ {sp : Sp} {lo hi : Int}, Can sp → lo < hi → Can (addR sp lo hi)
  | [], lo, hi, _, h => Can.nil.cons h fun _ h => by cases h
  | p :: r, lo, hi, c, h => by
    unfold addR
    split
    · exact (addR_can c.tail h).cons c.one (addR_low ‹_› c.gap)
    · split
      · refine c.cons h fun q hq => ?_
        rcases List.mem_cons.mp hq with e | hq
        · rw [e]; assumption
        · exact Int.lt_trans ‹_› (Int.lt_trans c.one (c.gap q hq))
      · exact addR_can c.tail (Int.lt_of_le_of_lt (@mn_le lo p.1).1 (Int.lt_of_lt_of_le h (@mx_ge hi p.2).1))
theorem addR_in {i : Int} : ∀ {sp : Sp} {lo hi : Int}, Can sp → lo < hi → (In (addR sp lo hi) i ↔ In sp i ∨ (lo ≤ i ∧ i < hi))
  | [], lo, hi, _, h => by
    unfold addR
    rw [In.cons, or_comm]
  | p :: r, lo, hi, c, h => by
    unfold addR
    split
    · rw [In.cons, In.cons, addR_in c.tail h, or_assoc]
    · split
      · rw [In.cons, or_comm]
      · rw [addR_in c.tail (Int.lt_of_le_of_lt (@mn_le lo p.1).1 (Int.lt_of_lt_of_le h (@mx_ge hi p.2).1)), In.cons, or_comm (b := In r i), or_assoc]
        exact or_congr_right (span_or (Int.not_lt.mp ‹_›) (Int.not_lt.mp ‹_›))

/-! as add_span does it -/
theorem addStep_rest : ∀ {r : Sp} {fo : Sp} {lo hi : Int}, (∀ q ∈ r, hi < q.1) → r.foldl addStep (fo, true, lo, hi) = (fo ++ r, true, lo, hi)
  | [], fo, lo, hi, _ => by simp
  | p :: r, fo, lo, hi, h => by
    rw [List.foldl_cons]
    have e : addStep (fo, true, lo, hi) p = (fo ++ [p], true, lo, hi) := by
      unfold addStep
      split
      · rfl
      · rw [if_pos (h p (.head _))]; simp
    rw [e, addStep_rest fun q hq => h q (.tail _ hq)]
    simp
theorem addStep_run : ∀ {sp : Sp} {fo : Sp} {lo hi : Int}, Can sp → addEnd (sp.foldl addStep (fo, false, lo, hi)) = fo ++ addR sp lo hi
  | [], fo, lo, hi, _ => rfl
  | p :: r, fo, lo, hi, c => by
    have e : addStep (fo, false, lo, hi) p = if p.2 < lo then (fo ++ [p], false, lo, hi) else if hi < p.1 then (fo ++ [(lo, hi)] ++ [p], true, lo, hi) else (fo, false, mn lo p.1, mx hi p.2) := rfl
    rw [List.foldl_cons, e, addR]
    split
    · rw [addStep_run c.tail]; simp
    · split
      · rw [addStep_rest fun q hq => Int.lt_trans ‹_› (Int.lt_trans c.one (c.gap q hq))]
        simp [addEnd]
      · rw [addStep_run c.tail]
theorem addSpan_eq {sp : Sp} {lo hi : Int} (c : Can sp) (h : lo < hi) : addSpan sp lo hi = addR sp lo hi := by
  unfold addSpan
  rw [if_neg (Int.not_le.mpr h), addStep_run c]; rfl

/-! as add_piece does it -/
noncomputable def hs (st : Sp × (Int × Int)) (p : Int × Int) : Sp × (Int × Int) := if p.2 < st.2.1 ∨ st.2.2 < p.1 then (st.1 ++ [p], st.2) else (st.1, (mn st.2.1 p.1, mx st.2.2 p.2))
theorem hs_rest : ∀ {r fo : Sp} {H : Int × Int}, (∀ q ∈ r, H.2 < q.1) → r.foldl hs (fo, H) = (fo ++ r, H)
  | [], fo, H, _ => by simp
  | p :: r, fo, H, h => by
    rw [List.foldl_cons, hs, if_pos (.inr (h p (.head _))), hs_rest fun q hq => h q (.tail _ hq)]
    simp
theorem hs_run : ∀ {sp fo : Sp} {lo hi : Int}, Can sp → ∃ a b H, sp.foldl hs (fo, (lo, hi)) = (fo ++ (a ++ b), H) ∧ addR sp lo hi = a ++ H :: b
  | [], fo, lo, hi, _ => ⟨[], [], (lo, hi), by simp, rfl⟩
  | p :: r, fo, lo, hi, c => by
    have e : hs (fo, (lo, hi)) p = if p.2 < lo ∨ hi < p.1 then (fo ++ [p], (lo, hi)) else (fo, (mn lo p.1, mx hi p.2)) := rfl
    rw [List.foldl_cons, e, addR]
    by_cases h1 : p.2 < lo
    · rw [if_pos (.inl h1), if_pos h1]
      obtain ⟨a, b, H, e1, e2⟩ := @hs_run r (fo ++ [p]) lo hi c.tail
      exact ⟨p :: a, b, H, by rw [e1]; simp, by rw [e2]; rfl⟩
    · rw [if_neg h1]
      by_cases h2 : hi < p.1
      · rw [if_pos (.inr h2), if_pos h2, hs_rest fun q hq => Int.lt_trans h2 (Int.lt_trans c.one (c.gap q hq))]
        exact ⟨[], p :: r, (lo, hi), by simp, rfl⟩
      · rw [if_neg (fun h => h.elim h1 h2), if_neg h2]
        exact hs_run c.tail

/-! cuts -/
noncomputable def cutR (lo hi : Int) : Sp → Sp
  | [] => []
  | p :: r => (if p.1 < mn p.2 lo then [(p.1, mn p.2 lo)] else []) ++ (if mx p.1 hi < p.2 then [(mx p.1 hi, p.2)] else []) ++ cutR lo hi r
theorem cutStep_run {lo hi : Int} : ∀ {sp fo : Sp}, sp.foldl (cutStep lo hi) fo = fo ++ cutR lo hi sp
  | [], fo => by simp [cutR]
  | p :: r, fo => by
    rw [List.foldl_cons, cutStep_run, cutStep, cutR, List.append_assoc, List.append_assoc, List.append_assoc]
theorem cutSpan_eq {sp : Sp} {lo hi : Int} (h : lo < hi) : cutSpan sp lo hi = cutR lo hi sp := by
  unfold cutSpan
  rw [if_pos h, cutStep_run]; rfl
theorem cutR_sub {lo hi : Int} : ∀ {sp : Sp} {q : Int × Int}, q ∈ cutR lo hi sp → q.1 < q.2 ∧ ∃ p ∈ sp, p.1 ≤ q.1 ∧ q.2 ≤ p.2
  | p :: r, q, hq => by
    unfold cutR at hq
    rcases List.mem_append.mp hq with hq | hq
    · rcases List.mem_append.mp hq with hq | hq
      · split at hq
        · rw [List.mem_singleton.mp hq]; exact ⟨‹_›, p, .head _, Int.le_refl _, mn_le.1⟩
        · cases hq
      · split at hq
        · rw [List.mem_singleton.mp hq]; exact ⟨‹_›, p, .head _, mx_ge.1, Int.le_refl _⟩
        · cases hq
    · obtain ⟨h, p', hp', a⟩ := cutR_sub hq
      exact ⟨h, p', .tail _ hp', a⟩
theorem cutR_can {lo hi : Int} (h : lo < hi) : ∀ {sp : Sp}, Can sp → Can (cutR lo hi sp)
  | [], _ => Can.nil
  | p :: r, c => by
    have ih := cutR_can h c.tail
    have hb : ∀ x, x ≤ p.2 → ∀ q ∈ cutR lo hi r, x < q.1 := fun x hx q hq => by
      obtain ⟨-, p', hp', h1, -⟩ := cutR_sub hq
      exact Int.lt_of_le_of_lt hx (Int.lt_of_lt_of_le (c.gap p' hp') h1)
    unfold cutR
    rw [List.append_assoc]
    have ih2 : Can ((if mx p.1 hi < p.2 then [(mx p.1 hi, p.2)] else []) ++ cutR lo hi r) := by
      split
      · exact ih.cons ‹_› (hb _ (Int.le_refl _))
      · exact ih
    split
    · refine ih2.cons ‹_› fun q hq => ?_
      rcases List.mem_append.mp hq with hq | hq
      · split at hq
        · rw [List.mem_singleton.mp hq]
          exact Int.lt_of_le_of_lt mn_le.2.1 (Int.lt_of_lt_of_le h mx_ge.2.1)
        · cases hq
      · exact hb _ mn_le.1 q hq
    · exact ih2
theorem In.opt {a b i : Int} : In (if a < b then [(a, b)] else []) i ↔ a ≤ i ∧ i < b := by
  split
  · rw [In.cons]; exact or_iff_left In.nil
  · exact ⟨fun h => (In.nil h).elim, fun h => absurd (Int.lt_of_le_of_lt h.1 h.2) ‹_›⟩
theorem cutR_in {lo hi i : Int} (h : lo < hi) : ∀ {sp : Sp}, In (cutR lo hi sp) i ↔ In sp i ∧ ¬ (lo ≤ i ∧ i < hi)
  | [] => ⟨fun h => (In.nil h).elim, fun h => (In.nil h.1).elim⟩
  | p :: r => by
    rw [cutR, In.app, In.app, In.cons, cutR_in h, or_and_right, In.opt, In.opt]
    exact or_congr_left span_cut

/-- how many spans stand below n -/
theorem Can.len : ∀ {sp : Sp} {lo n : Int}, Can sp → (∀ p ∈ sp, lo ≤ p.1) → (∀ p ∈ sp, p.2 ≤ n) → lo ≤ n + 1 → 2 * (sp.length : Int) ≤ n + 1 - lo
  | [], lo, n, _, _, _, h => by simp; assumption
  | p :: r, lo, n, c, h1, h2, _ => by
    have a := c.one
    have b := h1 p (.head _)
    have d := h2 p (.head _)
    have := @Can.len r (p.2 + 1) n c.tail (fun q hq => c.gap q hq) (fun q hq => h2 q (.tail _ hq)) (by omega)
    rw [List.length_cons]
    push_cast
    omega
end Mine
end

section
namespace Mine
/-! slices -/
noncomputable def sl (oc : List UInt8) (a b : Int) : List UInt8 := cutL oc (some a) (some b)
theorem sl_nat (oc : List UInt8) (x y : Nat) : sl oc x y = (oc.take y).drop x := rfl
theorem sl_len {oc : List UInt8} {a b : Int} (h0 : 0 ≤ a) (h1 : a ≤ b) (h2 : b ≤ oc.length) : a + ((sl oc a b).length : Nat) = b := by
  obtain ⟨y, rfl⟩ := Int.eq_ofNat_of_zero_le (Int.le_trans h0 h1)
  obtain ⟨x, rfl⟩ := Int.eq_ofNat_of_zero_le h0
  rw [sl_nat, List.length_drop, List.length_take, Nat.min_eq_left (Int.ofNat_le.mp h2), ← Int.natCast_add, Nat.add_sub_cancel' (Int.ofNat_le.mp h1)]
theorem sl_nil {oc : List UInt8} {a b : Int} (h : b ≤ a) : sl oc a b = [] := List.drop_eq_nil_of_le (Nat.le_trans (List.length_take_le _ _) (Int.toNat_le_toNat h))
theorem sl_app {oc : List UInt8} {a b c : Int} (h0 : 0 ≤ a) (h1 : a ≤ b) (h2 : b ≤ c) : sl oc a b ++ sl oc b c = sl oc a c := by
  obtain ⟨z, rfl⟩ := Int.eq_ofNat_of_zero_le (Int.le_trans h0 (Int.le_trans h1 h2))
  obtain ⟨y, rfl⟩ := Int.eq_ofNat_of_zero_le (Int.le_trans h0 h1)
  obtain ⟨x, rfl⟩ := Int.eq_ofNat_of_zero_le h0
  replace h1 := Int.ofNat_le.mp h1
  replace h2 := Int.ofNat_le.mp h2
  rw [sl_nat, sl_nat, sl_nat, List.drop_take, List.drop_take, List.drop_take, show oc.drop y = (oc.drop x).drop (y - x) by rw [List.drop_drop, Nat.add_sub_cancel' h1], ← List.take_add, Nat.add_comm, Nat.sub_add_sub_cancel h2 h1]
theorem sl_take {oc : List UInt8} {a b k : Int} (h0 : 0 ≤ a) (h1 : 0 ≤ k) (h2 : a + k ≤ b) : cutL (sl oc a b) none (some k) = sl oc a (a + k) := by
  obtain ⟨y, rfl⟩ := Int.eq_ofNat_of_zero_le (Int.le_trans (Int.add_nonneg h0 h1) h2)
  obtain ⟨x, rfl⟩ := Int.eq_ofNat_of_zero_le h0
  obtain ⟨n, rfl⟩ := Int.eq_ofNat_of_zero_le h1
  rw [← Int.natCast_add] at h2 ⊢
  show List.take n (sl oc x y) = sl oc x ((x + n : Nat) : Int)
  rw [sl_nat, sl_nat, List.drop_take, List.drop_take, List.take_take, Nat.add_sub_cancel_left, Nat.min_eq_left (Nat.le_sub_of_add_le (Nat.add_comm n x ▸ Int.ofNat_le.mp h2))]
theorem sl_drop {oc : List UInt8} {a b k : Int} (h0 : 0 ≤ a) (h1 : 0 ≤ k) : cutL (sl oc a b) (some k) none = sl oc (a + k) b := by
  obtain ⟨x, rfl⟩ := Int.eq_ofNat_of_zero_le h0
  obtain ⟨n, rfl⟩ := Int.eq_ofNat_of_zero_le h1
  exact List.drop_drop ..
noncomputable def pc (oc : List UInt8) (p : Int × Int) : Pc := (p.1, sl oc p.1 p.2)
/-- a span within the octets -/
noncomputable def Wi (oc : List UInt8) (p : Int × Int) : Prop := 0 ≤ p.1 ∧ p.1 ≤ p.2 ∧ p.2 ≤ oc.length
theorem pc_end {oc : List UInt8} {p : Int × Int} (h : Wi oc p) : p.1 + ((pc oc p).2.length : Nat) = p.2 := sl_len h.1 h.2.1 h.2.2
theorem pc_step {oc : List UInt8} {fo : Sp} {H p : Int × Int} (hH : Wi oc H) (hp : Wi oc p) : pieceStep (fo.map (pc oc), pc oc H) (pc oc p) = ((hs (fo, H) p).1.map (pc oc), pc oc (hs (fo, H) p).2) := by
  unfold pieceStep hs
  dsimp only
  rw [show (pc oc p).1 = p.1 from rfl, show (pc oc H).1 = H.1 from rfl, pc_end hp, pc_end hH]
  by_cases h : p.2 < H.1 ∨ H.2 < p.1
  · rw [if_pos h, if_pos h]; simp
  · rw [if_neg h, if_neg h]
    have h1 : H.1 ≤ p.2 := Int.not_lt.mp fun z => h (.inl z)
    have h2 : p.1 ≤ H.2 := Int.not_lt.mp fun z => h (.inr z)
    obtain ⟨a1, a2, a3⟩ := hH
    obtain ⟨b1, b2, b3⟩ := hp
    have e1 : cutL (pc oc H).2 none (some (mx 0 (p.1 - H.1))) = sl oc (mn H.1 p.1) p.1 := by
      show cutL (sl oc H.1 H.2) _ _ = _
      rcases Int.le_total p.1 H.1 with z | z
      · rw [mx_l (Int.sub_nonpos_of_le z), mn_r z, sl_nil (Int.le_refl _)]; rfl
      · have e : H.1 + (p.1 - H.1) = p.1 := by omega
        rw [mx_r (Int.sub_nonneg_of_le z), mn_l z, sl_take a1 (Int.sub_nonneg_of_le z) (e.symm ▸ h2), e]
    have e2 : cutL (pc oc H).2 (some (mx 0 (p.2 - H.1))) none = sl oc p.2 (mx H.2 p.2) := by
      show cutL (sl oc H.1 H.2) _ _ = _
      rw [mx_r (Int.sub_nonneg_of_le h1), sl_drop a1 (Int.sub_nonneg_of_le h1), show H.1 + (p.2 - H.1) = p.2 by omega]
      rcases Int.le_total H.2 p.2 with z | z
      · rw [sl_nil z, mx_r z, sl_nil (Int.le_refl _)]
      · rw [mx_l z]
    rw [e1, e2]
    show (_, (mn H.1 p.1, sl oc (mn H.1 p.1) p.1 ++ sl oc p.1 p.2 ++ sl oc p.2 (mx H.2 p.2))) = _
    have m0 : 0 ≤ mn H.1 p.1 := by rcases (@mn_le H.1 p.1).2.2 with e | e <;> rw [e] <;> assumption
    rw [sl_app m0 mn_le.2.1 b2, sl_app m0 (Int.le_trans mn_le.2.1 b2) mx_ge.2.1]
    rfl
theorem hs_wi {oc : List UInt8} {fo : Sp} {H p : Int × Int} (hH : Wi oc H) (hp : Wi oc p) : Wi oc (hs (fo, H) p).2 := by
  unfold hs
  dsimp only
  split
  · exact hH
  · obtain ⟨a1, a2, a3⟩ := hH
    obtain ⟨b1, b2, b3⟩ := hp
    refine ⟨?_, Int.le_trans mn_le.1 (Int.le_trans a2 mx_ge.1), ?_⟩
    · rcases (@mn_le H.1 p.1).2.2 with e | e <;> (dsimp only; rw [e]; assumption)
    · rcases (@mx_ge H.2 p.2).2.2 with e | e <;> (dsimp only; rw [e]; assumption)
theorem pc_run {oc : List UInt8} : ∀ {sp fo : Sp} {H : Int × Int}, Wi oc H → (∀ p ∈ sp, Wi oc p) → (sp.map (pc oc)).foldl pieceStep (fo.map (pc oc), pc oc H) = ((sp.foldl hs (fo, H)).1.map (pc oc), pc oc (sp.foldl hs (fo, H)).2) ∧ Wi oc (sp.foldl hs (fo, H)).2
  | [], fo, H, hH, _ => ⟨rfl, hH⟩
  | p :: r, fo, H, hH, hp => by
    rw [List.map_cons, List.foldl_cons, List.foldl_cons, pc_step hH (hp p (.head _))]
    exact pc_run (hs_wi hH (hp p (.head _))) fun q hq => hp q (.tail _ hq)
/-- what add_piece makes -/
noncomputable def putR (sp : Sp) (lo hi : Int) : Sp := if lo < hi then addR sp lo hi else sp
structure InI (oc : List UInt8) (kn : List Bool) (told : Int) (sp : Sp) : Prop where
  len : kn.length = oc.length
  can : Can sp
  lo : ∀ p ∈ sp, told < p.1
  hi : ∀ p ∈ sp, p.2 ≤ oc.length
  t0 : 0 ≤ told
  t1 : told ≤ oc.length
  mem : ∀ i : Nat, i < oc.length → (kn[i]? = some true ↔ ((i : Int) < told ∨ In sp i))
theorem InI.wi {oc : List UInt8} {kn : List Bool} {told : Int} {sp : Sp} (h : InI oc kn told sp) : ∀ p ∈ sp, Wi oc p := fun p hp =>
  ⟨Int.le_of_lt (Int.lt_of_le_of_lt h.t0 (h.lo p hp)), Int.le_of_lt (h.can.2 p hp), h.hi p hp⟩
theorem InI.cnt {oc : List UInt8} {kn : List Bool} {told : Int} {sp : Sp} (h : InI oc kn told sp) (hn : oc.length ≤ 16) : sp.length ≤ 8 := by
  have := h.can.len (lo := 0) (fun p hp => (h.wi p hp).1) h.hi (by (exact Int.natCast_nonneg _))
  omega
/-- the flags after a run is set -/
noncomputable def setR (kn : List Bool) (s : Nat) : Nat → List Bool
  | 0 => kn
  | k + 1 => (setR kn s k).set (s + k) true
theorem setR_len {kn : List Bool} {s : Nat} : ∀ {k : Nat}, (setR kn s k).length = kn.length
  | 0 => rfl
  | k + 1 => by rw [setR, List.length_set, setR_len]
theorem setR_get {kn : List Bool} {s i : Nat} (hi : i < kn.length) : ∀ {k : Nat}, ((setR kn s k)[i]? = some true ↔ (kn[i]? = some true ∨ (s ≤ i ∧ i < s + k)))
  | 0 => (or_iff_left fun z => absurd z.2 (Nat.not_lt.mpr z.1)).symm
  | k + 1 => by
    rw [setR]
    by_cases e : s + k = i
    · subst e
      rw [List.getElem?_set_self (by rw [setR_len]; exact hi)]
      exact ⟨fun _ => .inr ⟨Nat.le_add_right _ _, Nat.lt_succ_self _⟩, fun _ => rfl⟩
    · rw [List.getElem?_set_ne e, setR_get hi]
      exact or_congr_right (and_congr_right fun _ => ⟨fun z => Nat.lt_succ_of_lt z, fun z => Nat.lt_of_le_of_ne (Nat.le_of_lt_succ z) (Ne.symm e)⟩)
end Mine
end

section
namespace Mine
theorem pc_len {oc : List UInt8} {p : Int × Int} (h : Wi oc p) (hn : oc.length ≤ 1000) : (pc oc p).2.length ≤ 1000 := by
  have := pc_end h
  have h0 := h.1
  have h2 := h.2.2
  omega
theorem cut0 {oc : List UInt8} {a b : Int} (h : 0 ≤ a) : cutL (sl oc a b) (some (a - a)) none = sl oc a b := by
  rw [Int.sub_self, sl_drop h (Int.le_refl _), Int.add_zero]
theorem tk_rest {oc : List UInt8} {t : Int} {f : List UInt8} : ∀ {r : Sp} {lf : List Pc}, (∀ q ∈ r, t < q.1) → (r.map (pc oc)).foldl (takenStep t) (f, lf) = (f, lf ++ r.map (pc oc))
  | [], lf, _ => by simp
  | p :: r, lf, h => by
    have h1 := h p (.head _)
    have e : takenStep t (f, lf) (pc oc p) = (f, lf ++ [pc oc p]) := by
      unfold takenStep
      rw [if_neg fun z => absurd h1 (Int.not_lt.mpr z.1), if_pos (show (pc oc p).1 > t from h1)]
    rw [List.map_cons, List.foldl_cons, e, tk_rest fun q hq => h q (.tail _ hq)]
    simp
theorem tk_run {oc : List UInt8} {t : Int} (t0 : 0 ≤ t) (tn : t ≤ oc.length) : ∀ {mid : Sp}, Can mid → (∀ p ∈ mid, Wi oc p) → (∀ p ∈ mid, t ≤ p.1) →
    ∃ t' left, (mid.map (pc oc)).foldl (takenStep t) ([], []) = (sl oc t t', left.map (pc oc)) ∧ t ≤ t' ∧ t' ≤ oc.length ∧ Can left ∧ (∀ p ∈ left, t' < p.1) ∧ (∀ p ∈ left, p ∈ mid) ∧ ∀ i, t ≤ i → (In mid i ↔ i < t' ∨ In left i)
  | [], _, _, _ => ⟨t, [], by rw [sl_nil (Int.le_refl _)]; rfl, Int.le_refl _, tn, Can.nil, fun _ h => (by cases h), fun _ h => (by cases h), fun i hi => ⟨fun h => (In.nil h).elim, fun h => h.elim (fun z => absurd z (Int.not_lt.mpr hi)) fun z => (In.nil z).elim⟩⟩
  | p :: r, c, w, hl => by
    have w1 := w p (.head _)
    have c1 := c.one
    have hr : ∀ q ∈ r, p.2 < q.1 := c.gap
    have h1 := hl p (.head _)
    by_cases h : t < p.1
    · refine ⟨t, p :: r, ?_, Int.le_refl _, tn, c, fun q hq => ?_, fun _ h => h, fun i hi => ⟨.inr, fun z => z.elim (fun z => absurd z (Int.not_lt.mpr hi)) id⟩⟩
      · rw [sl_nil (Int.le_refl _), tk_rest]
        · rfl
        · intro q hq
          rcases List.mem_cons.mp hq with e | hq
          · rw [e]; exact h
          · exact Int.lt_trans h (Int.lt_trans c1 (hr q hq))
      · rcases List.mem_cons.mp hq with e | hq
        · rw [e]; exact h
        · exact Int.lt_trans h (Int.lt_trans c1 (hr q hq))
    · have he : p.1 = t := Int.le_antisymm (Int.not_lt.mp h) h1
      refine ⟨p.2, r, ?_, he ▸ w1.2.1, w1.2.2, c.tail, hr, fun q hq => .tail _ hq, fun i hi => ?_⟩
      · have e : takenStep t ([], []) (pc oc p) = (sl oc t p.2, []) := by
          unfold takenStep
          rw [if_pos ⟨Int.le_of_eq he, by rw [show (pc oc p).1 = p.1 from rfl, pc_end w1, ← he]; exact c1⟩]
          show (cutL (sl oc p.1 p.2) (some (t - p.1)) none, _) = _
          rw [he, cut0 t0]
        rw [List.map_cons, List.foldl_cons, e, tk_rest fun q hq => Int.lt_trans (by rw [← he]; exact c1) (hr q hq)]
        rfl
      · rw [In.cons, he]
        exact or_congr_left (and_iff_right hi)

theorem addR_wi {oc : List UInt8} {sp : Sp} {lo hi : Int} (c : Can sp) (h : lo < hi) (h0 : 0 ≤ lo) (hn : hi ≤ oc.length) (w : ∀ p ∈ sp, Wi oc p) : ∀ p ∈ addR sp lo hi, Wi oc p := fun p hp =>
  ⟨Int.le_of_lt_add_one (Int.lt_add_of_sub_right_lt (by have := addR_low (x := -1) (by assumption) (fun p hp => by have := (w p hp).1; assumption) p hp; assumption)), Int.le_of_lt ((addR_can c h).2 p hp), addR_high hn (fun p hp => (w p hp).2.2) p hp⟩
theorem piece_end {oc : List UInt8} {sp : Sp} {lo hi : Int} (hoc : oc.length ≤ 16) (c : Can sp) (w : ∀ p ∈ sp, Wi oc p) (h : lo < hi) (h0 : 0 ≤ lo) (hn : hi ≤ oc.length) :
    (∀ k, (((sp.map (pc oc)).take k).foldl pieceStep ([], pc oc (lo, hi))).2.2.length ≤ 1000) ∧ ∃ l, PieceEnd ((sp.map (pc oc)).foldl pieceStep ([], pc oc (lo, hi))) ((addR sp lo hi).map (pc oc)) l := by
  have wH : Wi oc (lo, hi) := ⟨h0, Int.le_of_lt h, hn⟩
  refine ⟨fun k => ?_, ?_⟩
  · rw [← List.map_take]
    have := @pc_run oc (sp.take k) [] (lo, hi) wH fun p hp => w p (List.mem_of_mem_take hp)
    rw [show ([] : List Pc) = ([] : Sp).map (pc oc) from rfl, this.1]
    exact pc_len this.2 (by (exact Nat.le_trans (by assumption) (Nat.le_of_ble_eq_true rfl)))
  · have e := (@pc_run oc sp [] (lo, hi) wH w).1
    obtain ⟨a, b, H, e1, e2⟩ := @hs_run sp [] lo hi c
    rw [List.nil_append] at e1
    have cc := addR_can c h
    have ww := addR_wi c h h0 hn w
    have hl := cc.len (lo := 0) (n := oc.length) (fun p hp => (ww p hp).1) (fun p hp => (ww p hp).2.2) (by (exact Int.natCast_nonneg _))
    rw [e2] at cc hl ⊢
    rw [show ([] : List Pc) = ([] : Sp).map (pc oc) from rfl, e, e1]
    have cp := List.pairwise_append.mp cc.1
    have cb := List.pairwise_cons.mp cp.2.1
    refine ⟨a.length, ?_, ?_, ?_, ?_, ?_, ?_⟩
    · rw [List.length_append, List.length_cons] at hl
      simp only [List.length_map, List.length_append]
      omega
    · rw [List.pairwise_map]
      refine List.Pairwise.imp (fun {p q} z => z) ?_
      refine List.Pairwise.imp_of_mem (R := fun p q : Int × Int => p.2 < q.1) (fun {p q} hp hq z => ?_) (List.pairwise_append.mpr ⟨cp.1, cb.2, fun x hx y hy => cp.2.2 x hx y (.tail _ hy)⟩)
      refine Int.lt_trans (cc.2 p ?_) z
      rcases List.mem_append.mp hp with hp | hp
      · exact List.mem_append_left _ hp
      · exact List.mem_append_right _ (.tail _ hp)
    · simp
    · intro j hj hja
      have : ((a ++ b).map (pc oc))[j] = pc oc a[j] := by rw [List.getElem_map, List.getElem_append_left hja]
      rw [this]
      exact Int.lt_trans (cc.2 _ (List.mem_append_left _ (List.getElem_mem _))) (cp.2.2 _ (List.getElem_mem _) _ (.head _))
    · intro j hj hja
      have hj2 : j < a.length + b.length := by simpa using hj
      have : ((a ++ b).map (pc oc))[j] = pc oc (b[j - a.length]'(by omega)) := by rw [List.getElem_map, List.getElem_append_right hja]
      rw [this]
      exact Int.lt_trans (cc.2 H (List.mem_append_right _ (.head _))) (cb.1 _ (List.getElem_mem _))
    · simp
/-- what is old changes nothing -/
theorem InI.old {oc : List UInt8} {kn : List Bool} {told : Int} {sp : Sp} (h : InI oc kn told sp) {s e : Nat} (hse : s ≤ e) (ho : (e : Int) ≤ told) : InI oc (setR kn s (e - s)) told sp :=
  ⟨setR_len.trans h.len, h.can, h.lo, h.hi, h.t0, h.t1, fun i hi => by
    rw [setR_get (h.len ▸ hi), h.mem i hi]
    exact or_iff_left_of_imp fun z => .inl (by omega)⟩
theorem InI.new {oc : List UInt8} {kn : List Bool} {told : Int} {sp : Sp} (h : InI oc kn told sp) {s e : Nat} (hse : s ≤ e) (he : e ≤ oc.length) (ho : told < (e : Int)) :
    ∃ t' left, ((putR sp (mx told s) e).map (pc oc)).foldl (takenStep told) ([], []) = (sl oc told t', left.map (pc oc)) ∧ told ≤ t' ∧ InI oc (setR kn s (e - s)) t' left ∧ (∀ p ∈ putR sp (mx told s) e, Wi oc p) ∧ Can (putR sp (mx told s) e) := by
  have hc : Can (putR sp (mx told s) e) ∧ (∀ p ∈ putR sp (mx told s) e, Wi oc p) ∧ (∀ p ∈ putR sp (mx told s) e, told ≤ p.1) ∧ ∀ i, In (putR sp (mx told s) e) i ↔ In sp i ∨ (mx told s ≤ i ∧ i < e) := by
    have m0 := @mx_ge told s
    unfold putR
    split
    · rename_i hlt
      refine ⟨addR_can h.can hlt, addR_wi h.can hlt (Int.le_trans h.t0 m0.1) (Int.ofNat_le.mpr he) h.wi, fun p hp => ?_, fun i => addR_in h.can hlt⟩
      have := addR_low (x := told - 1) (by omega) (fun p hp => by have := h.lo p hp; omega) p hp
      omega
    · refine ⟨h.can, h.wi, fun p hp => Int.le_of_lt (h.lo p hp), fun i => (or_iff_left fun z => ?_).symm⟩
      omega
  obtain ⟨c, w, l, m⟩ := hc
  obtain ⟨t', left, e1, e2, e3, e4, e5, e6, e7⟩ := tk_run h.t0 h.t1 c w l
  refine ⟨t', left, e1, e2, ⟨setR_len.trans h.len, e4, e5, fun p hp => (w p (e6 p hp)).2.2, Int.le_trans h.t0 e2, e3, fun i hi => ?_⟩, w, c⟩
  rw [setR_get (h.len ▸ hi), h.mem i hi]
  by_cases ht : (i : Int) < told
  · exact ⟨fun _ => .inl (Int.lt_of_lt_of_le ht e2), fun _ => .inl (.inl ht)⟩
  · rw [← e7 i (Int.not_lt.mp ht), m i, or_iff_right ht]
    refine or_congr_right ?_
    unfold mx
    split <;> omega
end Mine
end

section
open PySem PySem.W PyProof.Rows PySem.Calls
namespace Mine
theorem cutL_map {α β : Type} (f : α → β) (l : List α) (lo hi : Option Int) : cutL (l.map f) lo hi = (cutL l lo hi).map f := by
  unfold cutL
  cases hi <;> simp
theorem InI.wait {oc : List UInt8} {kn : List Bool} {told : Int} {sp : Sp} (h : InI oc kn told sp) : (cutL kn (some told) none).any (· == true) = decide (((sp.map (pc oc)).length : Int) > 0) := by
  rw [Bool.eq_iff_iff, List.any_eq_true, decide_eq_true_eq, List.length_map]
  obtain ⟨td, rfl⟩ := Int.eq_ofNat_of_zero_le h.t0
  constructor
  · rintro ⟨x, hx, e⟩
    rw [beq_iff_eq] at e
    obtain ⟨j, hj⟩ := List.mem_iff_getElem?.mp hx
    unfold cutL at hj
    dsimp only at hj
    rw [List.getElem?_drop, e, Int.toNat_natCast] at hj
    have hl := (List.getElem?_eq_some_iff.mp hj).1
    rcases (h.mem _ (h.len ▸ hl)).mp hj with z | ⟨p, hp, _⟩
    · exact absurd (Int.ofNat_lt.mp z) (Nat.not_lt.mpr (Nat.le_add_right _ _))
    · exact Int.natCast_pos.mpr (List.length_pos_of_mem hp)
  · intro hp
    cases sp with
    | nil => cases hp
    | cons p r =>
      have w := h.wi p (.head _)
      obtain ⟨k, hk⟩ := Int.eq_ofNat_of_zero_le w.1
      have c := h.can.one
      have hm := (h.mem k (Int.ofNat_lt.mp (hk ▸ Int.lt_of_lt_of_le c w.2.2))).mpr (.inr ⟨p, .head _, Int.le_of_eq hk, hk ▸ c⟩)
      refine ⟨true, List.mem_iff_getElem?.mpr ⟨k - td, ?_⟩, rfl⟩
      unfold cutL
      dsimp only
      rw [List.getElem?_drop, Int.toNat_natCast, Nat.add_sub_cancel' (Int.ofNat_le.mp (hk ▸ Int.le_of_lt (h.lo p (.head _))))]
      exact hm
/-- the flag that stops the loop -/
theorem InI.stop {oc : List UInt8} {kn : List Bool} {told : Int} {sp : Sp} (h : InI oc kn told sp) : (told < oc.length → kn[told.toNat]? = some false) ∧ ∀ i : Nat, (i : Int) < told → kn[i]? = some true := by
  obtain ⟨td, rfl⟩ := Int.eq_ofNat_of_zero_le h.t0
  refine ⟨fun hl => ?_, fun i hi => (h.mem i (Int.ofNat_lt.mp (Int.lt_of_lt_of_le hi h.t1))).mpr (.inl hi)⟩
  rw [Int.toNat_natCast]
  have hn : td < oc.length := Int.ofNat_lt.mp hl
  have hk : td < kn.length := h.len.symm ▸ hn
  rw [List.getElem?_eq_getElem hk]
  cases hb : kn[td] with
  | false => rfl
  | true =>
    rcases (h.mem td hn).mp (by rw [List.getElem?_eq_getElem hk, hb]) with z | ⟨p, hp, z, _⟩
    · exact absurd z (Int.lt_irrefl _)
    · exact absurd z (Int.not_le.mpr (h.lo p hp))
theorem takeS_len {bx : Bx} {w : Int} : (takeS bx w).2.1.length ≤ bx.1.length := by
  unfold takeS
  split
  · rename_i e; rw [e]; exact Nat.le_succ _
  · exact Nat.zero_le _

/-! the box on the heap -/
structure BxH (hp : Hp) (b l : Nat) (bx : Bx) : Prop where
  hb : hp[b]? = some (bxO l bx)
  hl : hp[l]? = some (bxL bx)
  ne : b ≠ l
  n : bx.1.length ≤ 100
section
variable {hp g : Hp} {b l : Nat} {bx bx' : Bx}
theorem BxH.app (h : BxH hp b l bx) : BxH (hp ++ g) b l bx := ⟨hg_old h.hb, hg_old h.hl, h.ne, h.n⟩
theorem setBox_app (h : BxH hp b l bx) : setBox (hp ++ g) b l bx' = setBox hp b l bx' ++ g := by
  unfold setBox
  rw [set_app (hg_len h.hb), set_app (by rw [List.length_set]; exact hg_len h.hl)]
theorem BxH.set (h : BxH hp b l bx) (hn : bx'.1.length ≤ 100) : BxH (setBox hp b l bx') b l bx' := by
  unfold setBox
  exact ⟨by rw [List.getElem?_set_ne (Ne.symm h.ne)]; exact List.getElem?_set_self (hg_len h.hb), List.getElem?_set_self (by rw [List.length_set]; exact hg_len h.hl), h.ne, hn⟩
theorem setBox_ne {i : Nat} {o : AO} (e1 : b ≠ i) (e2 : l ≠ i) (h : hp[i]? = some o) : (setBox hp b l bx)[i]? = some o := by
  unfold setBox
  rw [List.getElem?_set_ne e2, List.getElem?_set_ne e1]; exact h
theorem setBox_same (h : BxH hp b l bx) : setBox hp b l bx = hp := by
  unfold setBox
  rw [set_same h.hb, set_same h.hl]
theorem setBox_len : (setBox hp b l bx).length = hp.length := by
  unfold setBox
  rw [List.length_set, List.length_set]
theorem setBox_two (h : b ≠ l) : setBox (setBox hp b l bx) b l bx' = setBox hp b l bx' := by
  unfold setBox
  rw [List.set_comm _ _ (Ne.symm h), List.set_set, List.set_set]
theorem takeB {X : FX} {w i : Int} (hr : 0 < X.room) (h : BxH hp b l bx) (hw : 0 < w) (e : (takeS bx w).1 = i) : CallJ X hp (.ref 174) [.ref b, .int w] (.int i) (setBox hp b l (takeS bx w).2) := e ▸ take_j hr h.hb h.hl h.ne hw h.n
theorem BxH.take (h : BxH hp b l bx) {w : Int} : BxH (setBox hp b l (takeS bx w).2) b l (takeS bx w).2 := h.set (Nat.le_trans takeS_len h.n)
end
/-- what is on the heap while octets come in -/
structure InH (hp : Hp) (b l N : Nat) (bx : Bx) (lim told : Int) (w : Nat) (wt : List Pc) (kn : List Bool) : Prop where
  B : BxH hp b l bx
  ho : hp[N + 1]? = some (.inst 107 N)
  hd : hp[N]? = some (.dict (inF lim told w))
  hw : hp[w]? = some (.list (apcs wt))
  hk : hp[N + 4]? = some (.list (kn.map .bool))
  e2 : b < N
  e3 : l < N
  e4 : N + 2 ≤ w
  e5 : w ≠ N + 4
section
variable {hp g : Hp} {b l N w : Nat} {bx bx' : Bx} {lim told : Int} {wt : List Pc} {kn kn' : List Bool}
theorem InH.take (h : InH hp b l N bx lim told w wt kn) {v : Int} : InH (setBox hp b l (takeS bx v).2) b l N (takeS bx v).2 lim told w wt kn := by
  have := h.e2
  have := h.e3
  have := h.e4
  exact ⟨h.B.take, setBox_ne (by omega) (by omega) h.ho, setBox_ne (by (exact Nat.ne_of_lt (by assumption))) (by (exact Nat.ne_of_lt (by assumption))) h.hd, setBox_ne (by omega) (by omega) h.hw, setBox_ne (by omega) (by omega) h.hk, h.e2, h.e3, h.e4, h.e5⟩
theorem InH.app (h : InH hp b l N bx lim told w wt kn) : InH (hp ++ g) b l N bx lim told w wt kn := ⟨h.B.app, hg_old h.ho, hg_old h.hd, hg_old h.hw, hg_old h.hk, h.e2, h.e3, h.e4, h.e5⟩
theorem InH.flag (h : InH hp b l N bx lim told w wt kn) : InH (hp.set (N + 4) (.list (kn'.map .bool))) b l N bx lim told w wt kn' := by
  have := h.e2
  have := h.e3
  have k : ∀ {i : Nat} {o : AO}, N + 4 ≠ i → hp[i]? = some o → (hp.set (N + 4) (.list (kn'.map .bool)))[i]? = some o := fun e h => by rw [List.getElem?_set_ne e]; exact h
  exact ⟨⟨k (by omega) h.B.hb, k (by omega) h.B.hl, h.B.ne, h.B.n⟩, k (by omega) h.ho, k (by omega) h.hd, k (Ne.symm h.e5) h.hw, List.getElem?_set_self (hg_len h.hk), h.e2, h.e3, h.e4, h.e5⟩
theorem InH.arr {told' : Int} {mid wt' : List Pc} (h : InH hp b l N bx lim told w wt kn) : InH (hp.set N (.dict (inF lim told' (hp.length + 1))) ++ [.list (apcs mid), .list (apcs wt')]) b l N bx lim told' (hp.length + 1) wt' kn := by
  have := h.e2
  have := h.e3
  have hk := hg_len h.hk
  have k : ∀ {i : Nat} {o : AO}, N ≠ i → hp[i]? = some o → (hp.set N (.dict (inF lim told' (hp.length + 1))) ++ [.list (apcs mid), .list (apcs wt')])[i]? = some o := fun e h => hg_old (by rw [List.getElem?_set_ne e]; exact h)
  exact ⟨⟨k (by (exact Nat.ne_of_gt (by assumption))) h.B.hb, k (by (exact Nat.ne_of_gt (by assumption))) h.B.hl, h.B.ne, h.B.n⟩, k (by omega) h.ho, hg_old (List.getElem?_set_self (hg_len h.hd)), by rw [List.getElem?_append_right (by rw [List.length_set]; omega), List.length_set]; simp, k (by omega) h.hk, h.e2, h.e3, by omega, by omega⟩
theorem arrived_any {X : FX} {oc : List UInt8} {kn0 : List Bool} {sp : Sp} {s e : Nat} (hr : 3 < X.room) (H : InH hp b l N bx lim told w (sp.map (pc oc)) kn) (I : InI oc kn0 told sp) (hn : oc.length ≤ 16) (hse : s ≤ e) (he : e ≤ oc.length) (hfit : ¬ (e : Int) > told + lim) :
    ∃ t' w' left hp', told ≤ t' ∧ CallJ X hp (.ref 97) [.ref (N + 1), .int (s : Nat), .bytes (sl oc (s : Nat) (e : Nat))] (.bytes (sl oc told t')) hp' ∧ InH hp' b l N bx lim t' w' (left.map (pc oc)) kn ∧ InI oc (setR kn0 s (e - s)) t' left := by
  have hd := sl_len (oc := oc) (Int.natCast_nonneg s) (Int.ofNat_le.mpr hse) (Int.ofNat_le.mpr he)
  have hdl : (sl oc (s : Nat) (e : Nat)).length ≤ 1000 := by omega
  have hcl := I.cnt hn
  have hpl : ∀ {p : Int × Int}, Wi oc p → (pc oc p).2.length ≤ 1000 := fun h => pc_len h (by (exact Nat.le_trans (by assumption) (Nat.le_of_ble_eq_true rfl)))
  by_cases ho : (e : Int) ≤ told
  · exact ⟨told, w, sp, hp, Int.le_refl _, by rw [sl_nil (a := told) (b := told) (Int.le_refl _)]; exact arrived_old_j hr H.ho H.hd hdl (by rw [hd]; exact hfit) (by rw [hd]; exact ho), H, I.old hse ho⟩
  · obtain ⟨t', left, e1, e2, I', wm, cm⟩ := I.new hse he (Int.not_le.mp ho)
    have t0 := I.t0
    have t1 := I'.t1
    have ec : arrCut told (s : Nat) (sl oc (s : Nat) (e : Nat)) = pc oc (mx told s, e) := by
      unfold arrCut pc mx
      by_cases hlt : (s : Int) < told
      · rw [if_pos hlt, if_neg (by omega), sl_drop (Int.natCast_nonneg s) (by omega), show (s : Int) + (told - s) = told by omega]
      · rw [if_neg hlt]
        split
        · rfl
        · rw [show told = (s : Int) by omega]
    have fl := sl_len (oc := oc) t0 e2 t1
    have cml := cm.len (lo := 0) (fun p hp => (wm p hp).1) (fun p hp => (wm p hp).2.2) (by (exact Int.natCast_nonneg _))
    have key := arrived_new_j (X := X) (mid := (putR sp (mx told s) e).map (pc oc)) hr H.ho H.hd H.hw (by omega) (by have := H.e4; omega) (by rw [List.length_map]; (exact Nat.le_trans (by assumption) (Nat.le_of_ble_eq_true rfl))) (fun p hp => by obtain ⟨q, hq, rfl⟩ := List.mem_map.mp hp; exact hpl (I.wi q hq)) hdl (by rw [hd]; exact hfit) (by rw [hd]; exact ho)
      (fun hz => by
        rw [ec] at hz
        unfold putR
        rw [if_neg]
        intro hlt
        have := sl_len (oc := oc) (Int.le_trans t0 mx_ge.1) (Int.le_of_lt hlt) (Int.ofNat_le.mpr he)
        rw [show sl oc (mx told s) e = [] from hz] at this
        simp at this
        omega)
      (fun hz => by
        rw [ec] at hz ⊢
        have hlt : mx told s < e := Int.not_le.mp fun q => hz (sl_nil q)
        unfold putR
        rw [if_pos hlt]
        exact piece_end hn I.can I.wi hlt (Int.le_trans t0 mx_ge.1) (Int.ofNat_le.mpr he))
      (by rw [List.length_map]; omega) (fun p hp => by obtain ⟨q, hq, rfl⟩ := List.mem_map.mp hp; exact hpl (wm q hq)) (by rw [e1]; show (sl oc told t').length ≤ 1000; omega)
    rw [e1] at key
    rw [show told + (((sl oc told t', left.map (pc oc)).1.length : Nat) : Int) = t' from fl] at key
    exact ⟨t', _, left, _, e2, key, H.arr, I'⟩
end
end Mine
end

section
namespace Mine
theorem add1_ge {x : Int} (h : 0 ≤ x) : 0 ≤ 1 + x := Int.add_nonneg (by decide) h
theorem add1_le {x b : Int} (h : x < b) : 1 + x ≤ b := by rw [Int.add_comm]; exact h
theorem add1_pos {x : Int} (h : 0 ≤ x) : 0 < 1 + x := by rw [Int.add_comm]; exact Int.lt_add_one_of_le h
theorem mnE {n s : Nat} {x : Int} (hs : s ≤ n) (hx : 0 ≤ x) : ∃ e : Nat, mn (n : Int) ((s : Int) + x) = (e : Int) ∧ s ≤ e ∧ e ≤ n := by
  obtain ⟨y, rfl⟩ := Int.eq_ofNat_of_zero_le hx
  rcases Nat.le_total n (s + y) with h | h
  · exact ⟨n, mn_l (Int.ofNat_le.mpr h), hs, Nat.le_refl _⟩
  · exact ⟨s + y, mn_r (Int.ofNat_le.mpr h), Nat.le_add_right _ _, h⟩
theorem part_le {s k e n : Nat} (h : (s : Int) + (k : Nat) = (e : Nat)) (he : e ≤ n) : k ≤ n := by
  have : s + k = e := Int.ofNat.inj h
  exact Nat.le_trans (this ▸ Nat.le_add_left k s) he
theorem ite_sub {s e : Nat} (h : s ≤ e) : (if (s : Int) < (e : Int) then (e : Int) - (s : Int) else 0) = ((e - s : Nat) : Int) := by
  rw [Int.ofNat_sub h]
  split
  · rfl
  · rw [Nat.le_antisymm h (Int.ofNat_le.mp (Int.not_lt.mp ‹_›)), Int.sub_self]
theorem ite_nat {m : Nat} : (if (0 : Int) < (m : Int) then (m : Int) - 0 else 0) = (m : Int) := by
  split
  · exact Int.sub_zero _
  · exact Int.le_antisymm (Int.natCast_nonneg _) (Int.not_lt.mp ‹_›)
theorem while_dec {j : Nat} {t t' : Int} (h : (j : Int) = t' - t) (hl : t < t') : j - 1 < j ∧ ((j - 1 : Nat) : Int) = t' - (t + 1) := by
  cases j with
  | zero => exact absurd (Int.sub_pos_of_lt hl) (by rw [← h]; exact Int.lt_irrefl 0)
  | succ j => exact ⟨Nat.lt_succ_self _, by rw [← Int.sub_sub, ← h]; exact (Int.add_sub_cancel (j : Int) 1).symm⟩
theorem in_step {a i j : Nat} (h : ¬ i = a + j) : (a ≤ i ∧ i < a + j) ↔ (a ≤ i ∧ i < a + (j + 1)) := and_congr_right fun _ => ⟨fun z => Nat.lt_succ_of_lt z, fun z => Nat.lt_of_le_of_ne (Nat.le_of_lt_succ z) h⟩
theorem in_cast {a b i : Nat} : (a ≤ i ∧ i < b) ↔ ((a : Int) ≤ (i : Int) ∧ (i : Int) < (b : Int)) := and_congr Int.ofNat_le.symm Int.ofNat_lt.symm
theorem getEx {l : List Bool} {i : Nat} (h : i < l.length) : ∃ x, l[i]? = some x := ⟨_, List.getElem?_eq_getElem h⟩
theorem ix_app {α : Type} {l : List α} {N : Nat} (hN : l.length = N) (i : Nat) (g : List α) : (l ++ g)[N + i]? = g[i]? := by
  rw [← hN, List.getElem?_append_right (Nat.le_add_right _ _), Nat.add_sub_cancel_left]
theorem lt_app {α : Type} {l g : List α} {N : Nat} (h : N < l.length) : N < (l ++ g).length := by rw [List.length_append]; exact Nat.lt_of_lt_of_le h (Nat.le_add_right _ _)
end Mine
end

section
set_option maxHeartbeats 1000000
open PySem PySem.W PyProof.Rows PySem.Calls
namespace Mine
theorem m_waiting (q : Params) : findIn (hd.heap_39 q) (.ref 107) "has_waiting" = some (some (.ref 104)) := by k_is
theorem fn_104 (q : Params) : isFn (hd.heap_39 q) (.ref 104) = true := by k_is
theorem kp_104 (q : Params) : keepIn (hd.heap_39 q) (.ref 104) = true := by k_is
/-! the octets drawn -/
noncomputable def drB (bx : Bx) : Nat → Bx
  | 0 => bx
  | k + 1 => if (k : Int) > 9 then (takeS (drB bx k) 256).2 else drB bx k
noncomputable def drV (bx : Bx) (k : Nat) : Int := if (k : Int) > 9 then (takeS (drB bx k) 256).1 else 65 + k
theorem drB_n {bx : Bx} (h : bx.1.length ≤ 100) : ∀ k, (drB bx k).1.length ≤ 100
  | 0 => h
  | k + 1 => by
    rw [drB]
    split
    · exact Nat.le_trans takeS_len (drB_n h k)
    · exact drB_n h k
theorem drV_lt {bx : Bx} {k : Nat} : 0 ≤ drV bx k ∧ drV bx k < 256 := by
  unfold drV
  split
  · exact takeS_bounds (by decide)
  · lia
noncomputable def inL (N : Nat) (told lim : Int) (oc : List UInt8) : Loc := [("here", .ref (N + 1)), ("known", .ref (N + 4)), ("told", .int told), ("limit", .int lim), ("octets", .bytes oc)]
inductive InJ (b l N : Nat) (lim : Int) (oc : List UInt8) : Loc → Hp → Prop
  | mk {told : Int} {w : Nat} {sp : Sp} {kn : List Bool} {bx : Bx} {h : Hp} (H : InH h b l N bx lim told w (sp.map (pc oc)) kn) (I : InI oc kn told sp) : InJ b l N lim oc (inL N told lim oc) h
theorem InJ.cast {b l N : Nat} {lim : Int} {oc : List UInt8} {told : Int} {w : Nat} {sp : Sp} {kn : List Bool} {bx : Bx} {h : Hp} {loc : Loc} (e : loc = inL N told lim oc) (H : InH h b l N bx lim told w (sp.map (pc oc)) kn) (I : InI oc kn told sp) : InJ b l N lim oc loc h := e ▸ .mk H I
noncomputable def whL (N : Nat) (t told s e lim : Int) (oc : List UInt8) : Loc := [("told", .int t), ("ahead", .int told), ("start", .int s), ("stop", .int e), ("here", .ref (N + 1)), ("known", .ref (N + 4)), ("limit", .int lim), ("octets", .bytes oc)]
inductive WhJ (N : Nat) (told t' s e lim : Int) (oc : List UInt8) (h4 : Hp) (j : Nat) : Loc → Hp → Prop
  | mk {t : Int} (a : told ≤ t) (b : t ≤ t') (c : (j : Int) = t' - t) : WhJ N told t' s e lim oc h4 j (whL N t told s e lim oc) h4
section
variable {X : FX} {hp : Hp}
theorem incoming_g {b l' : Nat} {bx : Bx} (hr : 6 < X.room) (h0 : BxH hp b l' bx) :
    CallG true X hp (.ref 179) [.ref b] (fun v h => v = .bool true ∧ ∃ bx', BxH h b l' bx') := by
  refine' callg_ofC (x := "box") (v := .ref b) ?ho ?hcd (by (exact Nat.lt_of_le_of_lt (Nat.le_of_ble_eq_true rfl) (by assumption))) ?hb ?hl ?hf ?h ?c1 ?c2 ?c3
  case ho => k_is
  case hcd => k_is
  case hb => intro u; rfl
  case hl => rfl
  case hf => intro n; rfl
  case c1 => rfl
  case c2 => rfl
  case c3 => rfl
  intro Y hw hY hroom hcv hcl'
  obtain ⟨c, hcl⟩ := hcl'
  have cell : ∀ {loc hp p}, EvJ Y loc hp (.Name "box" p) (.ref b) hp := e_cell (by rw [hcv]; rfl) (hY.kind rfl) rfl
  -- octets
  have b0 := takeS_bounds (bx := bx) (w := 16) (by decide)
  obtain ⟨n, hn⟩ : ∃ n : Nat, 1 + (takeS bx 16).1 = (n : Int) := Int.eq_ofNat_of_zero_le (add1_ge b0.1)
  have hn16 : n ≤ 16 := Int.ofNat_le.mp (hn ▸ add1_le b0.2)
  have B1 := h0.take (w := 16)
  have hG : ∀ k, BxH (setBox (setBox hp b l' (takeS bx 16).2) b l' (drB (takeS bx 16).2 k)) b l' (drB (takeS bx 16).2 k) := fun k => B1.set (drB_n B1.n k)
  refine x_goG (g_asg (e_callt (es_cons (e_comp (G := fun k => setBox (setBox hp b l' (takeS bx 16).2) b l' (drB (takeS bx 16).2 k)) (val := fun k => .int (drV (takeS bx 16).2 k)) (n := n) (a := 0) (b := 1 + (takeS bx 16).1)
    (r_one (es_cons (e_addi e_int (e_callf (es_cons cell (es_cons e_int es_nil (fun _ => rfl)) (fun _ => rfl)) (takeB (w := 16) (by (exact rm (by assumption) (by assumption) (Nat.le_of_ble_eq_true rfl))) h0 (by decide) rfl) (n_take _) (kp_174 _) (hY.kind rfl) rfl (fun _ => rfl) (fun _ => rfl) (fun _ => rfl))) es_nil (fun _ => rfl)) bo_range (n_range _) (hY.kind rfl) (fun _ => rfl) (fun _ => rfl))
    ?n1 (by (exact Nat.le_trans (by assumption) (Nat.le_of_ble_eq_true rfl))) (by (exact Int.natCast_nonneg _)) (by (exact Int.natCast_nonneg _)) (Int.le_trans (by decide) (add1_ge b0.1)) (Int.le_trans (add1_le b0.2) (by decide)) (clos_one hcl ?cl) ?g0 (fun k _ => setBox_len) ?elt ?cc rfl ?nm rfl ?fo) es_nil (fun _ => rfl)) (k_bytesl (ns := (List.range n).map (drV (takeS bx 16).2)) ?bl ?br ?bn) bo_bytes (n_bytes _) (hY.kind rfl) (by decide) rfl (fun _ => rfl) (fun _ => rfl) (fun _ => rfl)) (an hY rfl) rfl rfl (fun _ => rfl)) ?_
  case n1 => rw [if_pos (add1_pos b0.1), Int.sub_zero, hn]
  case cl => intros; rfl
  case g0 => exact setBox_same B1
  case elt =>
    intro k acc hk
    rw [Int.zero_add]
    refine el_ifat hY rfl (fun _ _ _ _ _ _ _ => rfl) rfl (fun h => el_take hY hcv hcl rfl (fun _ _ _ _ _ _ _ => rfl) (fun _ _ _ _ _ _ _ => rfl) rfl rfl (n_take _) (kp_174 _) ?_ (fun _ => rfl)) (fun h => ⟨?_, ?_⟩)
    · have := takeB (X := Y) (w := 256) (by (exact rm (by assumption) (by assumption) (Nat.le_of_ble_eq_true rfl))) ((hG k).app (g := [.list acc])) (by decide) rfl
      rw [setBox_app (hG k), setBox_two (hp := setBox hp b l' (takeS bx 16).2) h0.ne] at this
      rw [drV, if_pos h, drB, if_pos h]
      exact this
    · rw [drB, if_neg h]
    · rw [drV, if_neg h]
  case cc => decide
  case nm => decide
  case fo => intro _; rfl
  case bl =>
    have := @hg_new (setBox (setBox hp b l' (takeS bx 16).2) b l' (drB (takeS bx 16).2 n)) (.list ((List.range n).map fun k => .int (drV (takeS bx 16).2 k))) []
    rw [setBox_len] at this
    rw [List.map_map]
    exact this
  case br =>
    intro i hi
    obtain ⟨k, _, rfl⟩ := List.mem_map.mp hi
    exact drV_lt
  case bn => rw [List.length_map, List.length_range]; (exact Nat.le_trans (by assumption) (Nat.le_of_ble_eq_true rfl))
  refine absG (fun loc h => ∃ oc bx2, loc = ([("octets", .bytes oc)] : Loc) ∧ oc.length = n ∧ BxH h b l' bx2) ⟨_, _, rfl, by rw [List.length_map, List.length_map, List.length_range], (hG n).app⟩ ?_
  clear B1 hG
  rintro _ hp2 ⟨oc, bx2, rfl, hoc, B2⟩
  have ho : oc.length ≤ 16 := hoc ▸ hn16
  -- limit
  have j0 := takeS_bounds (bx := bx2) (w := 6) (by decide)
  obtain ⟨lim, hlim⟩ : ∃ lim : Int, ([.int 1, .int 2, .int 3, .int 4, .int 8, .int 20] : List AV)[(takeS bx2 6).1.toNat]? = some (.int lim) := by
    have h6 : (takeS bx2 6).1.toNat < 6 := (Int.toNat_lt j0.1).mpr j0.2
    match (takeS bx2 6).1.toNat, h6 with
    | 0, _ => exact ⟨_, rfl⟩
    | 1, _ => exact ⟨_, rfl⟩
    | 2, _ => exact ⟨_, rfl⟩
    | 3, _ => exact ⟨_, rfl⟩
    | 4, _ => exact ⟨_, rfl⟩
    | 5, _ => exact ⟨_, rfl⟩
  have lb := hg_len B2.hb
  have ll := hg_len B2.hl
  refine x_goG (g_asg (e_item (e_list (es_cons e_int (es_cons e_int (es_cons e_int (es_cons e_int (es_cons e_int (es_cons e_int es_nil (fun _ => rfl)) (fun _ => rfl)) (fun _ => rfl)) (fun _ => rfl)) (fun _ => rfl)) (fun _ => rfl)) rfl)
    (e_callf (es_cons cell (es_cons e_int es_nil (fun _ => rfl)) (fun _ => rfl)) (takeB (w := 6) (by (exact rm (by assumption) (by assumption) (Nat.le_of_ble_eq_true rfl))) B2.app (by decide) rfl) (n_take _) (kp_174 _) (hY.kind rfl) rfl (fun _ => rfl) (fun _ => rfl) (fun _ => rfl))
    (setBox_ne (Nat.ne_of_lt lb) (Nat.ne_of_lt ll) hg_new) j0.1 hlim (Nat.le_of_ble_eq_true rfl) (fun _ _ _ => by with_unfolding_all rfl)) (an hY rfl) rfl rfl (fun _ => rfl)) ?_
  refine absG (fun loc h => ∃ bx3, loc = ([("limit", .int lim), ("octets", .bytes oc)] : Loc) ∧ BxH h b l' bx3) ⟨_, rfl, B2.app.take⟩ ?_
  clear lb ll j0 hlim B2
  rintro _ hp3 ⟨bx3, rfl, B3⟩
  have lb := hg_len B3.hb
  have ll := hg_len B3.hl
  refine x_goG (g_swap3 (e_tuple (es_cons (e_callf (es_cons (en hY rfl rfl rfl) es_nil (fun _ => rfl)) (newIn_j (by (exact rm (by assumption) (by assumption) (Nat.le_of_ble_eq_true rfl)))) (n_CIn _) (kp_107 _) (hY.kind rfl) rfl (fun _ => rfl) (fun _ => rfl) (fun _ => rfl)) (es_cons (e_mulb (e_list (es_cons e_bool es_nil (fun _ => rfl)) rfl) (e_lenb (en hY rfl rfl rfl) (hY.kind rfl) (Nat.le_trans ho (by decide)) (fun _ => rfl) (fun _ => rfl)) hg_new (by (exact Int.natCast_nonneg _)) (Int.ofNat_le.mpr (Nat.le_trans ho (by decide)))) (es_cons e_int es_nil (fun _ => rfl)) (fun _ => rfl)) (fun _ => rfl)) rfl) (KS.swap hY fun _ _ _ _ _ => rfl) (hY.kind rfl) (hY.kind rfl) (hY.kind rfl) rfl) ?_
  generalize hN : hp3.length = N at *
  refine absG (InJ b l' N lim oc) (InJ.cast (told := 0) (w := N + 2) (sp := []) (kn := List.replicate n false) (bx := bx3) ?_ ?_ ?_) ?_
  · rw [List.length_append, List.length_append, hN]; rfl
  · rw [List.append_assoc, List.append_assoc]
    have ix : ∀ (i : Nat) (g : Hp), (hp3 ++ g)[N + i]? = g[i]? := fun i g => ix_app hN i g
    exact ⟨B3.app, (ix 1 _).trans rfl, (ix 0 _).trans rfl, (ix 2 _).trans rfl, (ix 4 _).trans (by rw [List.map_replicate, ← hoc]; rfl), lb, ll, Nat.le_refl _, by lia⟩
  · refine ⟨by rw [List.length_replicate, hoc], Can.nil, fun _ h => (by cases h), fun _ h => (by cases h), Int.le_refl _, Int.natCast_nonneg _, fun i hi => ⟨fun h => ?_, fun h => ?_⟩⟩
    · rw [List.getElem?_replicate] at h
      split at h <;> cases h
    · rcases h with h | h
      · lia
      · exact (In.nil h).elim
  clear lb ll B3 hN bx3 hp3
  rintro loc3 h3 HJ
  refine x_loopG (m_for_rangeG (v := true) (a := 0) (b := 8) (n := 8) (J := fun _ => InJ b l' N lim oc)
    (r_one (es_cons e_int es_nil (fun _ => rfl)) bo_range (n_range _) (hY.kind rfl) (fun _ => rfl) (fun _ => rfl)) rfl (by (exact Int.natCast_nonneg _)) (by (exact Int.natCast_nonneg _)) (by (exact Int.natCast_nonneg _)) (by (exact Int.natCast_nonneg _)) (JW.here HJ) ?turn ?done (hY.kind rfl) (fun _ => rfl))
  case done =>
    rintro _ h ⟨H, I⟩ X' hT
    exact (x_ret e_bool ⟨rfl, _, H.B⟩).g
  clear HJ h3 loc3
  rintro X' k _ _ hT hk ⟨H, I⟩
  rename_i h told w sp kn bx
  have hK := hT.ks hY
  have hR : 5 < X'.room := by rw [hT.env.2.2.2.2.1]; (exact rm (by assumption) (by assumption) (Nat.le_of_ble_eq_true rfl))
  have cell' : ∀ {loc hp p}, EvJ X' loc hp (.Name "box" p) (.ref b) hp := e_cell (by rw [hT.cv.1, hcv]; rfl) (KS.kind hK rfl) rfl
  clear cell
  have s0 := takeS_bounds (bx := bx) (w := (oc.length : Nat) + 1) (Int.lt_add_one_of_le (Int.natCast_nonneg _))
  obtain ⟨s, hs⟩ : ∃ s : Nat, (takeS bx ((oc.length : Nat) + 1)).1 = (s : Int) := Int.eq_ofNat_of_zero_le s0.1
  refine x_goG (g_asg (e_callf (es_cons cell' (es_cons (e_addi (e_lenb (en hK rfl rfl rfl) (KS.kind hK rfl) (Nat.le_trans ho (by decide)) (fun _ => rfl) (fun _ => rfl)) e_int) es_nil (fun _ => rfl)) (fun _ => rfl)) (takeB (w := (oc.length : Nat) + 1) (by (exact Nat.lt_of_le_of_lt (Nat.le_of_ble_eq_true rfl) (by assumption))) H.B (Int.lt_add_one_of_le (Int.natCast_nonneg _)) hs) (n_take _) (kp_174 _) (KS.kind hK rfl) rfl (fun _ => rfl) (fun _ => rfl) (fun _ => rfl)) (an hK rfl) rfl rfl (fun _ => rfl)) ?_
  replace H := H.take (v := (oc.length : Nat) + 1)
  rw [hs] at s0
  generalize (takeS bx ((oc.length : Nat) + 1)).2 = bx2 at H ⊢
  generalize setBox h b l' bx2 = h2 at H ⊢
  have t0 := takeS_bounds (bx := bx2) (w := 6) (by decide)
  obtain ⟨e, he, hse, hen⟩ := mnE (Int.ofNat_le.mp (Int.le_of_lt_add_one s0.2)) t0.1
  refine x_goG (g_asg (e_min (e_lenb (en hK rfl rfl rfl) (KS.kind hK rfl) (Nat.le_trans ho (by decide)) (fun _ => rfl) (fun _ => rfl)) (e_addi (en hK rfl rfl rfl) (e_callf (es_cons cell' (es_cons e_int es_nil (fun _ => rfl)) (fun _ => rfl)) (takeB (w := 6) (by (exact Nat.lt_of_le_of_lt (Nat.le_of_ble_eq_true rfl) (by assumption))) H.B (by decide) rfl) (n_take _) (kp_174 _) (KS.kind hK rfl) rfl (fun _ => rfl) (fun _ => rfl) (fun _ => rfl))) (KS.kind hK rfl) (fun _ => rfl) (fun _ => rfl) (fun _ => rfl) (fun _ => rfl)) (an hK rfl) rfl rfl (fun _ => rfl)) ?_
  rw [he]
  replace H := H.take (v := 6)
  clear he t0 hs s0
  generalize (takeS bx2 6).2 = bx3 at H ⊢
  generalize setBox h2 b l' bx3 = h3 at H ⊢
  have hd := sl_len (oc := oc) (Int.natCast_nonneg s) (Int.ofNat_le.mpr hse) (Int.ofNat_le.mpr hen)
  refine x_ifG (t_cmp (en hK rfl rfl rfl) (e_addi (en hK rfl rfl rfl) (en hK rfl rfl rfl)) (c_int rfl) rfl) (fun hfar => ?_) (fun hfit => ?_)
  · refine x_ifGf (e_callfG (es_cons (en hK rfl rfl rfl) (es_cons (en hK rfl rfl rfl) (es_cons (e_sliceb (en hK rfl rfl rfl) (p_some (en hK rfl rfl rfl)) (p_some (en hK rfl rfl rfl)) (Int.natCast_nonneg s) (Int.natCast_nonneg e) (Nat.le_trans ho (by decide)) (fun _ _ _ => slb) (fun _ _ _ => by with_unfolding_all rfl)) es_nil (fun _ => rfl)) (fun _ => rfl)) (fun _ => rfl))
      (refusal_g (by (exact Nat.le_of_lt (by assumption))) H.ho H.hd (show (sl oc (s : Nat) (e : Nat)).length ≤ 1000 from Nat.le_trans (part_le hd (Nat.le_trans hen ho)) (by decide)) (show (s : Int) + ((sl oc (s : Nat) (e : Nat)).length : Nat) > told + lim by rw [hd]; exact of_decide_eq_true hfar)) (n_ref _) (kp_186 _) (KS.kind hK rfl) rfl (fun _ => rfl) (fun _ => rfl) (fun _ => rfl)) (fun X2 t2 => e_int) (fun X2 t2 => c_int rfl) rfl (fun X2 t2 => (x_cont ?_).g)
    exact ⟨inL N told lim oc, LSub.skip rfl (LSub.skip rfl (LSub.skip rfl LSub.refl)), .mk H I⟩
  refine (x_nil (fun X2 hT2 => ExecJ.g ?_)).g
  replace hK := hT2.ks hK
  replace hR : 5 < X2.room := by rw [hT2.env.2.2.2.2.1]; exact hR
  replace hfit := of_decide_eq_false hfit
  clear cell' hT2 hT
  have hkl : ∀ j, ((setR kn s j).map AV.bool).length = oc.length := fun j => by rw [List.length_map, setR_len, I.len]
  refine x_loop (m_for_range (a := (s : Nat)) (b := (e : Nat)) (n := e - s) (J := fun j l h => l = (("start", AV.int (s : Nat)) :: ("stop", AV.int (e : Nat)) :: inL N told lim oc : List (Str × AV)) ∧ InH h b l' N bx3 lim told w (sp.map (pc oc)) (setR kn s j))
    (r_two (es_cons (en hK rfl rfl rfl) (es_cons (en hK rfl rfl rfl) es_nil (fun _ => rfl)) (fun _ => rfl)) bo_range (n_range _) (KS.kind hK rfl) (fun _ => rfl) (fun _ => rfl) (fun _ => rfl)) (ite_sub hse) (by (exact Int.natCast_nonneg _)) (Int.ofNat_le.mpr (Nat.le_trans hse (Nat.le_trans hen (Nat.le_trans ho (by decide))))) (by (exact Int.natCast_nonneg _)) (Int.ofNat_le.mpr (Nat.le_trans hen (Nat.le_trans ho (by decide))))
    ⟨_, LSub.cons rfl (LSub.cons rfl (LSub.cons rfl (LSub.cons rfl (LSub.cons rfl (LSub.cons rfl (LSub.cons rfl LSub.nil)))))), rfl, H⟩ ?turn2 ?done2 (KS.kind hK rfl) (fun _ => rfl))
  case turn2 =>
    rintro j _ h hj ⟨rfl, H⟩
    refine x_go (g_asg e_bool (a_sub (en hK rfl rfl rfl) (en hK rfl rfl rfl) H.hk (by (exact Int.natCast_nonneg _)) (by rw [hkl]; exact Int.ofNat_lt.mpr (Nat.lt_of_lt_of_le (Nat.add_lt_of_lt_sub' hj) hen)) (by rw [hkl]; exact Nat.le_trans ho (by decide)) rfl) rfl rfl (fun _ => rfl)) (x_nil ⟨_, LSub.skip rfl LSub.refl, rfl, ?_⟩)
    rw [setR, show ((s : Nat) : Int) + (j : Nat) = ((s + j : Nat) : Int) from rfl, Int.toNat_natCast, ← List.map_set]
    exact H.flag
  clear H
  rintro _ h4 ⟨rfl, H⟩
  obtain ⟨t', w', left, h5, htt, hcall, H', I'⟩ := arrived_any (X := X2) (by (exact Nat.lt_of_le_of_lt (Nat.le_of_ble_eq_true rfl) (by assumption))) H I ho hse hen hfit
  have tn := I'.t1
  have t0 := I.t0
  have hst := I'.stop
  refine x_go (g_asg (en hK rfl rfl rfl) (an hK rfl) rfl rfl (fun _ => rfl)) ?_
  refine x_loop (m_while (J := WhJ N told t' s e lim oc h4) (t' - told).toNat
    ⟨_, LSub.cons rfl (LSub.cons rfl (LSub.cons rfl (LSub.cons rfl (LSub.cons rfl (LSub.cons rfl (LSub.cons rfl (LSub.cons rfl LSub.nil))))))), .mk (Int.le_refl _) htt (Int.toNat_of_nonneg (Int.sub_nonneg_of_le htt))⟩ ?turn3)
  rintro j _ _ ⟨ht0, ht1, hj⟩
  rename_i t
  by_cases hlt : t < t'
  · have fl := hst.2 t.toNat (by rw [Int.toNat_of_nonneg (Int.le_trans t0 ht0)]; exact hlt)
    refine ⟨_, _, t_and_cons (t_cmp (en hK rfl rfl rfl) (e_lenb (en hK rfl rfl rfl) (KS.kind hK rfl) (Nat.le_trans ho (by decide)) (fun _ => rfl) (fun _ => rfl)) (c_int rfl) rfl) (fun _ => t_and_cons (t_plain (e_item (v := .bool true) (en hK rfl rfl rfl) (en hK rfl rfl rfl) H.hk (by (exact Int.le_trans (by assumption) (by assumption))) (by rw [List.getElem?_map, fl]; rfl) (by rw [hkl]; exact Nat.le_trans ho (by decide)) (fun _ _ _ => by with_unfolding_all rfl)) (fun _ => rfl)) (fun _ => t_and_nil)), fun hz => ?_, fun _ => ?_⟩
    · rw [decide_eq_true (Int.lt_of_lt_of_le hlt tn)] at hz
      cases hz
    · exact x_go (g_asg (e_addi (en hK rfl rfl rfl) e_int) (an hK rfl) rfl rfl (fun _ => rfl)) (x_nil ⟨j - 1, _, (while_dec hj hlt).1, LSub.cons rfl (LSub.cons rfl (LSub.cons rfl (LSub.cons rfl (LSub.cons rfl (LSub.cons rfl (LSub.cons rfl (LSub.cons rfl LSub.nil))))))), .mk (t := t + 1) (Int.le_add_one ht0) (by assumption) (while_dec hj hlt).2⟩)
  · have het : t = t' := Int.le_antisymm ht1 (Int.not_lt.mp hlt)
    subst het
    refine ⟨_, _, t_and_cons (t_cmp (en hK rfl rfl rfl) (e_lenb (en hK rfl rfl rfl) (KS.kind hK rfl) (Nat.le_trans ho (by decide)) (fun _ => rfl) (fun _ => rfl)) (c_int rfl) rfl) (fun hb => t_and_cons (t_plain (e_item (v := .bool false) (en hK rfl rfl rfl) (en hK rfl rfl rfl) H.hk (by (exact Int.le_trans (by assumption) (by assumption))) (by rw [List.getElem?_map, hst.1 (of_decide_eq_true hb)]; rfl) (by rw [hkl]; exact Nat.le_trans ho (by decide)) (fun _ _ _ => by with_unfolding_all rfl)) (fun _ => rfl)) (fun _ => t_and_nil)), fun _ => ?_, fun hz => ?_⟩
    · refine x_if (t_cmp (e_meth (en hK rfl rfl rfl) H.ho H.hd rfl (es_cons (en hK rfl rfl rfl) (es_cons (e_sliceb (en hK rfl rfl rfl) (p_some (en hK rfl rfl rfl)) (p_some (en hK rfl rfl rfl)) (Int.natCast_nonneg s) (Int.natCast_nonneg e) (Nat.le_trans ho (by decide)) (fun _ _ _ => slb) (fun _ _ _ => by with_unfolding_all rfl)) es_nil (fun _ => rfl)) (fun _ => rfl)) hcall (ckIn _) (m_arrived _) (fn_97 _) (kp_97 _) (fun _ => rfl) (fun _ => rfl) (fun _ => rfl))
        (e_sliceb (en hK rfl rfl rfl) (p_some (en hK rfl rfl rfl)) (p_some (en hK rfl rfl rfl)) t0 (Int.le_trans t0 htt) (Nat.le_trans ho (by decide)) (fun _ _ _ => slb) (fun _ _ _ => by with_unfolding_all rfl)) c_bytes_ne rfl) (fun hb => ?_) (fun _ => x_nil (show ExecJ _ _ _ _ _ from ?_))
      · exact absurd hb (by rw [show cutL oc (some told) (some t) = sl oc told t from rfl, bne_self_eq_false]; decide)
      refine x_if (t_cmp (e_meth0 (en hK rfl rfl rfl) H'.ho H'.hd rfl (has_waiting_j (by (exact Nat.lt_of_le_of_lt (Nat.le_of_ble_eq_true rfl) (by assumption))) H'.ho H'.hd H'.hw (by rw [List.length_map]; have := I'.cnt (by lia); (exact Nat.le_trans (by assumption) (Nat.le_of_ble_eq_true rfl)))) (ckIn _) (m_waiting _) (fn_104 _) (kp_104 _) (fun _ => rfl))
        (e_cmp e_bool (e_slicel (en hK rfl rfl rfl) (p_some (en hK rfl rfl rfl)) p_none H'.hk (Int.le_trans t0 htt) trivial (by rw [hkl]; exact Nat.le_trans ho (by decide)) (fun _ _ => sll) (fun _ _ => by with_unfolding_all rfl)) (c_in_bool (bs := cutL (setR kn s (e - s)) (some t) none) (by rw [← cutL_map]; exact hg_new)) rfl) c_bool_ne rfl) (fun hb => ?_) (fun _ => x_nil (show ExecJ _ _ _ _ _ from ?_))
      · exact absurd hb (by rw [I'.wait, bne_self_eq_false]; decide)
      exact x_nil ⟨_, LSub.cons rfl (LSub.cons rfl (LSub.cons rfl (LSub.cons rfl (LSub.cons rfl LSub.nil)))), .mk H'.app I'⟩
    · rw [Bool.false_and, Bool.and_false] at hz
      cases hz
end
end Mine
end

section
set_option maxHeartbeats 1000000
open PySem PySem.W PyProof.Rows PySem.Calls
namespace Mine
section
variable {X : FX} {hp : Hp}
noncomputable def CuL (f i : Nat) (lo hi : Int) : Loc := [("found", .ref f), ("high", .int hi), ("low", .int lo), ("spans", .ref i)]
theorem cut_span_j {i : Nat} {sp : Sp} {lo hi : Int} (hr : 0 < X.room) (hi0 : hp[i]? = some (.list (asps sp))) (hlen : sp.length ≤ 1000) :
    CallJ X hp (.ref 62) [.ref i, .int lo, .int hi] (.ref hp.length) (hp ++ [.list (asps (cutSpan sp lo hi))]) := by
  refine call_new (hp' := hp) ?_ rfl (fun _ => asps_small _ _) (fun h => h)
  refine' callq_of (xs := ["spans", "low", "high"]) [("high", .int hi), ("low", .int lo), ("spans", .ref i)] ?ho ?hcd hr ?hb ?hl rfl ?h ?c1 ?c2 ?c3 ?c4
  case ho => k_is
  case hcd => k_is
  case hb => intro us h; obtain ⟨a, b, c, rfl⟩ := len3 h; rfl
  case hl => decide
  case c1 => rfl
  case c2 => rfl
  case c3 => rfl
  case c4 => decide
  intro Y hw hY hroom
  refine x_go (g_asg (e_list es_nil rfl) (a_name (KS.kind hY rfl)) rfl rfl (fun _ => rfl)) ?_
  refine x_loop (m_for_list (J := fun k l h => l = CuL hp.length i lo hi ∧ h = hp ++ [.list (asps ((sp.take k).foldl (cutStep lo hi) []))] ∧ ((sp.take k).foldl (cutStep lo hi) []).length ≤ 2 * k) (e_name rfl (KS.kind hY rfl) rfl) (hg_old hi0) ?_ ⟨_, LSub.refl, rfl, rfl, Nat.le_refl _⟩ ?_ ?_ (fun _ => rfl))
  · rintro k l h ⟨rfl, rfl, -⟩; exact hg_old hi0
  · rintro k v l h hv ⟨rfl, rfl, hlf⟩
    obtain ⟨p, hp1, rfl⟩ := asps_get hv
    have hk := get_lt hp1
    refine ⟨_, _, (a_tup (as_cons (a_name (KS.kind hY rfl)) (as_cons (a_name (KS.kind hY rfl)) as_nil (fun _ => rfl)) (fun _ => rfl)) (fun _ => rfl) (fun _ => rfl)), ?_⟩
    generalize hfo : (sp.take k).foldl (cutStep lo hi) [] = fo at hlf ⊢
    have hst := fold_snoc (f := cutStep lo hi) (b := []) hp1
    rw [hfo] at hst
    refine x_when (H := hp ++ [.list (asps (fo ++ if p.1 < mn p.2 lo then [(p.1, mn p.2 lo)] else []))]) (t_cmp (e_name rfl (KS.kind hY rfl) rfl) (e_min (e_name rfl (KS.kind hY rfl) rfl) (e_name rfl (KS.kind hY rfl) rfl) (KS.kind hY rfl) (fun _ => rfl) (fun _ => rfl) (fun _ => rfl) (fun _ => rfl)) (c_int rfl) rfl) (fun h => ?_) (fun h => ?_) ?_
    · refine x_go (g_expr' (e_append (e_name rfl (KS.kind hY rfl) rfl) (e_tuple (es_cons (e_name rfl (KS.kind hY rfl) rfl) (es_cons (e_min (e_name rfl (KS.kind hY rfl) rfl) (e_name rfl (KS.kind hY rfl) rfl) (KS.kind hY rfl) (fun _ => rfl) (fun _ => rfl) (fun _ => rfl) (fun _ => rfl)) es_nil (fun _ => rfl)) (fun _ => rfl)) rfl) hg_new hg_new (by rw [List.length_map]; omega) set_new (fun _ => rfl) (fun _ => rfl)) rfl) (x_nil ⟨rfl, rfl, ?_⟩)
      rw [if_pos (of_decide_eq_true h), asps_snoc]
    · rw [if_neg (of_decide_eq_false h), List.append_nil]
    · have hl2 : (fo ++ if p.1 < mn p.2 lo then [(p.1, mn p.2 lo)] else []).length ≤ 2 * k + 1 := by rw [List.length_append]; split <;> simp <;> omega
      refine x_when (H := hp ++ [.list (asps (cutStep lo hi fo p))]) (t_cmp (e_max (e_name rfl (KS.kind hY rfl) rfl) (e_name rfl (KS.kind hY rfl) rfl) (KS.kind hY rfl) (fun _ => rfl) (fun _ => rfl) (fun _ => rfl) (fun _ => rfl)) (e_name rfl (KS.kind hY rfl) rfl) (c_int rfl) rfl) (fun h => ?_) (fun h => ?_) ?_
      · refine x_go (g_expr' (e_append (e_name rfl (KS.kind hY rfl) rfl) (e_tuple (es_cons (e_max (e_name rfl (KS.kind hY rfl) rfl) (e_name rfl (KS.kind hY rfl) rfl) (KS.kind hY rfl) (fun _ => rfl) (fun _ => rfl) (fun _ => rfl) (fun _ => rfl)) (es_cons (e_name rfl (KS.kind hY rfl) rfl) es_nil (fun _ => rfl)) (fun _ => rfl)) rfl) hg_new hg_new (by rw [List.length_map]; omega) set_new (fun _ => rfl) (fun _ => rfl)) rfl) (x_nil ⟨rfl, rfl, ?_⟩)
        unfold cutStep
        rw [if_pos (of_decide_eq_true h), asps_snoc]
      · unfold cutStep
        rw [if_neg (of_decide_eq_false h), List.append_nil]
      · refine x_nil ⟨_, LSub.skip rfl (LSub.skip rfl LSub.refl), rfl, by rw [hst], ?_⟩
        rw [hst]; exact Nat.le_trans (cutStep_len ..) (by omega)
  · rintro l h ⟨rfl, rfl, hlf⟩
    rw [show sp.take (asps sp).length = sp from List.take_of_length_le (Nat.le_of_eq (List.length_map ..).symm)]
    by_cases c : lo < hi
    · refine x_ret (e_ift (by rw [← decide_eq_true c]; exact t_cmp (e_name rfl (KS.kind hY rfl) rfl) (e_name rfl (KS.kind hY rfl) rfl) (c_int rfl) rfl) (e_name rfl (KS.kind hY rfl) rfl)) ⟨0, _, rfl, rfl, ?_⟩
      rw [cutSpan, if_pos c]; rfl
    · refine x_ret (e_iff (by rw [← decide_eq_false c]; exact t_cmp (e_name rfl (KS.kind hY rfl) rfl) (e_name rfl (KS.kind hY rfl) rfl) (c_int rfl) rfl) (e_copy (e_name rfl (KS.kind hY rfl) rfl) (hg_old hi0) (KS.kind hY rfl) (by rw [List.length_map]; (exact Nat.le_trans (by assumption) (Nat.le_of_ble_eq_true rfl))) (fun _ => rfl) (fun _ => rfl))) ⟨1, _, by simp, by rw [List.append_assoc], ?_⟩
      rw [cutSpan, if_neg c]; rfl
end
end Mine
end

section
set_option maxHeartbeats 1000000
open PySem PySem.W PyProof.Rows PySem.Calls
namespace Mine
section
variable {X : FX} {hp : Hp}
noncomputable def AsL (i f : Nat) (ip : Bool) (lo hi : Int) : Loc := [("found", .ref f), ("is_put", .bool ip), ("low", .int lo), ("high", .int hi), ("spans", .ref i)]
inductive AsJ (i : Nat) (hp : Hp) (sp : Sp) (lo hi : Int) (k : Nat) (l : Loc) (h : Hp) : Prop
  | mk (fo : Sp) (ip : Bool) (lo' hi' : Int) (hst : (sp.take k).foldl addStep ([], false, lo, hi) = (fo, ip, lo', hi')) (e1 : l = AsL i hp.length ip lo' hi') (e2 : h = hp ++ [.list (asps fo)]) (e3 : fo.length ≤ 2 * k) : AsJ i hp sp lo hi k l h
inductive WoJ (i j : Nat) (hp : Hp) (sp ot : Sp) (k : Nat) (l : Loc) (h : Hp) : Prop
  | mk (q : Nat) (g : Hp) (e1 : l = ([("found", .ref (hp.length + q)), ("others", .ref j), ("spans", .ref i)] : Loc)) (e2 : h = hp ++ g) (e3 : g[q]? = some (.list (asps ((ot.take k).foldl (fun s p => cutSpan s p.1 p.2) sp)))) : WoJ i j hp sp ot k l h
theorem add_span_j {i : Nat} {sp : Sp} {lo hi : Int} (hr : 0 < X.room) (hi0 : hp[i]? = some (.list (asps sp))) (hlen : sp.length ≤ 1000) :
    CallJ X hp (.ref 55) [.ref i, .int lo, .int hi] (.ref hp.length) (hp ++ [.list (asps (addSpan sp lo hi))]) := by
  refine call_new (hp' := hp) ?_ rfl (fun _ => asps_small _ _) (fun h => h)
  refine' callq_of (xs := ["spans", "low", "high"]) [("high", .int hi), ("low", .int lo), ("spans", .ref i)] ?ho ?hcd hr ?hb ?hl rfl ?h ?c1 ?c2 ?c3 ?c4
  case ho => k_is
  case hcd => k_is
  case hb => intro us h; obtain ⟨a, b, c, rfl⟩ := len3 h; rfl
  case hl => decide
  case c1 => rfl
  case c2 => rfl
  case c3 => rfl
  case c4 => decide
  intro Y hw hY hroom
  refine x_if (t_cmp (en hY rfl rfl rfl) (en hY rfl rfl rfl) (c_int rfl) rfl) (fun h => ?_) (fun h0 => ?_)
  · refine x_ret (e_copy (en hY rfl rfl rfl) hi0 (KS.kind hY rfl) (by rw [List.length_map]; (exact Nat.le_trans (by assumption) (Nat.le_of_ble_eq_true rfl))) (fun _ => rfl) (fun _ => rfl)) ⟨0, _, rfl, rfl, ?_⟩
    rw [addSpan, if_pos (of_decide_eq_true h)]; rfl
  refine x_nil (show ExecJ _ _ _ _ _ from ?_)
  refine x_go (g_swap2 (e_tuple (es_cons (e_list es_nil rfl) (es_cons e_bool es_nil (fun _ => rfl)) (fun _ => rfl)) rfl) (KS.swap hY fun _ _ _ _ _ => rfl) (KS.kind hY rfl) (KS.kind hY rfl) rfl) ?_
  refine x_loop (m_for_list (J := AsJ i hp sp lo hi) (en hY rfl rfl rfl) (hg_old hi0) ?_
    ⟨AsL i hp.length false lo hi, LSub.cons rfl (LSub.cons rfl (LSub.cons rfl (LSub.cons rfl (LSub.cons rfl LSub.nil)))), [], false, lo, hi, rfl, rfl, rfl, Nat.le_refl _⟩ ?_ ?_ (fun _ => rfl))
  · rintro k l h ⟨fo, ip, lo', hi', -, rfl, rfl, -⟩; exact hg_old hi0
  · rintro k v l h hv ⟨fo, ip, lo', hi', hst, rfl, rfl, hlf⟩
    obtain ⟨p, hp1, rfl⟩ := asps_get hv
    have hk := get_lt hp1
    have hz : (asps fo).length ≤ 1000000 := by rw [List.length_map]; exact Nat.le_trans hlf (Nat.le_trans (Nat.mul_le_mul_left 2 (Nat.le_trans (Nat.le_of_lt hk) hlen)) (by decide))
    have hst' := fold_snoc (f := addStep) (b := ([], false, lo, hi)) hp1
    rw [hst] at hst'
    refine ⟨_, _, (a_tup (as_cons (an hY rfl) (as_cons (an hY rfl) as_nil (fun _ => rfl)) (fun _ => rfl)) (fun _ => rfl) (fun _ => rfl)), ?_⟩
    refine x_if (t_cmp (en hY rfl rfl rfl) (en hY rfl rfl rfl) (c_int rfl) rfl) (fun h1 => ?_) (fun h1 => ?_)
    · refine x_go (g_expr' (e_append (en hY rfl rfl rfl) (e_tuple (es_cons (en hY rfl rfl rfl) (es_cons (en hY rfl rfl rfl) es_nil (fun _ => rfl)) (fun _ => rfl)) rfl) hg_new hg_new hz set_new (fun _ => rfl) (fun _ => rfl)) rfl) (x_nil (x_nil ⟨_, LSub.skip rfl (LSub.skip rfl LSub.refl), fo ++ [p], ip, lo', hi', ?_, rfl, by rw [asps_snoc], by rw [List.length_append]; exact Nat.le_trans (Nat.succ_le_succ hlf) (Nat.le_succ _)⟩))
      rw [hst', addStep, if_pos (of_decide_eq_true h1)]
    · refine x_if (t_cmp (en hY rfl rfl rfl) (en hY rfl rfl rfl) (c_int rfl) rfl) (fun h2 => ?_) (fun h2 => ?_)
      · have hs : addStep (fo, ip, lo', hi') p = (fo ++ (if ip then [] else [(lo', hi')]) ++ [p], true, lo', hi') := by rw [addStep, if_neg (of_decide_eq_false h1), if_pos (of_decide_eq_true h2)]
        rw [hs] at hst'
        cases ip with
        | true =>
          refine x_if (t_not (t_plain (en hY rfl rfl rfl) (fun _ => rfl))) (fun h3 => by cases h3) (fun h3 => x_nil ?_)
          refine x_go (g_expr' (e_append (en hY rfl rfl rfl) (e_tuple (es_cons (en hY rfl rfl rfl) (es_cons (en hY rfl rfl rfl) es_nil (fun _ => rfl)) (fun _ => rfl)) rfl) hg_new hg_new hz set_new (fun _ => rfl) (fun _ => rfl)) rfl) (x_nil (x_nil (x_nil ⟨_, LSub.skip rfl (LSub.skip rfl LSub.refl), fo ++ [p], true, lo', hi', ?_, rfl, by rw [asps_snoc], by rw [List.length_append]; exact Nat.le_trans (Nat.succ_le_succ hlf) (Nat.le_succ _)⟩)))
          rw [hst', if_pos rfl, List.append_nil]
        | false =>
          refine x_if (t_not (t_plain (en hY rfl rfl rfl) (fun _ => rfl))) (fun h3 => ?_) (fun h3 => by cases h3)
          refine x_go (g_expr' (e_append (en hY rfl rfl rfl) (e_tuple (es_cons (en hY rfl rfl rfl) (es_cons (en hY rfl rfl rfl) es_nil (fun _ => rfl)) (fun _ => rfl)) rfl) hg_new hg_new hz set_new (fun _ => rfl) (fun _ => rfl)) rfl) ?_
          refine x_go (g_asg e_bool (an hY rfl) rfl rfl (fun _ => rfl)) (x_nil ?_)
          refine x_go (g_expr' (e_append (en hY rfl rfl rfl) (e_tuple (es_cons (en hY rfl rfl rfl) (es_cons (en hY rfl rfl rfl) es_nil (fun _ => rfl)) (fun _ => rfl)) rfl) hg_new hg_new (by rw [List.length_append]; simp; omega) set_new (fun _ => rfl) (fun _ => rfl)) rfl) (x_nil (x_nil (x_nil ⟨AsL i hp.length true lo' hi', LSub.cons rfl (LSub.cons rfl (LSub.cons rfl (LSub.cons rfl (LSub.cons rfl LSub.nil)))), _, true, lo', hi', hst', rfl, by rw [if_neg (by decide), asps_snoc, asps_snoc], by rw [List.length_append]; simp; omega⟩)))
      · refine x_go (g_swap2 (e_tuple (es_cons (e_min (en hY rfl rfl rfl) (en hY rfl rfl rfl) (KS.kind hY rfl) (fun _ => rfl) (fun _ => rfl) (fun _ => rfl) (fun _ => rfl)) (es_cons (e_max (en hY rfl rfl rfl) (en hY rfl rfl rfl) (KS.kind hY rfl) (fun _ => rfl) (fun _ => rfl) (fun _ => rfl) (fun _ => rfl)) es_nil (fun _ => rfl)) (fun _ => rfl)) rfl) (KS.swap hY fun _ _ _ _ _ => rfl) (KS.kind hY rfl) (KS.kind hY rfl) rfl) (x_nil (x_nil (x_nil ⟨AsL i hp.length ip _ _, LSub.cons rfl (LSub.cons rfl (LSub.cons rfl (LSub.cons rfl (LSub.cons rfl LSub.nil)))), fo, ip, _, _, ?_, rfl, rfl, Nat.le_trans hlf (Nat.mul_le_mul_left 2 (Nat.le_succ k))⟩)))
        rw [hst', addStep, if_neg (of_decide_eq_false h1), if_neg (of_decide_eq_false h2)]
  · rintro l h ⟨fo, ip, lo', hi', hst, rfl, rfl, hlf⟩
    rw [show sp.take (asps sp).length = sp from List.take_of_length_le (Nat.le_of_eq (List.length_map ..).symm)] at hst
    have hfl : fo.length ≤ 2000 := by rw [List.length_map] at hlf; exact Nat.le_trans hlf (Nat.mul_le_mul_left 2 hlen)
    have e : addSpan sp lo hi = addEnd (fo, ip, lo', hi') := by rw [addSpan, if_neg (of_decide_eq_false h0), hst]
    rw [e]
    cases ip with
    | true => exact x_ret (e_ift (t_plain (en hY rfl rfl rfl) (fun _ => rfl)) (en hY rfl rfl rfl)) ⟨0, _, rfl, rfl, rfl⟩
    | false =>
      refine x_ret (e_iff (t_plain (en hY rfl rfl rfl) (fun _ => rfl)) (e_addl (en hY rfl rfl rfl) (e_list (es_cons (e_tuple (es_cons (en hY rfl rfl rfl) (es_cons (en hY rfl rfl rfl) es_nil (fun _ => rfl)) (fun _ => rfl)) rfl) es_nil (fun _ => rfl)) rfl) (hg_old hg_new) hg_new (by rw [List.length_map]; simp; (exact Nat.le_trans (by assumption) (Nat.le_of_ble_eq_true rfl))))) ⟨2, _, by simp, by rw [List.append_assoc, List.append_assoc], ?_⟩
      rw [show addEnd (fo, false, lo', hi') = fo ++ [(lo', hi')] from rfl, asps_snoc]; rfl

theorem without_spans_j {i j : Nat} {sp ot : Sp} (hr : 1 < X.room) (hi0 : hp[i]? = some (.list (asps sp))) (hj0 : hp[j]? = some (.list (asps ot))) (hlen : sp.length = 1) (hbig : ∀ k, ((ot.take k).foldl (fun s p => cutSpan s p.1 p.2) sp).length ≤ 1000) :
    CallJ X hp (.ref 76) [.ref i, .ref j] (.ref hp.length) (hp ++ [.list (asps (ot.foldl (fun s p => cutSpan s p.1 p.2) sp))]) := by
  refine call_new (hp' := hp) ?_ rfl (fun _ => asps_small _ _) (fun h => h)
  refine' callq_of (xs := ["spans", "others"]) [("others", .ref j), ("spans", .ref i)] ?ho ?hcd (by (exact Nat.le_of_lt (by assumption))) ?hb ?hl rfl ?h ?c1 ?c2 ?c3 ?c4
  case ho => k_is
  case hcd => k_is
  case hb => intro us h; obtain ⟨a, b, rfl⟩ := len2 h; rfl
  case hl => decide
  case c1 => rfl
  case c2 => rfl
  case c3 => rfl
  case c4 => decide
  intro Y hw hY hroom
  refine x_go (g_asg (e_copy (en hY rfl rfl rfl) hi0 (KS.kind hY rfl) (by rw [List.length_map]; omega) (fun _ => rfl) (fun _ => rfl)) (an hY rfl) rfl rfl (fun _ => rfl)) ?_
  refine x_loop (m_for_list (J := WoJ i j hp sp ot) (en hY rfl rfl rfl) (hg_old hj0) ?_ ⟨_, LSub.refl, 0, _, rfl, rfl, rfl⟩ ?_ ?_ (fun _ => rfl))
  · rintro k l h ⟨q, g, rfl, rfl, -⟩; exact hg_old hj0
  · rintro k v l h hv ⟨q, g, rfl, rfl, hg⟩
    obtain ⟨p, hp1, rfl⟩ := asps_get hv
    refine ⟨_, _, (a_tup (as_cons (an hY rfl) (as_cons (an hY rfl) as_nil (fun _ => rfl)) (fun _ => rfl)) (fun _ => rfl) (fun _ => rfl)), ?_⟩
    refine x_go (g_asg (e_callf (es_cons (en hY rfl rfl rfl) (es_cons (en hY rfl rfl rfl) (es_cons (en hY rfl rfl rfl) es_nil (fun _ => rfl)) (fun _ => rfl)) (fun _ => rfl)) (cut_span_j (sp := (ot.take k).foldl (fun s p => cutSpan s p.1 p.2) sp) (by (exact rm (by assumption) (by assumption) (Nat.le_of_ble_eq_true rfl))) (by rw [List.getElem?_append_right (Nat.le_add_right _ _), Nat.add_sub_cancel_left]; exact hg) (hbig k)) (n_cut_span _) (kp_62 _) (KS.kind hY rfl) rfl (fun _ => rfl) (fun _ => rfl) (fun _ => rfl)) (an hY rfl) rfl rfl (fun _ => rfl)) ?_
    refine x_nil ⟨[("found", .ref (hp ++ g).length), ("others", .ref j), ("spans", .ref i)], LSub.cons rfl (LSub.cons rfl (LSub.cons rfl LSub.nil)), g.length, g ++ _, by rw [List.length_append], by rw [List.append_assoc], ?_⟩
    rw [fold_snoc hp1]
    exact hg_new
  · rintro l h ⟨q, g, rfl, rfl, hg⟩
    rw [show ot.take (asps ot).length = ot from List.take_of_length_le (Nat.le_of_eq (List.length_map ..).symm)] at hg
    exact x_ret (en hY rfl rfl rfl) ⟨q, g, rfl, rfl, hg⟩
end
end Mine
end

section
namespace Mine
/-- flags and the spans that say the same -/
structure FlagS (n : Nat) (l : List Bool) (sp : Sp) : Prop where
  len : l.length = n
  can : Can sp
  lo : ∀ p ∈ sp, 0 ≤ p.1
  hi : ∀ p ∈ sp, p.2 ≤ (n : Int)
  mem : ∀ i : Nat, i < n → (l[i]? = some true ↔ In sp i)
theorem FlagS.nil : FlagS 0 [] [] := ⟨rfl, Can.nil, fun _ h => (by cases h), fun _ h => (by cases h), fun i h => absurd h (Nat.not_lt_zero i)⟩
theorem FlagS.count {n : Nat} {l : List Bool} {sp : Sp} (h : FlagS n l sp) : sp.length ≤ n := by
  have := h.can.len h.lo h.hi (by (exact Int.natCast_nonneg _))
  omega
theorem FlagS.add {n : Nat} {l l' : List Bool} {sp : Sp} {a b : Int} (h : FlagS n l sp) (ha : 0 ≤ a) (hab : a < b) (hb : b ≤ n) (hl : l'.length = n) (hm : ∀ i : Nat, i < n → (l'[i]? = some true ↔ l[i]? = some true ∨ (a ≤ i ∧ (i : Int) < b))) : FlagS n l' (addSpan sp a b) := by
  rw [addSpan_eq h.can hab]
  refine ⟨hl, addR_can h.can hab, fun p hp => ?_, addR_high hb h.hi, fun i hi => ?_⟩
  · exact addR_low (x := -1) (Int.lt_of_lt_of_le (by decide) ha) (fun q hq => Int.lt_of_lt_of_le (by decide) (h.lo q hq)) p hp
  · rw [addR_in h.can hab, hm i hi, h.mem i hi]
theorem FlagS.adds {n : Nat} : ∀ {rs : Sp} {l l' : List Bool} {sp : Sp}, FlagS n l sp → (∀ p ∈ rs, 0 ≤ p.1 ∧ p.1 < p.2 ∧ p.2 ≤ n) → l'.length = n → (∀ i : Nat, i < n → (l'[i]? = some true ↔ l[i]? = some true ∨ In rs i)) → FlagS n l' (rs.foldl (fun s p => addSpan s p.1 p.2) sp)
  | [], l, l', sp, h, _, hl, hm => ⟨hl, h.can, h.lo, h.hi, fun i hi => by rw [hm i hi, or_iff_left In.nil]; exact h.mem i hi⟩
  | p :: r, l, l', sp, h, hr, hl, hm => by
    obtain ⟨a, b, c⟩ := hr p (.head _)
    let g : Nat → Bool := fun i => decide (l[i]? = some true) || decide (p.1 ≤ i ∧ (i : Int) < p.2)
    have hg : ∀ i : Nat, i < n → (((List.range n).map g)[i]? = some true ↔ l[i]? = some true ∨ (p.1 ≤ i ∧ (i : Int) < p.2)) := fun i hi => by
      rw [List.getElem?_map, List.getElem?_range hi]
      simp [g]
    exact FlagS.adds (rs := r) (h.add a b c (by rw [List.length_map, List.length_range]) hg) (fun q hq => hr q (.tail _ hq)) hl fun i hi => by
      rw [hm i hi, In.cons, hg i hi, or_assoc]
theorem FlagS.cut {n : Nat} {l l' : List Bool} {sp : Sp} {a b : Int} (h : FlagS n l sp) (hab : a < b) (hl : l'.length = n) (hm : ∀ i : Nat, i < n → (l'[i]? = some true ↔ l[i]? = some true ∧ ¬ (a ≤ i ∧ (i : Int) < b))) : FlagS n l' (cutSpan sp a b) := by
  rw [cutSpan_eq hab]
  refine ⟨hl, cutR_can hab h.can, fun p hp => ?_, fun p hp => ?_, fun i hi => ?_⟩
  · obtain ⟨_, q, hq, h1, _⟩ := cutR_sub hp
    exact Int.le_trans (h.lo q hq) h1
  · obtain ⟨_, q, hq, _, h1⟩ := cutR_sub hp
    exact Int.le_trans h1 (h.hi q hq)
  · rw [cutR_in hab, hm i hi, h.mem i hi]
theorem FlagS.pad {n : Nat} {l : List Bool} {sp : Sp} (h : FlagS n l sp) (m : Nat) : FlagS (n + m) (l ++ List.replicate m false) sp := by
  refine ⟨by rw [List.length_append, List.length_replicate, h.len], h.can, h.lo, fun p hp => Int.le_trans (h.hi p hp) (by omega), fun i hi => ?_⟩
  by_cases c : i < n
  · rw [List.getElem?_append_left (by rw [h.len]; exact c)]; exact h.mem i c
  · rw [List.getElem?_append_right (by rw [h.len]; omega), List.getElem?_replicate]
    refine ⟨fun z => (by split at z <;> cases z), fun ⟨p, hp, _, z⟩ => ?_⟩
    have := h.hi p hp
    omega
theorem FlagS.put {n : Nat} {l : List Bool} {sp : Sp} (h : FlagS n l sp) (m : Nat) : FlagS (n + m) (l ++ List.replicate m true) (addSpan sp n ((n : Int) + m)) := by
  by_cases c : m = 0
  · subst c
    rw [addSpan, if_pos (by (exact Int.le_refl _)), List.replicate_zero, List.append_nil]; exact h
  · refine (h.pad m).add (Int.natCast_nonneg n) (by omega) (by (exact Int.le_refl _)) (by rw [List.length_append, List.length_replicate, h.len]) fun i hi => ?_
    by_cases c2 : i < n
    · rw [List.getElem?_append_left (by rw [h.len]; exact c2), List.getElem?_append_left (by rw [h.len]; exact c2)]
      exact (or_iff_left fun z => by omega).symm
    · rw [List.getElem?_append_right (by rw [h.len]; omega), List.getElem?_replicate, if_pos (by rw [h.len]; omega)]
      exact ⟨fun _ => .inr (by omega), fun _ => rfl⟩
/-- all came -/
theorem FlagS.all {n : Nat} {l : List Bool} {sp : Sp} (h : FlagS n l sp) (hn : 0 < n) : decide (sp = [((0 : Int), (n : Int))]) = !l.any (· == false) := by
  rw [Bool.eq_iff_iff, decide_eq_true_eq, Bool.not_eq_true', List.any_eq_false]
  constructor
  · rintro rfl x hx
    obtain ⟨i, hi⟩ := List.mem_iff_getElem?.mp hx
    have hlt := (List.getElem?_eq_some_iff.mp hi).1
    rw [h.len] at hlt
    have := (h.mem i hlt).mpr ⟨_, .head _, Int.natCast_nonneg i, Int.ofNat_lt.mpr hlt⟩
    rw [hi] at this
    cases this
    decide
  · intro ha
    have hall : ∀ i : Nat, i < n → In sp i := fun i hi => (h.mem i hi).mp (by
      have hl : i < l.length := by rw [h.len]; exact hi
      rw [List.getElem?_eq_getElem hl]
      have := ha l[i] (List.getElem_mem hl)
      cases e : l[i] with
      | true => rfl
      | false => rw [e] at this; exact absurd rfl this)
    match sp, h, hall with
    | [], _, hall => exact (In.nil (hall 0 hn)).elim
    | p :: r, h, hall =>
      have c := h.can.one
      have l0 := h.lo p (.head _)
      have h0 := h.hi p (.head _)
      have g := h.can.gap
      have p1 : p.1 = 0 := by
        rcases In.cons.mp (hall 0 hn) with z | ⟨q, hq, z, _⟩
        · exact Int.le_antisymm z.1 l0
        · have := g q hq
          exact absurd z (Int.not_le.mpr (Int.lt_trans (Int.lt_of_le_of_lt l0 c) this))
      have p2 : p.2 = n := by
        refine Int.le_antisymm h0 (Int.not_lt.mp fun z => ?_)
        have k0 : ((p.2.toNat : Nat) : Int) = p.2 := Int.toNat_of_nonneg (Int.le_trans l0 (Int.le_of_lt c))
        have := hall p.2.toNat (by omega)
        rw [k0] at this
        rcases In.cons.mp this with y | ⟨q, hq, y, _⟩
        · exact Int.lt_irrefl _ y.2
        · exact absurd (g q hq) (Int.not_lt.mpr y)
      have pr : r = [] := by
        match r, h, g with
        | [], _, _ => rfl
        | q :: _, h, g =>
          have := g q (.head _)
          have a := h.can.tail.one
          have b := h.hi q (.tail _ (.head _))
          rw [p2] at this
          exact absurd b (Int.not_le.mpr (Int.lt_trans this a))
      rw [pr, ← p1, ← p2]

/-! what was not acknowledged of a span -/
noncomputable def cutAll (sp ot : Sp) : Sp := ot.foldl (fun s p => cutSpan s p.1 p.2) sp
theorem cutAll_spec : ∀ {ot sp : Sp}, Can sp → (∀ p ∈ ot, p.1 < p.2) → Can (cutAll sp ot) ∧ (∀ q ∈ cutAll sp ot, ∃ p ∈ sp, p.1 ≤ q.1 ∧ q.2 ≤ p.2) ∧ ∀ i, In (cutAll sp ot) i ↔ In sp i ∧ ¬ In ot i
  | [], sp, c, _ => ⟨c, fun q hq => ⟨q, hq, Int.le_refl _, Int.le_refl _⟩, fun i => (and_iff_left In.nil).symm⟩
  | p :: r, sp, c, h => by
    have hp := h p (.head _)
    have e : cutAll sp (p :: r) = cutAll (cutSpan sp p.1 p.2) r := rfl
    rw [e, cutSpan_eq hp]
    obtain ⟨h1, h2, h3⟩ := cutAll_spec (ot := r) (cutR_can hp c) fun q hq => h q (.tail _ hq)
    refine ⟨h1, fun q hq => ?_, fun i => ?_⟩
    · obtain ⟨q1, hq1, a, b⟩ := h2 q hq
      obtain ⟨_, q2, hq2, a', b'⟩ := cutR_sub hq1
      exact ⟨q2, hq2, Int.le_trans a' a, Int.le_trans b b'⟩
    · rw [h3, cutR_in hp, In.cons, not_or, and_assoc]
theorem cutAll_one {ot : Sp} {a b : Int} (hab : a < b) (h : ∀ p ∈ ot, p.1 < p.2) : Can (cutAll [(a, b)] ot) ∧ (∀ q ∈ cutAll [(a, b)] ot, a ≤ q.1 ∧ q.1 < q.2 ∧ q.2 ≤ b) ∧ ∀ i, In (cutAll [(a, b)] ot) i ↔ (a ≤ i ∧ i < b) ∧ ¬ In ot i := by
  obtain ⟨h1, h2, h3⟩ := cutAll_spec (ot := ot) (sp := [(a, b)]) (Can.nil.cons hab fun _ h => by cases h) h
  refine ⟨h1, fun q hq => ?_, fun i => ?_⟩
  · obtain ⟨p, hp, x, y⟩ := h2 q hq
    rw [List.mem_singleton.mp hp] at x y
    exact ⟨x, h1.2 q hq, y⟩
  · rw [h3, In.cons, or_iff_left In.nil]

/-! the first that are due -/
noncomputable def row (a : Nat) (k : Nat) : List Int := (List.range k).map fun j => ((a + j : Nat) : Int)
theorem row_succ (a k : Nat) : row a (k + 1) = row a k ++ [((a + k : Nat) : Int)] := by
  unfold row
  rw [List.range_succ, List.map_append]; rfl
theorem row_len (a k : Nat) : (row a k).length = k := by unfold row; simp
theorem row_get {a k j : Nat} (h : j < k) : (row a k)[j]? = some ((a + j : Nat) : Int) := by
  unfold row
  rw [List.getElem?_map, List.getElem?_range h]; rfl
noncomputable def FDI (du : List Bool) (most : Int) (k : Nat) (fo : List Int) : Prop :=
  (fo = [] ∧ (most ≤ 0 ∨ ∀ i : Nat, i < k → du[i]? ≠ some true)) ∨ ∃ a m : Nat, a + m = k ∧ 0 < m ∧ fo = row a m ∧ (m : Int) ≤ most ∧ (∀ i, a ≤ i → i < k → du[i]? = some true) ∧ ∀ i, i < a → du[i]? ≠ some true
noncomputable def FDE (du : List Bool) (most : Int) (fo : List Int) : Prop :=
  (fo = [] ∧ (most ≤ 0 ∨ ∀ i : Nat, i < du.length → du[i]? ≠ some true)) ∨ ∃ a m : Nat, 0 < m ∧ fo = row a m ∧ (m : Int) ≤ most ∧ (∀ i, a ≤ i → i < a + m → du[i]? = some true) ∧ (∀ i, i < a → du[i]? ≠ some true) ∧ ((m : Int) = most ∨ du[a + m]? ≠ some true)
theorem FlagS.at_ {n : Nat} {l : List Bool} {p : Int × Int} {r : Sp} (h : FlagS n l (p :: r)) : ∃ k : Nat, p.1 = (k : Int) ∧ k < n ∧ l[k]? = some true := by
  obtain ⟨k, hk⟩ := Int.eq_ofNat_of_zero_le (h.lo p (.head _))
  have kn : k < n := Int.ofNat_lt.mp (hk ▸ Int.lt_of_lt_of_le h.can.one (h.hi p (.head _)))
  exact ⟨k, hk, kn, (h.mem k kn).mpr ⟨p, .head _, Int.le_of_eq hk, hk ▸ h.can.one⟩⟩
theorem FlagS.first {n : Nat} {l : List Bool} {sp : Sp} {most : Int} {fo : List Int} (h : FlagS n l sp) (f : FDE l most fo) : (fo = [] ∧ firstV sp most = none) ∨ ∃ a m : Nat, 0 < m ∧ a + m ≤ n ∧ fo = row a m ∧ firstV sp most = some ((a : Int), ((a + m : Nat) : Int)) := by
  rcases f with ⟨rfl, f⟩ | ⟨a, m, m0, rfl, hm, hall, hno, hend⟩
  · refine .inl ⟨rfl, ?_⟩
    cases sp with
    | nil => rfl
    | cons p r =>
      rcases f with f | f
      · exact if_pos f
      · obtain ⟨k, _, kn, kt⟩ := h.at_
        exact absurd kt (f k (h.len.symm ▸ kn))
  · have am : a < a + m := Nat.lt_add_of_pos_right m0
    have han : a + m ≤ n := by
      cases m with
      | zero => cases m0
      | succ m =>
        have := (List.getElem?_eq_some_iff.mp (hall (a + m) (Nat.le_add_right _ _) (Nat.lt_succ_self _))).1
        rw [h.len] at this
        exact this
    refine .inr ⟨a, m, m0, han, rfl, ?_⟩
    have hin := (h.mem a (Nat.lt_of_lt_of_le am han)).mp (hall a (Nat.le_refl _) am)
    cases sp with
    | nil => exact (In.nil hin).elim
    | cons p r =>
      obtain ⟨k, k0, kn, kt⟩ := h.at_
      have c := h.can.one
      have g := h.can.gap
      have h0 := h.hi p (.head _)
      have ka : (a : Int) ≤ p.1 := k0 ▸ Int.ofNat_le.mpr (Nat.not_lt.mp fun z => hno k z kt)
      have p1 : p.1 = a := by
        rcases In.cons.mp hin with z | ⟨q, hq, z, _⟩
        · exact Int.le_antisymm z.1 ka
        · exact absurd (Int.lt_of_lt_of_le (Int.lt_trans c (g q hq)) z) (Int.not_lt.mpr ka)
      obtain ⟨j, hj⟩ := Int.eq_ofNat_of_zero_le (Int.le_of_lt (Int.lt_of_le_of_lt (h.lo p (.head _)) c))
      have aj : a < j := Int.ofNat_lt.mp (p1 ▸ hj ▸ c)
      have p2 : a + m ≤ j := Nat.not_lt.mp fun z => by
        rcases In.cons.mp ((h.mem j (Nat.lt_of_lt_of_le z han)).mp (hall j (Nat.le_of_lt aj) z)) with y | ⟨q, hq, y, _⟩
        · exact absurd (hj ▸ y.2) (Int.lt_irrefl _)
        · exact absurd (hj ▸ g q hq) (Int.not_lt.mpr y)
      have e : mn p.2 (p.1 + most) = ((a + m : Nat) : Int) := by
        have e1 : (a : Int) + m ≤ a + most := Int.add_le_add_left hm _
        rw [hj, p1]
        rcases hend with he | he
        · rw [← he]; exact mn_r (Int.ofNat_le.mpr p2)
        · have : j ≤ a + m := Nat.not_lt.mp fun z => he ((h.mem _ (Nat.lt_of_lt_of_le z (Int.ofNat_le.mp (hj ▸ h0)))).mpr ⟨p, .head _, p1 ▸ Int.ofNat_le.mpr (Nat.le_add_right _ _), hj ▸ Int.ofNat_lt.mpr z⟩)
          rw [Nat.le_antisymm this p2]; exact mn_l e1
      show (if most ≤ 0 then none else some (p.1, mn p.2 (p.1 + most))) = _
      rw [if_neg (Int.not_le.mpr (show (0 : Int) < most from Int.lt_of_lt_of_le (Int.ofNat_lt.mpr m0) hm)), e, p1]
end Mine
end

section
set_option maxHeartbeats 1000000
open PySem PySem.W PyProof.Rows PySem.Calls
namespace Mine
theorem ckOut (q : Params) : CK q 163 := ⟨by k_is, by k_is, by k_is, by k_is⟩
theorem fO_data (q : Params) : findIn (hd.heap_39 q) (.ref 163) "data" = some none := by k_is
theorem fO_due (q : Params) : findIn (hd.heap_39 q) (.ref 163) "due" = some none := by k_is
theorem fO_acked (q : Params) : findIn (hd.heap_39 q) (.ref 163) "acked" = some none := by k_is
section
variable {X : FX} {hp : Hp}
noncomputable abbrev outF (oc : List UInt8) (D A : Nat) : Loc := [("data", .bytes oc), ("due", .ref D), ("acked", .ref A)]
theorem newOut_j (hr : 2 < X.room) : CallJ X hp (.ref 163) [] (.ref (hp.length + 1)) (hp ++ [.dict (outF [] (hp.length + 2) (hp.length + 3)), .inst 163 hp.length, .list [], .list []]) := by
  refine (callcls_of (C := 163) (fI := 125) (W := fun h => h = hp ++ [.dict (outF [] (hp.length + 2) (hp.length + 3)), .inst 163 hp.length, .list [], .list []]) (by k_is) (by k_is) (by k_is) (by (exact Nat.le_of_lt (by assumption))) fun Z hZw hZr => ?_).one fun _ _ h => h
  refine' codeq_of (xs := ["self"]) [("self", .ref (hp.length + 1))] ?ho ?hcd (by (exact rm (by assumption) (by assumption) (Nat.le_of_ble_eq_true rfl))) ?hb ?hl rfl ?h ?c1 ?c2 ?c3 ?c4
  case ho => k_is
  case hcd => k_is
  case hb => intro us h; obtain ⟨a, rfl⟩ := len1 h; rfl
  case hl => decide
  case c1 => rfl
  case c2 => rfl
  case c3 => rfl
  case c4 => decide
  intro Y hw hY hroom
  have n1 : ∀ f : Loc, (hp ++ [AO.dict f, .inst 163 hp.length])[hp.length + 1]? = some (.inst 163 hp.length) := fun f => by rw [List.getElem?_append_right (by omega)]; simp
  have n2 : ∀ f : Loc, ∀ l : AO, (hp ++ [AO.dict f, .inst 163 hp.length, l])[hp.length + 1]? = some (.inst 163 hp.length) := fun f l => by rw [List.getElem?_append_right (by omega)]; simp
  have s1 : ∀ (f f' : Loc) (l : AO), ((hp ++ [AO.dict f, .inst 163 hp.length]) ++ [l]).set hp.length (.dict f') = hp ++ [.dict f', .inst 163 hp.length, l] := fun f f' l => by rw [List.append_assoc]; exact set_new
  refine x_go (g_asg e_bconst (a_attr (en hY rfl rfl rfl) (n1 _) hg_new (Nat.le_of_ble_eq_true rfl) (ckOut _) (fO_data _) set_new) rfl rfl (fun _ => rfl)) ?_
  refine x_go (g_asg (e_list es_nil rfl) (a_attr (en hY rfl rfl rfl) (hg_old (n1 _)) (hg_old hg_new) (Nat.le_of_ble_eq_true rfl) (ckOut _) (fO_due _) (s1 _ _ _)) rfl rfl (fun _ => rfl)) ?_
  refine x_go (g_asg (e_list es_nil rfl) (a_attr (en hY rfl rfl rfl) (hg_old (n2 _ _)) (hg_old hg_new) (Nat.le_of_ble_eq_true rfl) (ckOut _) (fO_acked _) rfl) rfl rfl (fun _ => rfl)) ?_
  refine x_nil ⟨rfl, ?_⟩
  rw [List.append_assoc, List.length_append, List.length_append]
  exact set_new
end
section
variable {X : FX} {hp : Hp} {o d D A : Nat} {oc : List UInt8} {ds ak : Sp}
/-- a sender on the heap -/
structure OutO (hp : Hp) (o d D A : Nat) (oc : List UInt8) (ds ak : Sp) : Prop where
  ho : hp[o]? = some (.inst 163 d)
  hd : hp[d]? = some (.dict (outF oc D A))
  hD : hp[D]? = some (.list (asps ds))
  hA : hp[A]? = some (.list (asps ak))
  od : o ≠ d
  Dd : D ≠ d
  Ad : A ≠ d
  n : oc.length ≤ 100
  nD : ds.length ≤ 100
  nA : ak.length ≤ 100
theorem set_two {hp g : Hp} {d : Nat} {x y : AO} (h : d < hp.length) : (hp.set d x ++ g).set d y = hp.set d y ++ g := by rw [set_app (by rw [List.length_set]; exact h), List.set_set]
theorem set_ne {hp : Hp} {i d : Nat} {x o : AO} (h : i ≠ d) (e : hp[i]? = some o) : (hp.set d x)[i]? = some o := by rw [List.getElem?_set_ne (Ne.symm h)]; exact e
theorem put_j {data : List UInt8} (hr : 2 < X.room) (H : OutO hp o d D A oc ds ak) (hn : data.length ≤ 100) :
    CallJ X hp (.ref 132) [.ref o, .bytes data] .none (hp.set d (.dict (outF (oc ++ data) hp.length A)) ++ [.list (asps (addSpan ds (oc.length : Nat) ((oc.length : Nat) + (data.length : Nat))))]) := by
  refine (?_ : CallQ X hp _ _ (fun u h => u = .none ∧ h = hp.set d (.dict (outF (oc ++ data) hp.length A)) ++ [.list (asps (addSpan ds (oc.length : Nat) ((oc.length : Nat) + (data.length : Nat))))])).one fun _ _ h => h
  refine' callq_of (xs := ["self", "data"]) [("data", .bytes data), ("self", .ref o)] ?ho ?hcd (by (exact Nat.lt_of_le_of_lt (Nat.le_of_ble_eq_true rfl) (by assumption))) ?hb ?hl rfl ?h ?c1 ?c2 ?c3 ?c4
  case ho => k_is
  case hcd => k_is
  case hb => intro us h; obtain ⟨a, b, rfl⟩ := len2 h; rfl
  case hl => decide
  case c1 => rfl
  case c2 => rfl
  case c3 => rfl
  case c4 => decide
  intro Y hw hY hroom
  have h1 := H.n
  have dl := hg_len H.hd
  have el : ∀ {hp : Hp} {D : Nat} {o d : Nat} {p1 p2 : Pos} {np p : Pos}, hp[o]? = some (.inst 163 d) → hp[d]? = some (.dict (outF oc D A)) → EvJ Y [("data", .bytes data), ("self", .ref o)] hp (.Attribute (.Name "self" p1) "data" p2) (.bytes oc) hp := fun ho hd => e_attr (en hY rfl rfl rfl) ho hd rfl (ckOut _) (fO_data _) (fun _ => by with_unfolding_all rfl)
  refine x_go (g_asg (e_callf (es_cons (e_attr (en hY rfl rfl rfl) H.ho H.hd rfl (ckOut _) (fO_due _) (fun _ => by with_unfolding_all rfl)) (es_cons (e_lenb (e_attr (en hY rfl rfl rfl) H.ho H.hd rfl (ckOut _) (fO_data _) (fun _ => by with_unfolding_all rfl)) (KS.kind hY rfl) (by (exact Nat.le_trans (by assumption) (Nat.le_of_ble_eq_true rfl))) (fun _ => rfl) (fun _ => rfl)) (es_cons (e_addi (e_lenb (e_attr (en hY rfl rfl rfl) H.ho H.hd rfl (ckOut _) (fO_data _) (fun _ => by with_unfolding_all rfl)) (KS.kind hY rfl) (by (exact Nat.le_trans (by assumption) (Nat.le_of_ble_eq_true rfl))) (fun _ => rfl) (fun _ => rfl)) (e_lenb (en hY rfl rfl rfl) (KS.kind hY rfl) (by (exact Nat.le_trans (by assumption) (Nat.le_of_ble_eq_true rfl))) (fun _ => rfl) (fun _ => rfl))) es_nil (fun _ => rfl)) (fun _ => rfl)) (fun _ => rfl))
    (add_span_j (by (exact rm (by assumption) (by assumption) (Nat.le_of_ble_eq_true rfl))) H.hD (Nat.le_trans H.nD (by decide))) (n_add_span _) (kp_55 _) (KS.kind hY rfl) rfl (fun _ => rfl) (fun _ => rfl) (fun _ => rfl)) (a_attr (en hY rfl rfl rfl) (hg_old H.ho) (hg_old H.hd) (Nat.le_of_ble_eq_true rfl) (ckOut _) (fO_due _) (set_app dl)) rfl rfl (fun _ => rfl)) ?_
  refine x_go (g_asg (e_addb (e_attr (en hY rfl rfl rfl) (hg_old (set_ne H.od H.ho)) (hg_old (List.getElem?_set_self dl)) rfl (ckOut _) (fO_data _) (fun _ => by with_unfolding_all rfl)) (en hY rfl rfl rfl) (by omega)) (a_attr (en hY rfl rfl rfl) (hg_old (set_ne H.od H.ho)) (hg_old (List.getElem?_set_self dl)) (Nat.le_of_ble_eq_true rfl) (ckOut _) (fO_data _) (set_two dl)) rfl rfl (fun _ => rfl)) ?_
  exact x_nil ⟨rfl, rfl⟩
theorem next_chunk_j {most : Int} {v : AV} {h' : Hp} (hr : 2 < X.room) (H : OutO hp o d D A oc ds ak)
    (h : match firstV ds most with | none => v = .none ∧ h' = hp | some (a, b) => 0 ≤ a ∧ 0 ≤ b ∧ v = .tup [.int a, .bytes (cutL oc (some a) (some b))] ∧ h' = hp.set d (.dict (outF oc hp.length A)) ++ [.list (asps (cutSpan ds a b))]) :
    CallJ X hp (.ref 139) [.ref o, .int most] v h' := by
  refine (?_ : CallQ X hp _ _ (fun u g => u = v ∧ g = h')).one fun _ _ h => h
  refine' callq_of (xs := ["self", "most"]) [("most", .int most), ("self", .ref o)] ?ho ?hcd (by (exact Nat.lt_of_le_of_lt (Nat.le_of_ble_eq_true rfl) (by assumption))) ?hb ?hl rfl ?h ?c1 ?c2 ?c3 ?c4
  case ho => k_is
  case hcd => k_is
  case hb => intro us h; obtain ⟨a, b, rfl⟩ := len2 h; rfl
  case hl => decide
  case c1 => rfl
  case c2 => rfl
  case c3 => rfl
  case c4 => decide
  intro Y hw hY hroom
  have h1 := H.n
  have dl := hg_len H.hd
  refine x_go (g_asg (e_callf (es_cons (e_attr (en hY rfl rfl rfl) H.ho H.hd rfl (ckOut _) (fO_due _) (fun _ => by with_unfolding_all rfl)) (es_cons (en hY rfl rfl rfl) es_nil (fun _ => rfl)) (fun _ => rfl)) (first_span_j (by (exact rm (by assumption) (by assumption) (Nat.le_of_ble_eq_true rfl))) H.hD (Nat.le_trans H.nD (by decide))) (n_first_span _) (kp_69 _) (KS.kind hY rfl) rfl (fun _ => rfl) (fun _ => rfl) (fun _ => rfl)) (an hY rfl) rfl rfl (fun _ => rfl)) ?_
  cases hf : firstV ds most with
  | none =>
    rw [hf] at h
    obtain ⟨rfl, rfl⟩ := h
    refine x_if (t_cmp (en hY rfl rfl rfl) e_none c_is_none rfl) (fun _ => x_ret e_none ⟨rfl, rfl⟩) (fun h => by cases h)
  | some p =>
    obtain ⟨a, b⟩ := p
    rw [hf] at h
    obtain ⟨a0, b0, rfl, rfl⟩ := h
    refine x_if (t_cmp (en hY rfl rfl rfl) e_none c_is_none rfl) (fun h => by cases h) (fun _ => x_nil (show ExecJ _ _ _ _ _ from ?_))
    have i0 : ∀ {hp : Hp} {p1 p2 p3 : Pos} {k : Nat}, EvJ Y [("span", asp (a, b)), ("most", .int most), ("self", .ref o)] hp (.Subscript (.Name "span" p1) (.Constant (.int 0) k p2) p3) (.int a) hp := e_tupitem (en hY rfl rfl rfl) e_int (by decide) rfl (Nat.le_of_ble_eq_true rfl) (fun _ _ _ => by with_unfolding_all rfl)
    have i1 : ∀ {hp : Hp} {p1 p2 p3 : Pos} {k : Nat}, EvJ Y [("span", asp (a, b)), ("most", .int most), ("self", .ref o)] hp (.Subscript (.Name "span" p1) (.Constant (.int 1) k p2) p3) (.int b) hp := e_tupitem (en hY rfl rfl rfl) e_int (by decide) rfl (Nat.le_of_ble_eq_true rfl) (fun _ _ _ => by with_unfolding_all rfl)
    refine x_go (g_asg (e_callf (es_cons (e_attr (en hY rfl rfl rfl) H.ho H.hd rfl (ckOut _) (fO_due _) (fun _ => by with_unfolding_all rfl)) (es_cons i0 (es_cons i1 es_nil (fun _ => rfl)) (fun _ => rfl)) (fun _ => rfl)) (cut_span_j (by (exact rm (by assumption) (by assumption) (Nat.le_of_ble_eq_true rfl))) H.hD (Nat.le_trans H.nD (by decide))) (n_cut_span _) (kp_62 _) (KS.kind hY rfl) rfl (fun _ => rfl) (fun _ => rfl) (fun _ => rfl))
      (a_attr (en hY rfl rfl rfl) (hg_old H.ho) (hg_old H.hd) (Nat.le_of_ble_eq_true rfl) (ckOut _) (fO_due _) (set_app dl)) rfl rfl (fun _ => rfl)) ?_
    exact x_ret (e_tuple (es_cons i0 (es_cons (e_sliceb (e_attr (en hY rfl rfl rfl) (hg_old (set_ne H.od H.ho)) (hg_old (List.getElem?_set_self dl)) rfl (ckOut _) (fO_data _) (fun _ => by with_unfolding_all rfl)) (p_some i0) (p_some i1) a0 b0 (by (exact Nat.le_trans (by assumption) (Nat.le_of_ble_eq_true rfl))) (fun _ _ _ => slb) (fun _ _ _ => by with_unfolding_all rfl)) es_nil (fun _ => rfl)) (fun _ => rfl)) rfl) ⟨rfl, rfl⟩
theorem on_acked_j {a k : Int} (hr : 2 < X.room) (H : OutO hp o d D A oc ds ak) :
    CallJ X hp (.ref 153) [.ref o, .int a, .int k] .none (hp.set d (.dict (outF oc (hp.length + 1) hp.length)) ++ [.list (asps (addSpan ak a (a + k))), .list (asps (cutSpan ds a (a + k)))]) := by
  refine (?_ : CallQ X hp _ _ (fun u h => u = .none ∧ h = hp.set d (.dict (outF oc (hp.length + 1) hp.length)) ++ [.list (asps (addSpan ak a (a + k))), .list (asps (cutSpan ds a (a + k)))])).one fun _ _ h => h
  refine' callq_of (xs := ["self", "offset", "size"]) [("size", .int k), ("offset", .int a), ("self", .ref o)] ?ho ?hcd (by (exact Nat.lt_of_le_of_lt (Nat.le_of_ble_eq_true rfl) (by assumption))) ?hb ?hl rfl ?h ?c1 ?c2 ?c3 ?c4
  case ho => k_is
  case hcd => k_is
  case hb => intro us h; obtain ⟨a, b, c, rfl⟩ := len3 h; rfl
  case hl => decide
  case c1 => rfl
  case c2 => rfl
  case c3 => rfl
  case c4 => decide
  intro Y hw hY hroom
  have dl := hg_len H.hd
  refine x_go (g_asg (e_callf (es_cons (e_attr (en hY rfl rfl rfl) H.ho H.hd rfl (ckOut _) (fO_acked _) (fun _ => by with_unfolding_all rfl)) (es_cons (en hY rfl rfl rfl) (es_cons (e_addi (en hY rfl rfl rfl) (en hY rfl rfl rfl)) es_nil (fun _ => rfl)) (fun _ => rfl)) (fun _ => rfl)) (add_span_j (by (exact rm (by assumption) (by assumption) (Nat.le_of_ble_eq_true rfl))) H.hA (Nat.le_trans H.nA (by decide))) (n_add_span _) (kp_55 _) (KS.kind hY rfl) rfl (fun _ => rfl) (fun _ => rfl) (fun _ => rfl))
    (a_attr (en hY rfl rfl rfl) (hg_old H.ho) (hg_old H.hd) (Nat.le_of_ble_eq_true rfl) (ckOut _) (fO_acked _) (set_app dl)) rfl rfl (fun _ => rfl)) ?_
  refine x_go (g_asg (e_callf (es_cons (e_attr (en hY rfl rfl rfl) (hg_old (set_ne H.od H.ho)) (hg_old (List.getElem?_set_self dl)) rfl (ckOut _) (fO_due _) (fun _ => by with_unfolding_all rfl)) (es_cons (en hY rfl rfl rfl) (es_cons (e_addi (en hY rfl rfl rfl) (en hY rfl rfl rfl)) es_nil (fun _ => rfl)) (fun _ => rfl)) (fun _ => rfl)) (cut_span_j (by (exact rm (by assumption) (by assumption) (Nat.le_of_ble_eq_true rfl))) (hg_old (set_ne H.Dd H.hD)) (Nat.le_trans H.nD (by decide))) (n_cut_span _) (kp_62 _) (KS.kind hY rfl) rfl (fun _ => rfl) (fun _ => rfl) (fun _ => rfl))
    (a_attr (en hY rfl rfl rfl) (hg_old (hg_old (set_ne H.od H.ho))) (hg_old (hg_old (List.getElem?_set_self dl))) (Nat.le_of_ble_eq_true rfl) (ckOut _) (fO_due _) rfl) rfl rfl (fun _ => rfl)) ?_
  refine x_nil ⟨rfl, ?_⟩
  rw [List.append_assoc, set_two dl, List.length_append, List.length_set]
  rfl
theorem on_lost_q {a k : Int} (hr : 3 < X.room) (H : OutO hp o d D A oc ds ak) (hb : ∀ j, (cutAll [(a, a + k)] (ak.take j)).length ≤ 1000) (hs : ∀ j, (((cutAll [(a, a + k)] ak).take j).foldl (fun s p => addSpan s p.1 p.2) ds).length ≤ 1000) :
    CallQ X hp (.ref 146) [.ref o, .int a, .int k] (fun u h => u = .none ∧ ∃ D' g, (D' = D ∨ d < D') ∧ h = hp.set d (.dict (outF oc D' A)) ++ g ∧ h[D']? = some (.list (asps ((cutAll [(a, a + k)] ak).foldl (fun s p => addSpan s p.1 p.2) ds)))) := by
  refine' callq_of (xs := ["self", "offset", "size"]) [("size", .int k), ("offset", .int a), ("self", .ref o)] ?ho ?hcd (by (exact Nat.lt_of_le_of_lt (Nat.le_of_ble_eq_true rfl) (by assumption))) ?hb ?hl rfl ?h ?c1 ?c2 ?c3 ?c4
  case ho => k_is
  case hcd => k_is
  case hb => intro us h; obtain ⟨a, b, c, rfl⟩ := len3 h; rfl
  case hl => decide
  case c1 => rfl
  case c2 => rfl
  case c3 => rfl
  case c4 => decide
  intro Y hw hY hroom
  have dl := hg_len H.hd
  refine x_loop (m_for_list (J := fun j l h => l = ([("size", .int k), ("offset", .int a), ("self", .ref o)] : Loc) ∧ ∃ D' g, (D' = D ∨ d < D') ∧ h = hp.set d (.dict (outF oc D' A)) ++ ([AO.list [asp (a, a + k)], .list (asps (cutAll [(a, a + k)] ak))] ++ g) ∧ h[D']? = some (.list (asps (((cutAll [(a, a + k)] ak).take j).foldl (fun s p => addSpan s p.1 p.2) ds))))
    (e_callf (es_cons (e_list (es_cons (e_tuple (es_cons (en hY rfl rfl rfl) (es_cons (e_addi (en hY rfl rfl rfl) (en hY rfl rfl rfl)) es_nil (fun _ => rfl)) (fun _ => rfl)) rfl) es_nil (fun _ => rfl)) rfl) (es_cons (e_attr (en hY rfl rfl rfl) (hg_old H.ho) (hg_old H.hd) rfl (ckOut _) (fO_acked _) (fun _ => by with_unfolding_all rfl)) es_nil (fun _ => rfl)) (fun _ => rfl)) (without_spans_j (sp := [(a, a + k)]) (ot := ak) (by (exact rm (by assumption) (by assumption) (Nat.le_of_ble_eq_true rfl))) hg_new (hg_old H.hA) rfl (fun j => hb j)) (n_without_spans _) (kp_76 _) (KS.kind hY rfl) rfl (fun _ => rfl) (fun _ => rfl) (fun _ => rfl))
    hg_new ?hl2 ⟨_, LSub.refl, rfl, D, [], .inl rfl, by rw [set_same H.hd, List.append_assoc]; rfl, hg_old (hg_old H.hD)⟩ ?turn ?done (fun _ => rfl))
  case hl2 =>
    rintro j l h ⟨-, D', g, -, rfl, -⟩
    rw [List.getElem?_append_right (by rw [List.length_set, List.length_append]; omega), List.length_set, List.length_append, List.length_singleton, Nat.add_sub_cancel_left]; rfl
  case turn =>
    rintro j v l h hv ⟨rfl, D', g, hDd, rfl, hD'⟩
    obtain ⟨p, hp1, rfl⟩ := asps_get hv
    refine ⟨_, _, (a_tup (as_cons (an hY rfl) (as_cons (an hY rfl) as_nil (fun _ => rfl)) (fun _ => rfl)) (fun _ => rfl) (fun _ => rfl)), ?_⟩
    refine x_go (g_asg (e_callf (es_cons (e_attr (en hY rfl rfl rfl) (hg_old (set_ne H.od H.ho)) (hg_old (List.getElem?_set_self dl)) rfl (ckOut _) (fO_due _) (fun _ => by with_unfolding_all rfl)) (es_cons (en hY rfl rfl rfl) (es_cons (en hY rfl rfl rfl) es_nil (fun _ => rfl)) (fun _ => rfl)) (fun _ => rfl)) (add_span_j (by (exact rm (by assumption) (by assumption) (Nat.le_of_ble_eq_true rfl))) hD' (hs j)) (n_add_span _) (kp_55 _) (KS.kind hY rfl) rfl (fun _ => rfl) (fun _ => rfl) (fun _ => rfl))
      (a_attr (en hY rfl rfl rfl) (hg_old (hg_old (set_ne H.od H.ho))) (hg_old (hg_old (List.getElem?_set_self dl))) (Nat.le_of_ble_eq_true rfl) (ckOut _) (fO_due _) rfl) rfl rfl (fun _ => rfl)) ?_
    have hlen : d < (hp.set d (AO.dict (outF oc D' A)) ++ ([AO.list [asp (a, a + k)], .list (asps (cutAll [(a, a + k)] ak))] ++ g)).length := by rw [List.length_append, List.length_set]; omega
    refine x_nil ⟨_, LSub.skip rfl (LSub.skip rfl LSub.refl), rfl, _, _, .inr hlen, by rw [List.append_assoc, set_two dl, List.append_assoc]; rfl, ?_⟩
    rw [fold_snoc (f := fun s p => addSpan s p.1 p.2) (b := ds) (show (cutAll [(a, a + k)] ak)[j]? = some p from hp1)]
    exact set_ne (Ne.symm (Nat.ne_of_lt hlen)) hg_new
  case done =>
    rintro l h ⟨rfl, D', g, hDd, rfl, hD'⟩
    exact x_nil ⟨rfl, D', _, hDd, rfl, hD'.trans (congrArg (fun z => some (AO.list (asps (List.foldl (fun (s : Sp) (p : Int × Int) => addSpan s p.1 p.2) ds z)))) (List.take_of_length_le (Nat.le_of_eq (List.length_map ..).symm)))⟩
theorem is_done_j (hr : 2 < X.room) (H : OutO hp o d D A oc ds ak) :
    CallJ X hp (.ref 160) [.ref o] (.bool (decide (((oc.length : Nat) : Int) = 0) || decide (ak = [((0 : Int), ((oc.length : Nat) : Int))]))) hp := by
  refine (?_ : CallQ X hp _ _ (fun u h => u = .bool (decide (((oc.length : Nat) : Int) = 0) || decide (ak = [((0 : Int), ((oc.length : Nat) : Int))])) ∧ h = hp)).one fun _ _ h => h
  refine' callq_of (xs := ["self"]) [("self", .ref o)] ?ho ?hcd (by (exact Nat.lt_of_le_of_lt (Nat.le_of_ble_eq_true rfl) (by assumption))) ?hb ?hl rfl ?h ?c1 ?c2 ?c3 ?c4
  case ho => k_is
  case hcd => k_is
  case hb => intro us h; obtain ⟨a, rfl⟩ := len1 h; rfl
  case hl => decide
  case c1 => rfl
  case c2 => rfl
  case c3 => rfl
  case c4 => decide
  intro Y hw hY hroom
  have h1 := H.n
  have len : ∀ {p1 p2 np p : Pos}, EvJ Y [("self", .ref o)] hp (.Call (.Name "len" np) [.Attribute (.Name "self" p1) "data" p2] [] p) (.int (oc.length : Nat)) hp := e_lenb (e_attr (en hY rfl rfl rfl) H.ho H.hd rfl (ckOut _) (fO_data _) (fun _ => by with_unfolding_all rfl)) (KS.kind hY rfl) (by (exact Nat.le_trans (by assumption) (Nat.le_of_ble_eq_true rfl))) (fun _ => rfl) (fun _ => rfl)
  refine x_ret (e_or (e_cmp len e_int (c_int rfl) rfl) (fun _ => e_cut (e_cmp (e_attr (en hY rfl rfl rfl) H.ho H.hd rfl (ckOut _) (fO_acked _) (fun _ => by with_unfolding_all rfl)) (e_list (es_cons (e_tuple (es_cons e_int (es_cons len es_nil (fun _ => rfl)) (fun _ => rfl)) rfl) es_nil (fun _ => rfl)) rfl) (c_eq_span1 (hg_old H.hA) hg_new (by (exact rm (by assumption) (by assumption) (Nat.le_of_ble_eq_true rfl)))) rfl) rfl)) ⟨rfl, rfl⟩
end
end Mine
end

section
set_option maxHeartbeats 1000000
open PySem PySem.W PyProof.Rows PySem.Calls
namespace Mine
theorem FDI.end {du : List Bool} {most : Int} {fo : List Int} (h : FDI du most du.length fo) : FDE du most fo := by
  rcases h with h | ⟨a, m, e, m0, rfl, hm, h1, h2⟩
  · exact .inl h
  · exact .inr ⟨a, m, m0, rfl, hm, fun i x y => h1 i x (e ▸ y), h2, .inr (by rw [e, List.getElem?_eq_none (Nat.le_refl _)]; simp)⟩
section
variable {X : FX} {hp : Hp}
theorem c_eq_snoc {i j : Nat} {q : List AV} {v : AV} (hi : hp[i]? = some (.list (q ++ [v]))) (hj : hp[j]? = some (.list [])) (hr : 0 < X.room) : CmpJ X hp .Eq (.ref i) (.ref j) false := by
  have := c_eq_nil hi hj hr
  rwa [show (q ++ [v]).isEmpty = false by cases q <;> rfl] at this
theorem c_ne_snoc {i j : Nat} {q : List AV} {v : AV} (hi : hp[i]? = some (.list (q ++ [v]))) (hj : hp[j]? = some (.list [])) (hr : 0 < X.room) : CmpJ X hp .NotEq (.ref i) (.ref j) true := by
  have := c_ne_nil hi hj hr
  rwa [show (!(q ++ [v]).isEmpty) = true by cases q <;> rfl] at this
noncomputable abbrev fdL (f i : Nat) (most : Int) : Loc := [("found", .ref f), ("most", .int most), ("due", .ref i)]
inductive FdJ (i : Nat) (hp : Hp) (du : List Bool) (most : Int) (k : Nat) (l : Loc) (h : Hp) : Prop
  | mk (f : List Int) (e1 : l = fdL hp.length i most) (e2 : h = hp ++ [.list (f.map .int)]) (hF : FDI du most k f) (hl : f.length ≤ k) : FdJ i hp du most k l h
theorem first_due_j {i : Nat} {du : List Bool} {most : Int} {fo : List Int} (hr : 1 < X.room) (hi0 : hp[i]? = some (.list (du.map .bool))) (hlen : du.length ≤ 1000) (hfo : ∀ f, FDE du most f → f = fo) :
    CallJ X hp (.ref 193) [.ref i, .int most] (.ref hp.length) (hp ++ [.list (fo.map .int)]) := by
  refine (?_ : CallQ X hp _ _ (fun u h => u = .ref hp.length ∧ h = hp ++ [.list (fo.map .int)])).one fun _ _ h => h
  refine' callq_of (xs := ["due", "most"]) [("most", .int most), ("due", .ref i)] ?ho ?hcd (by (exact Nat.le_of_lt (by assumption))) ?hb ?hl rfl ?h ?c1 ?c2 ?c3 ?c4
  case ho => k_is
  case hcd => k_is
  case hb => intro us h; obtain ⟨a, b, rfl⟩ := len2 h; rfl
  case hl => decide
  case c1 => rfl
  case c2 => rfl
  case c3 => rfl
  case c4 => decide
  intro Y hw hY hroom
  have hY0 : 0 < Y.room := by (exact rm (by assumption) (by assumption) (Nat.le_of_ble_eq_true rfl))
  have fin : ∀ {l : Loc} {f : List Int} {p1 p2 : Pos}, l.lookup ("found" : Str) = some (.ref hp.length) → FDE du most f → ExecJ Y l (hp ++ [.list (f.map .int)]) [.Return (some (.Name "found" p1)) p2] (RetQ fun u h => u = .ref hp.length ∧ h = hp ++ [.list (fo.map .int)]) := fun hl hF => x_ret (en hY hl rfl rfl) ⟨rfl, by rw [hfo _ hF]⟩
  refine x_go (g_asg (e_list es_nil rfl) (an hY rfl) rfl rfl (fun _ => rfl)) ?_
  refine x_loop (m_for_enum (J := FdJ i hp du most) (en hY rfl rfl rfl) (hg_old hi0) ?hl2 ⟨fdL hp.length i most, LSub.cons rfl (LSub.cons rfl (LSub.cons rfl LSub.nil)), [], rfl, rfl, .inl ⟨rfl, .inr fun i h => absurd h (Nat.not_lt_zero i)⟩, Nat.le_refl _⟩ ?turn ?done bo_enumerate (n_enumerate _) (KS.kind hY rfl) (fun _ => rfl) (fun _ => rfl) (fun _ => rfl))
  case hl2 => rintro k l h ⟨f, rfl, rfl, -⟩; exact hg_old hi0
  case done =>
    rintro l h ⟨f, rfl, rfl, hF, -⟩
    rw [List.length_map] at hF
    exact fin rfl hF.end
  case turn =>
    rintro k v l h hv ⟨f, rfl, rfl, hF, hfl⟩
    rw [List.getElem?_map] at hv
    obtain ⟨b, hb, rfl⟩ := Option.map_eq_some_iff.mp hv
    have hk := get_lt hb
    refine ⟨_, _, (a_tup (as_cons (an hY rfl) (as_cons (an hY rfl) as_nil (fun _ => rfl)) (fun _ => rfl)) (fun _ => rfl) (fun _ => rfl)), ?_⟩
    have hz : (f.map AV.int).length ≤ 1000000 := by rw [List.length_map]; exact Nat.le_trans hfl (Nat.le_trans (Nat.le_of_lt hk) (Nat.le_trans hlen (by decide)))
    rcases hF with ⟨rfl, hF⟩ | ⟨a, m, e, m0, rfl, hm, h1, h2⟩
    · refine x_if (t_and_cons (t_plain (en hY rfl rfl rfl) (fun _ => rfl)) (fun _ => t_and_cons (t_cmp (e_lenl (en hY rfl rfl rfl) hg_new (KS.kind hY rfl) hz (fun _ => rfl) (fun _ => rfl)) (en hY rfl rfl rfl) (c_int rfl) rfl) (fun _ => t_and_cons (c := true) (b := true) (t_or_cons (b := true) (c := true) (t_cut (t_cmp (en hY rfl rfl rfl) (e_list es_nil rfl) (c_eq_nil (l := []) (hg_old hg_new) hg_new hY0) rfl)) (fun h => by cases h)) (fun _ => t_and_nil)))) (fun h => ?_) (fun h => ?_)
      · rw [Bool.and_self, Bool.and_true, Bool.and_eq_true, decide_eq_true_eq] at h
        obtain ⟨rfl, h0⟩ := h
        refine x_go (g_expr' (e_append (en hY rfl rfl rfl) (en hY rfl rfl rfl) hg_new hg_new hz set_new (fun _ => rfl) (fun _ => rfl)) rfl) (x_nil (x_nil ⟨fdL hp.length i most, LSub.skip rfl (LSub.skip rfl LSub.refl), _, rfl, rfl, .inr ⟨k, 1, rfl, Nat.one_pos, rfl, Int.add_one_le_of_lt h0, fun j x y => ?_, ?_⟩, Nat.succ_le_succ (Nat.zero_le _)⟩))
        · rw [Nat.le_antisymm (Nat.le_of_lt_succ y) x]; exact hb
        · rcases hF with hF | hF
          · exact absurd h0 (Int.not_lt.mpr hF)
          · exact hF
      · rw [Bool.and_self, Bool.and_true, Bool.and_eq_false_iff, decide_eq_false_iff_not] at h
        refine x_if (t_cut (t_cmp (en hY rfl rfl rfl) (e_list es_nil rfl) (c_ne_nil (l := []) (hg_old hg_new) hg_new hY0) rfl)) (fun h => by cases h) (fun _ => x_nil (x_nil (x_nil ⟨fdL hp.length i most, LSub.skip rfl (LSub.skip rfl LSub.refl), [], rfl, rfl, .inl ⟨rfl, ?_⟩, Nat.zero_le _⟩)))
        rcases h with rfl | h
        · rcases hF with hF | hF
          · exact .inl hF
          · refine .inr fun j hj z => ?_
            by_cases c : j = k
            · rw [c, hb] at z; cases z
            · exact hF j (Nat.lt_of_le_of_ne (Nat.le_of_lt_succ hj) c) z
        · exact .inl (Int.not_lt.mp h)
    · obtain ⟨m, rfl⟩ : ∃ q, m = q + 1 := Nat.exists_eq_succ_of_ne_zero (Nat.ne_of_gt m0)
      have hfs : (row a (m + 1)).map AV.int = (row a m).map AV.int ++ [.int ((a + m : Nat) : Int)] := by rw [row_succ, List.map_append]; rfl
      have hz1 : ((row a m).map AV.int).length ≤ 1000000 := by rw [List.length_map, row_len]; exact Nat.le_trans (Nat.le_trans (Nat.le_trans (Nat.le_succ m) (Nat.le_add_left _ a)) (Nat.le_of_eq e)) (Nat.le_trans (Nat.le_of_lt hk) (Nat.le_trans hlen (by decide)))
      rw [hfs] at hz ⊢
      have hl0 : (((row a m).map AV.int ++ [AV.int ((a + m : Nat) : Int)]).length : Int) = m + 1 := by rw [List.length_append, List.length_map, row_len]; rfl
      refine x_if (t_and_cons (t_plain (en hY rfl rfl rfl) (fun _ => rfl)) (fun _ => t_and_cons (t_cmp (e_lenl (en hY rfl rfl rfl) hg_new (KS.kind hY rfl) hz (fun _ => rfl) (fun _ => rfl)) (en hY rfl rfl rfl) (c_int rfl) rfl) (fun _ => t_and_cons (c := true) (b := true) (t_or_cons (b := false) (c := true) (t_cut (t_cmp (en hY rfl rfl rfl) (e_list es_nil rfl) (c_eq_snoc (hg_old hg_new) hg_new hY0) rfl)) (fun _ => t_or_cons (b := true) (c := false) (t_cmp (e_last (en hY rfl rfl rfl) (e_neg e_int) hg_new hz1 (fun _ _ _ => by with_unfolding_all rfl)) (e_subi (en hY rfl rfl rfl) e_int) (c_int (by show some (decide _) = some true; rw [decide_eq_true (by rw [← e]; exact (Int.add_sub_cancel ((a + m : Nat) : Int) 1).symm)])) rfl) (fun h => by cases h))) (fun _ => t_and_nil)))) (fun h => ?_) (fun h => ?_)
      · rw [Bool.and_self, Bool.and_true, Bool.and_eq_true, decide_eq_true_eq, hl0] at h
        obtain ⟨rfl, h0⟩ := h
        refine x_go (g_expr' (e_append (en hY rfl rfl rfl) (en hY rfl rfl rfl) hg_new hg_new hz set_new (fun _ => rfl) (fun _ => rfl)) rfl) (x_nil (x_nil ⟨fdL hp.length i most, LSub.skip rfl (LSub.skip rfl LSub.refl), row a (m + 2), rfl, ?_, .inr ⟨a, m + 2, congrArg (· + 1) e, by (exact Nat.le_of_ble_eq_true rfl), rfl, by assumption, fun j x y => ?_, h2⟩, by rw [row_len]; exact Nat.succ_le_succ (e ▸ Nat.le_add_left (m + 1) a)⟩))
        · rw [row_succ a (m + 1), List.map_append, hfs, ← e]; rfl
        · by_cases c : j = k
          · rw [c]; exact hb
          · exact h1 j x (Nat.lt_of_le_of_ne (Nat.le_of_lt_succ y) c)
      · rw [Bool.and_self, Bool.and_true, Bool.and_eq_false_iff, decide_eq_false_iff_not, hl0] at h
        refine x_if (t_cut (t_cmp (c := true) (en hY rfl rfl rfl) (e_list es_nil rfl) (c_ne_snoc (hg_old hg_new) hg_new hY0) rfl)) (fun _ => x_brk ?_) (fun h => by cases h)
        rw [← hfs]
        refine fin rfl (.inr ⟨a, m + 1, by assumption, rfl, hm, fun j x y => h1 j x (e ▸ y), h2, ?_⟩)
        rcases h with rfl | h
        · refine .inr ?_
          rw [e, hb]; simp
        · exact .inl (Int.le_antisymm hm (Int.not_lt.mp h))
end
end Mine
end

section
namespace Mine
theorem FlagS.adds_ex {n : Nat} : ∀ {rs : Sp} {l : List Bool} {sp : Sp}, FlagS n l sp → (∀ p ∈ rs, 0 ≤ p.1 ∧ p.1 < p.2 ∧ p.2 ≤ n) → ∃ l', FlagS n l' (rs.foldl (fun s p => addSpan s p.1 p.2) sp)
  | [], l, sp, h, _ => ⟨l, h⟩
  | p :: r, l, sp, h, hr => by
    obtain ⟨a, b, c⟩ := hr p (.head _)
    let g : Nat → Bool := fun i => decide (l[i]? = some true) || decide (p.1 ≤ i ∧ (i : Int) < p.2)
    have hg : ∀ i : Nat, i < n → (((List.range n).map g)[i]? = some true ↔ l[i]? = some true ∨ (p.1 ≤ i ∧ (i : Int) < p.2)) := fun i hi => by
      rw [List.getElem?_map, List.getElem?_range hi]
      simp [g]
    exact FlagS.adds_ex (rs := r) (h.add a b c (by rw [List.length_map, List.length_range]) hg) fun q hq => hr q (.tail _ hq)
theorem FlagS.firstE {n : Nat} {l : List Bool} {sp : Sp} {most : Int} (h : FlagS n l sp) : (firstV sp most = none ∧ ∀ f, FDE l most f → f = []) ∨ ∃ a m : Nat, a + (m + 1) ≤ n ∧ firstV sp most = some ((a : Int), ((a + (m + 1) : Nat) : Int)) ∧ ∀ f, FDE l most f → f = row a (m + 1) := by
  cases sp with
  | nil => exact .inl ⟨rfl, fun f hf => by
      rcases h.first hf with z | ⟨a, m, _, _, _, z⟩
      · exact z.1
      · cases z⟩
  | cons p r =>
    by_cases c : most ≤ 0
    · have e : firstV (p :: r) most = none := if_pos c
      exact .inl ⟨e, fun f hf => by
        rcases h.first hf with z | ⟨a, m, _, _, _, z⟩
        · exact z.1
        · rw [e] at z; cases z⟩
    · have e : firstV (p :: r) most = some (p.1, mn p.2 (p.1 + most)) := if_neg c
      obtain ⟨a, ha⟩ := Int.eq_ofNat_of_zero_le (h.lo p (.head _))
      obtain ⟨m, hm⟩ := Int.le.dest (Int.add_one_le_of_lt (lt_mn.mpr ⟨h.can.one, Int.lt_add_of_pos_right p.1 (Int.not_le.mp c)⟩))
      have hm' : mn p.2 (p.1 + most) = ((a + (m + 1) : Nat) : Int) := by rw [← hm, ha, Int.add_assoc, Int.add_comm 1]; rfl
      rw [hm', ha] at e
      refine .inr ⟨a, m, Int.ofNat_le.mp (hm' ▸ Int.le_trans mn_le.1 (h.hi p (.head _))), e, fun f hf => ?_⟩
      rcases h.first hf with z | ⟨a', m', _, _, rfl, z⟩
      · rw [e] at z; cases z.2
      · rw [e] at z
        have z' := Option.some.inj z
        cases Int.ofNat.inj (congrArg Prod.fst z')
        cases Nat.add_left_cancel (Int.ofNat.inj (congrArg Prod.snd z'))
        rfl
theorem cutAll_len {ot : Sp} {a m : Nat} (hm : 0 < m) (h : ∀ p ∈ ot, p.1 < p.2) : (cutAll [((a : Int), (a : Int) + m)] ot).length ≤ m + 1 := by
  obtain ⟨h1, h2, -⟩ := cutAll_one (ot := ot) (a := a) (b := a + m) (by omega) h
  have := h1.len (lo := a) (n := a + m) (fun p hp => (h2 p hp).1) (fun p hp => (h2 p hp).2.2) (by omega)
  omega
/-- lost: what was not acknowledged is due again -/
theorem FlagS.lost {n a m : Nat} {du ca du' : List Bool} {ds ak : Sp} (h : FlagS n du ds) (hc : FlagS n ca ak) (hm : 0 < m) (han : a + m ≤ n) (hl : du'.length = n) (hd : ∀ i : Nat, i < n → (du'[i]? = some true ↔ du[i]? = some true ∨ ((a ≤ i ∧ i < a + m) ∧ ¬ ca[i]? = some true))) :
    FlagS n du' ((cutAll [((a : Int), (a : Int) + m)] ak).foldl (fun s p => addSpan s p.1 p.2) ds) ∧ ∀ j, (((cutAll [((a : Int), (a : Int) + m)] ak).take j).foldl (fun s p => addSpan s p.1 p.2) ds).length ≤ n := by
  obtain ⟨h1, h2, h3⟩ := cutAll_one (ot := ak) (a := a) (b := a + m) (by omega) fun p hp => hc.can.2 p hp
  have hw : ∀ p ∈ cutAll [((a : Int), (a : Int) + m)] ak, 0 ≤ p.1 ∧ p.1 < p.2 ∧ p.2 ≤ (n : Int) := fun p hp => by
    have := h2 p hp
    omega
  refine ⟨h.adds hw hl fun i hi => ?_, fun j => ?_⟩
  · rw [hd i hi, h3, hc.mem i hi]
    refine or_congr_right (and_congr_left fun _ => ?_)
    omega
  · obtain ⟨l', hl'⟩ := h.adds_ex (rs := (cutAll [((a : Int), (a : Int) + m)] ak).take j) fun p hp => hw p (List.mem_of_mem_take hp)
    exact hl'.count
end Mine
end

section
open PySem PySem.W PyProof.Rows PySem.Calls
namespace Mine
/-- what a list holds first -/
noncomputable def tagO : AO → Nat
  | .list (.bool _ :: _) => 2
  | .list (.int _ :: _) => 3
  | .list (.tup _ :: _) => 4
  | .list (.ref _ :: _) => 5
  | .list _ => 0
  | _ => 1
theorem ne_tag {hp : Hp} {i j : Nat} {x y : AO} (hi : hp[i]? = some x) (hj : hp[j]? = some y) (h : tagO x ≠ tagO y) : i ≠ j := fun e => by
  subst e
  rw [hi] at hj
  exact h (congrArg tagO (Option.some.inj hj))
theorem tag_bools {l : List Bool} (h : 0 < l.length) : tagO (.list (l.map .bool)) = 2 := by
  match l, h with
  | _ :: _, _ => rfl
theorem tag_sp {sp : Sp} {k : Nat} (h0 : k ≠ 0) (h : k ≠ 4) : tagO (.list (asps sp)) ≠ k := by
  match sp with
  | [] => exact Ne.symm h0
  | _ :: _ => exact Ne.symm h
theorem tag_ints {ns : List Int} {k : Nat} (h0 : k ≠ 0) (h : k ≠ 3) : tagO (.list (ns.map .int)) ≠ k := by
  match ns with
  | [] => exact Ne.symm h0
  | _ :: _ => exact Ne.symm h
theorem tag_bls {l : List Bool} {k : Nat} (h0 : k ≠ 0) (h : k ≠ 2) : tagO (.list (l.map .bool)) ≠ k := by
  match l with
  | [] => exact Ne.symm h0
  | _ :: _ => exact Ne.symm h
noncomputable abbrev Fly := Nat × Nat × Nat
noncomputable abbrev fls (fl : List Fly) : List AV := fl.map fun q => .ref q.1
theorem tag_fls {fl : List Fly} {k : Nat} (h0 : k ≠ 0) (h : k ≠ 5) : tagO (.list (fls fl)) ≠ k := by
  match fl with
  | [] => exact Ne.symm h0
  | _ :: _ => exact Ne.symm h
theorem tag_fl1 {fl : List Fly} (h : 0 < fl.length) : tagO (.list (fls fl)) = 5 := by
  match fl, h with
  | _ :: _, _ => rfl
/-- what is on the heap while octets go out -/
structure OutH (hp : Hp) (b l N : Nat) (bx : Bx) (oc : List UInt8) (du ca : List Bool) (ds ak : Sp) (D A u c f : Nat) (fl : List Fly) : Prop where
  B : BxH hp b l bx
  ho : hp[N + 1]? = some (.inst 163 N)
  hd : hp[N]? = some (.dict (outF oc D A))
  hD : hp[D]? = some (.list (asps ds))
  hA : hp[A]? = some (.list (asps ak))
  hu : hp[u]? = some (.list (du.map .bool))
  hc : hp[c]? = some (.list (ca.map .bool))
  hf : hp[f]? = some (.list (fls fl))
  hs : ∀ q ∈ fl, hp[q.1]? = some (.list ((row q.2.1 (q.2.2 + 1)).map .int)) ∧ N < q.1 ∧ q.2.1 + (q.2.2 + 1) ≤ oc.length
  bN : b < N
  lN : l < N
  ND : N < D
  NA : N < A
  Nu : N < u
  Nc : N < c
  Nf : N < f
  uc : u ≠ c
section
variable {hp hp' g : Hp} {b l N D A u c f : Nat} {bx bx' : Bx} {oc oc' : List UInt8} {du du' ca ca' : List Bool} {ds ds' ak ak' : Sp} {fl : List Fly}
theorem OutH.keep (H : OutH hp b l N bx oc du ca ds ak D A u c f fl) (B : BxH hp' b l bx') (k : ∀ i o, N ≤ i → hp[i]? = some o → hp'[i]? = some o) : OutH hp' b l N bx' oc du ca ds ak D A u c f fl :=
  ⟨B, k _ _ (Nat.le_succ _) H.ho, k _ _ (Nat.le_refl _) H.hd, k _ _ (Nat.le_of_lt H.ND) H.hD, k _ _ (Nat.le_of_lt H.NA) H.hA, k _ _ (Nat.le_of_lt H.Nu) H.hu, k _ _ (Nat.le_of_lt H.Nc) H.hc, k _ _ (Nat.le_of_lt H.Nf) H.hf,
    fun q hq => ⟨k _ _ (Nat.le_of_lt (H.hs q hq).2.1) (H.hs q hq).1, (H.hs q hq).2⟩, H.bN, H.lN, H.ND, H.NA, H.Nu, H.Nc, H.Nf, H.uc⟩
theorem OutH.app (H : OutH hp b l N bx oc du ca ds ak D A u c f fl) : OutH (hp ++ g) b l N bx oc du ca ds ak D A u c f fl := H.keep H.B.app fun i o _ h => hg_old h
theorem OutH.setB (H : OutH hp b l N bx oc du ca ds ak D A u c f fl) (hn : bx'.1.length ≤ 100) : OutH (setBox hp b l bx') b l N bx' oc du ca ds ak D A u c f fl :=
  H.keep (H.B.set hn) fun i o hi h => setBox_ne (Nat.ne_of_lt (Nat.lt_of_lt_of_le H.bN hi)) (Nat.ne_of_lt (Nat.lt_of_lt_of_le H.lN hi)) h
theorem OutH.take (H : OutH hp b l N bx oc du ca ds ak D A u c f fl) {w : Int} : OutH (setBox hp b l (takeS bx w).2) b l N (takeS bx w).2 oc du ca ds ak D A u c f fl := H.setB (Nat.le_trans takeS_len H.B.n)
theorem OutH.setU (H : OutH hp b l N bx oc du ca ds ak D A u c f fl) (h0 : 0 < du.length) : OutH (hp.set u (.list (du'.map .bool))) b l N bx oc du' ca ds ak D A u c f fl := by
  have k : ∀ {i : Nat} {o : AO}, tagO o ≠ 2 → hp[i]? = some o → (hp.set u (.list (du'.map .bool)))[i]? = some o := fun ht e => set_ne (ne_tag e H.hu (by rw [tag_bools h0]; exact ht)) e
  exact ⟨⟨k (by show 5 ≠ 2; decide) H.B.hb, k (tag_ints (by decide) (by decide)) H.B.hl, H.B.ne, H.B.n⟩, k (by show 1 ≠ 2; decide) H.ho, k (by show 1 ≠ 2; decide) H.hd, k (tag_sp (by decide) (by decide)) H.hD, k (tag_sp (by decide) (by decide)) H.hA,
    List.getElem?_set_self (hg_len H.hu), set_ne (Ne.symm H.uc) H.hc, k (tag_fls (by decide) (by decide)) H.hf, fun q hq => ⟨k (tag_ints (by decide) (by decide)) (H.hs q hq).1, (H.hs q hq).2⟩, H.bN, H.lN, H.ND, H.NA, H.Nu, H.Nc, H.Nf, H.uc⟩
theorem OutH.setC (H : OutH hp b l N bx oc du ca ds ak D A u c f fl) (h0 : 0 < ca.length) : OutH (hp.set c (.list (ca'.map .bool))) b l N bx oc du ca' ds ak D A u c f fl := by
  have k : ∀ {i : Nat} {o : AO}, tagO o ≠ 2 → hp[i]? = some o → (hp.set c (.list (ca'.map .bool)))[i]? = some o := fun ht e => set_ne (ne_tag e H.hc (by rw [tag_bools h0]; exact ht)) e
  exact ⟨⟨k (by show 5 ≠ 2; decide) H.B.hb, k (tag_ints (by decide) (by decide)) H.B.hl, H.B.ne, H.B.n⟩, k (by show 1 ≠ 2; decide) H.ho, k (by show 1 ≠ 2; decide) H.hd, k (tag_sp (by decide) (by decide)) H.hD, k (tag_sp (by decide) (by decide)) H.hA,
    set_ne H.uc H.hu, List.getElem?_set_self (hg_len H.hc), k (tag_fls (by decide) (by decide)) H.hf, fun q hq => ⟨k (tag_ints (by decide) (by decide)) (H.hs q hq).1, (H.hs q hq).2⟩, H.bN, H.lN, H.ND, H.NA, H.Nu, H.Nc, H.Nf, H.uc⟩
theorem OutH.pop (H : OutH hp b l N bx oc du ca ds ak D A u c f fl) {j : Nat} (h0 : 0 < fl.length) : OutH (hp.set f (.list ((fls fl).eraseIdx j))) b l N bx oc du ca ds ak D A u c f (fl.eraseIdx j) := by
  have k : ∀ {i : Nat} {o : AO}, tagO o ≠ 5 → hp[i]? = some o → (hp.set f (.list ((fls fl).eraseIdx j)))[i]? = some o := fun ht e => set_ne (ne_tag e H.hf (by rw [tag_fl1 h0]; exact ht)) e
  exact ⟨⟨set_ne (Nat.ne_of_lt (Nat.lt_trans H.bN H.Nf)) H.B.hb, k (tag_ints (by decide) (by decide)) H.B.hl, H.B.ne, H.B.n⟩, k (by show 1 ≠ 5; decide) H.ho, k (by show 1 ≠ 5; decide) H.hd, k (tag_sp (by decide) (by decide)) H.hD, k (tag_sp (by decide) (by decide)) H.hA,
    k (tag_bls (by decide) (by decide)) H.hu, k (tag_bls (by decide) (by decide)) H.hc, by rw [List.getElem?_set_self (hg_len H.hf)]; rw [List.eraseIdx_eq_take_drop_succ, List.eraseIdx_eq_take_drop_succ, show fls (fl.take j ++ fl.drop (j + 1)) = (fls fl).take j ++ (fls fl).drop (j + 1) by rw [fls, List.map_append, List.map_take, List.map_drop]], fun q hq => ⟨k (tag_ints (by decide) (by decide)) (H.hs q (List.mem_of_mem_eraseIdx hq)).1, (H.hs q (List.mem_of_mem_eraseIdx hq)).2⟩, H.bN, H.lN, H.ND, H.NA, H.Nu, H.Nc, H.Nf, H.uc⟩
theorem OutH.dict {D' A' : Nat} (H : OutH hp b l N bx oc du ca ds ak D A u c f fl) (hD : (hp.set N (.dict (outF oc' D' A')) ++ g)[D']? = some (.list (asps ds'))) (hA : (hp.set N (.dict (outF oc' D' A')) ++ g)[A']? = some (.list (asps ak'))) (h1 : N < D') (h2 : N < A') (h3 : oc.length ≤ oc'.length) :
    OutH (hp.set N (.dict (outF oc' D' A')) ++ g) b l N bx oc' du ca ds' ak' D' A' u c f fl := by
  have k : ∀ {i : Nat} {o : AO}, i ≠ N → hp[i]? = some o → (hp.set N (.dict (outF oc' D' A')) ++ g)[i]? = some o := fun ht e => hg_old (set_ne ht e)
  exact ⟨⟨k (Nat.ne_of_lt H.bN) H.B.hb, k (Nat.ne_of_lt H.lN) H.B.hl, H.B.ne, H.B.n⟩, k (Nat.succ_ne_self _) H.ho, hg_old (List.getElem?_set_self (hg_len H.hd)), hD, hA, k (Ne.symm (Nat.ne_of_lt H.Nu)) H.hu, k (Ne.symm (Nat.ne_of_lt H.Nc)) H.hc, k (Ne.symm (Nat.ne_of_lt H.Nf)) H.hf,
    fun q hq => ⟨k (Ne.symm (Nat.ne_of_lt (H.hs q hq).2.1)) (H.hs q hq).1, (H.hs q hq).2.1, Nat.le_trans (H.hs q hq).2.2 h3⟩, H.bN, H.lN, h1, h2, H.Nu, H.Nc, H.Nf, H.uc⟩
theorem OutH.O (H : OutH hp b l N bx oc du ca ds ak D A u c f fl) (F : ds.length ≤ oc.length) (G : ak.length ≤ oc.length) (hn : oc.length ≤ 100) : OutO hp (N + 1) N D A oc ds ak :=
  ⟨H.ho, H.hd, H.hD, H.hA, Nat.succ_ne_self _, Ne.symm (Nat.ne_of_lt H.ND), Ne.symm (Nat.ne_of_lt H.NA), hn, Nat.le_trans F hn, Nat.le_trans G hn⟩
end
noncomputable abbrev outL (N : Nat) (oc : List UInt8) (u c f : Nat) : Loc := [("here", .ref (N + 1)), ("octets", .bytes oc), ("due", .ref u), ("came", .ref c), ("flying", .ref f)]
inductive OutJ (b l N k : Nat) : Loc → Hp → Prop
  | mk {h : Hp} {D A u c f : Nat} {bx : Bx} {oc : List UInt8} {du ca : List Bool} {ds ak : Sp} {fl : List Fly} (H : OutH h b l N bx oc du ca ds ak D A u c f fl) (F : FlagS oc.length du ds) (G : FlagS oc.length ca ak) (hoc : oc.length ≤ 4 * k) (hfl : fl.length ≤ k) : OutJ b l N k (outL N oc u c f) h
theorem row_at {a m j : Nat} {v : AV} (h : ((row a m).map AV.int)[j]? = some v) : j < m ∧ v = .int ((a + j : Nat) : Int) := by
  have hj := get_lt h
  rw [List.length_map, row_len] at hj
  rw [List.getElem?_map, row_get hj] at h
  exact ⟨hj, (Option.some.inj h).symm⟩
theorem set_true {l : List Bool} {k i : Nat} {b : Bool} (hk : k < l.length) : (l.set k b)[i]? = some true ↔ (if i = k then b = true else l[i]? = some true) := by
  by_cases e : i = k
  · rw [if_pos e, e, List.getElem?_set_self hk]
    exact ⟨fun h => Option.some.inj h, fun h => congrArg some h⟩
  · rw [if_neg e, List.getElem?_set_ne (Ne.symm e)]
theorem bset {l : List Bool} {k : Nat} {b : Bool} : (l.map AV.bool).set ((k : Nat) : Int).toNat (.bool b) = (l.set k b).map .bool := List.map_set.symm
/-! octets drawn -/
noncomputable def drT (bx : Bx) : Nat → Bx
  | 0 => bx
  | k + 1 => (takeS (drT bx k) 256).2
noncomputable def drW (bx : Bx) (k : Nat) : Int := (takeS (drT bx k) 256).1
theorem drT_n {bx : Bx} (h : bx.1.length ≤ 100) : ∀ k, (drT bx k).1.length ≤ 100
  | 0 => h
  | k + 1 => Nat.le_trans takeS_len (drT_n h k)
section
variable {X : FX} {loc : Loc} {hp : Hp} {P : Post}
theorem abs_ {ss : List Stmt} (Q : Loc → Hp → Prop) (hq : Q loc hp) (h : ∀ loc hp, Q loc hp → ExecJ X loc hp ss P) : ExecJ X loc hp ss P := h _ _ hq
theorem ExecG.j {ss : List Stmt} (h : ExecG false X loc hp ss P) : ExecJ X loc hp ss P := fun s m news al Q E R k =>
  h _ _ _ _ _ _ R fun X' fl af l p h' tk m' n' a' t hP hF x R' => by
    cases t.eq
    exact k fl af l p h' tk m' n' a' hP hF x R'
theorem t_eq {hp1 : Hp} {e : Expr} {v w : Bool} (h : v = w) (k : TestJ X loc hp e v hp1) : TestJ X loc hp e w hp1 := h ▸ k
theorem e_eq {hp1 : Hp} {e : Expr} {v w : AV} (h : v = w) (k : EvJ X loc hp e v hp1) : EvJ X loc hp e w hp1 := h ▸ k
noncomputable def NextP (R : Loc → Hp → Prop) : Post := fun af l h => af = .next ∧ R l h
theorem x_join {hp1 : Hp} {R : Loc → Hp → Prop} {t : Expr} {b : Bool} {body orelse : List Stmt} {p : Pos} {ss : List Stmt} (h : TestJ X loc hp t b hp1) (h1 : b = true → ExecJ X loc hp1 body (NextP R)) (h2 : b = false → ExecJ X loc hp1 orelse (NextP R)) (h3 : ∀ l h, R l h → ExecJ X l h ss P) : ExecJ X loc hp (.If t body orelse p :: ss) P :=
  x_if h (fun hb => x_mono (h1 hb) fun af l h ⟨e, j⟩ => by subst e; exact h3 l h j) (fun hb => x_mono (h2 hb) fun af l h ⟨e, j⟩ => by subst e; exact h3 l h j)
end
end Mine
end

section
set_option maxHeartbeats 1000000
open PySem PySem.W PyProof.Rows PySem.Calls
namespace Mine
theorem mO_put (q : Params) : findIn (hd.heap_39 q) (.ref 163) "put" = some (some (.ref 132)) := by k_is
theorem mO_next (q : Params) : findIn (hd.heap_39 q) (.ref 163) "next_chunk" = some (some (.ref 139)) := by k_is
theorem mO_lost (q : Params) : findIn (hd.heap_39 q) (.ref 163) "on_lost" = some (some (.ref 146)) := by k_is
theorem mO_acked (q : Params) : findIn (hd.heap_39 q) (.ref 163) "on_acked" = some (some (.ref 153)) := by k_is
theorem mO_done (q : Params) : findIn (hd.heap_39 q) (.ref 163) "is_done" = some (some (.ref 160)) := by k_is
theorem fn_132 (q : Params) : isFn (hd.heap_39 q) (.ref 132) = true := by k_is
theorem fn_139 (q : Params) : isFn (hd.heap_39 q) (.ref 139) = true := by k_is
theorem fn_146 (q : Params) : isFn (hd.heap_39 q) (.ref 146) = true := by k_is
theorem fn_153 (q : Params) : isFn (hd.heap_39 q) (.ref 153) = true := by k_is
theorem fn_160 (q : Params) : isFn (hd.heap_39 q) (.ref 160) = true := by k_is
theorem kp_132 (q : Params) : keepIn (hd.heap_39 q) (.ref 132) = true := by k_is
theorem kp_139 (q : Params) : keepIn (hd.heap_39 q) (.ref 139) = true := by k_is
theorem kp_146 (q : Params) : keepIn (hd.heap_39 q) (.ref 146) = true := by k_is
theorem kp_153 (q : Params) : keepIn (hd.heap_39 q) (.ref 153) = true := by k_is
theorem kp_160 (q : Params) : keepIn (hd.heap_39 q) (.ref 160) = true := by k_is
noncomputable def spL (N : Nat) (oc : List UInt8) (u c f : Nat) (v : Int) (sp : Nat) : Loc := ("spots", .ref sp) :: ("form", .int v) :: outL N oc u c f
noncomputable def gnL (N : Nat) (oc : List UInt8) (u c f : Nat) (v : Int) (sp : Nat) (g : Bool) : Loc := ("is_gone", .bool g) :: spL N oc u c f v sp
noncomputable def M2 (n a : Nat) (du : List Bool) (j : Nat) (du' : List Bool) : Prop := ∀ i : Nat, i < n → (du'[i]? = some true ↔ du[i]? = some true ∧ ¬ (a ≤ i ∧ i < a + j))
noncomputable def M3 (n a : Nat) (du ca : List Bool) (j : Nat) (du' : List Bool) : Prop := ∀ i : Nat, i < n → (du'[i]? = some true ↔ du[i]? = some true ∨ ((a ≤ i ∧ i < a + j) ∧ ¬ ca[i]? = some true))
noncomputable def M4 (n a : Nat) (ca : List Bool) (j : Nat) (ca' : List Bool) : Prop := ∀ i : Nat, i < n → (ca'[i]? = some true ↔ ca[i]? = some true ∨ (a ≤ i ∧ i < a + j))
inductive SpJ (b l N : Nat) (bx : Bx) (oc : List UInt8) (ds ak : Sp) (D A u c f : Nat) (fl : List Fly) (sp : Nat) (r : List AV) (loc : Loc) (M C : Nat → List Bool → Prop) (j : Nat) (l1 : Loc) (h : Hp) : Prop
  | mk (du ca : List Bool) (e : l1 = loc) (H : OutH h b l N bx oc du ca ds ak D A u c f fl) (s : h[sp]? = some (.list r)) (hl : du.length = oc.length) (hl2 : ca.length = oc.length) (hm : M j du) (hc : C j ca) : SpJ b l N bx oc ds ak D A u c f fl sp r loc M C j l1 h
theorem SpJ.s {b l N : Nat} {bx : Bx} {oc : List UInt8} {ds ak : Sp} {D A u c f : Nat} {fl : List Fly} {sp : Nat} {r : List AV} {loc : Loc} {M C : Nat → List Bool → Prop} (k : Nat) (loc1 : Loc) (h : Hp) (J : SpJ b l N bx oc ds ak D A u c f fl sp r loc M C k loc1 h) : h[sp]? = some (.list r) := J.casesOn fun _ _ _ _ s _ _ _ _ => s
section
variable {X : FX} {hp : Hp}
theorem outgoing_g {b l' : Nat} {bx : Bx} (hr : 6 < X.room) (h0 : BxH hp b l' bx) :
    CallG true X hp (.ref 198) [.ref b] (fun v h => v = .bool true) := by
  refine' callg_ofC (x := "box") (v := .ref b) ?ho ?hcd (by (exact Nat.lt_of_le_of_lt (Nat.le_of_ble_eq_true rfl) (by assumption))) ?hb ?hl ?hf ?h ?c1 ?c2 ?c3
  case ho => k_is
  case hcd => k_is
  case hb => intro u; rfl
  case hl => rfl
  case hf => intro n; rfl
  case c1 => rfl
  case c2 => rfl
  case c3 => rfl
  intro Y hw hY hroom hcv hcl'
  obtain ⟨c0, hcl⟩ := hcl'
  have cell : ∀ {loc hp p}, EvJ Y loc hp (.Name "box" p) (.ref b) hp := e_cell (by rw [hcv]; rfl) (hY.kind rfl) rfl
  have tk : ∀ {loc : Loc} {hp : Hp} {bx : Bx} {w : Int} {k : Nat} {np p1 p2 p : Pos}, BxH hp b l' bx → 0 < w → EvJ Y loc hp (.Call (.Name "_law_take" np) [.Name "box" p1, .Constant (.int w) k p2] [] p) (.int (takeS bx w).1) (setBox hp b l' (takeS bx w).2) := fun h hw => e_callf (es_cons cell (es_cons e_int es_nil (fun _ => rfl)) (fun _ => rfl)) (takeB (by (exact rm (by assumption) (by assumption) (Nat.le_of_ble_eq_true rfl))) h hw rfl) (n_take _) (kp_174 _) (hY.kind rfl) rfl (fun _ => rfl) (fun _ => rfl) (fun _ => rfl)
  refine ExecJ.g ?_
  have lb := hg_len h0.hb
  have ll := hg_len h0.hl
  refine x_go (g_asg (e_tuple (es_cons (e_callf0 (newOut_j (by (exact rm (by assumption) (by assumption) (Nat.le_of_ble_eq_true rfl)))) (n_COut _) (kp_163 _) (hY.kind rfl) rfl (fun _ => rfl)) (es_cons e_bconst (es_cons (e_list es_nil rfl) (es_cons (e_list es_nil rfl) (es_cons (e_list es_nil rfl) es_nil (fun _ => rfl)) (fun _ => rfl)) (fun _ => rfl)) (fun _ => rfl)) (fun _ => rfl)) rfl)
    (a_tup (as_cons (an hY rfl) (as_cons (an hY rfl) (as_cons (an hY rfl) (as_cons (an hY rfl) (as_cons (an hY rfl) as_nil (fun _ => rfl)) (fun _ => rfl)) (fun _ => rfl)) (fun _ => rfl)) (fun _ => rfl)) (fun _ => rfl) (fun _ => rfl)) rfl rfl (fun _ => rfl)) ?_
  generalize hN : hp.length = N at *
  refine abs_ (fun loc h => JW (OutJ b l' N) 0 loc h) ?_ ?_
  · simp only [List.append_assoc]
    have ix : ∀ (i : Nat) (g : Hp), (hp ++ g)[N + i]? = g[i]? := fun i g => ix_app hN i g
    refine ⟨outL N [] (N + 4) (N + 5) (N + 6), ?_, .mk (D := N + 2) (A := N + 3) (u := N + 4) (c := N + 5) (f := N + 6) (fl := []) (bx := bx) (oc := []) (du := []) (ca := []) (ds := []) (ak := []) ⟨h0.app, (ix 1 _).trans rfl, (ix 0 _).trans rfl, (ix 2 _).trans rfl, (ix 3 _).trans rfl, (ix 4 _).trans rfl, (ix 5 _).trans rfl, (ix 6 _).trans rfl, fun q hq => (by cases hq), lb, ll, by lia, by lia, by lia, by lia, by lia, by lia⟩ FlagS.nil FlagS.nil (Nat.le_refl _) (Nat.le_refl _)⟩
    simp only [List.length_append, hN]
    exact LSub.cons rfl (LSub.cons rfl (LSub.cons rfl (LSub.cons rfl (LSub.cons rfl LSub.nil))))
  clear lb ll hN h0
  rintro loc1 hp1 HJ
  refine x_loop (m_for_range (a := 0) (b := 14) (n := 14) (J := OutJ b l' N) (r_one (es_cons e_int es_nil (fun _ => rfl)) bo_range (n_range _) (hY.kind rfl) (fun _ => rfl) (fun _ => rfl)) rfl (by (exact Int.natCast_nonneg _)) (by (exact Int.natCast_nonneg _)) (by (exact Int.natCast_nonneg _)) (by (exact Int.natCast_nonneg _)) HJ ?turn (fun l h _ => x_ret e_bool rfl) (hY.kind rfl) (fun _ => rfl))
  clear HJ hp1 loc1
  rintro k _ _ hk ⟨H, F, G, hoc, hfl⟩
  rename_i h D A u c f bx oc du ca ds ak fl
  have hn : oc.length ≤ 100 := Nat.le_trans hoc (Nat.le_trans (Nat.mul_le_mul_left 4 (Nat.le_of_lt hk)) (by decide))
  refine x_go (g_asg (tk H.B (by decide)) (an hY rfl) rfl rfl (fun _ => rfl)) ?_
  have v0 := takeS_bounds (bx := bx) (w := 6) (by decide)
  replace H := H.take (w := 6)
  generalize (takeS bx 6).1 = v at v0 ⊢
  generalize (takeS bx 6).2 = bx1 at H ⊢
  generalize setBox h b l' bx1 = h1 at H ⊢
  refine x_weak (loc' := ("form", .int v) :: outL N oc u c f) (LSub.cons rfl (LSub.cons rfl (LSub.cons rfl (LSub.cons rfl (LSub.cons rfl (LSub.cons rfl LSub.nil)))))) ?_
  refine x_join (R := JW (OutJ b l' N) (k + 1)) (t_cmp (en hY rfl rfl rfl) e_int (c_int rfl) rfl) (fun hv => ?put) (fun hv => ?rest) ?aft
  case aft =>
    rintro loc h ⟨_, hsub, H, F, G, hoc, hfl⟩
    rename_i D A u c f bx oc du ca ds ak fl
    have hn : oc.length ≤ 100 := Nat.le_trans hoc (Nat.le_trans (Nat.mul_le_mul_left 4 hk) (by decide))
    refine x_weak hsub ?_
    refine x_if (t_cmp (e_meth0 (en hY rfl rfl rfl) H.ho H.hd rfl (is_done_j (by (exact rm (by assumption) (by assumption) (Nat.le_of_ble_eq_true rfl))) (H.O F.count G.count hn)) (ckOut _) (mO_done _) (fn_160 _) (kp_160 _) (fun _ => rfl)) (e_cmp e_bool (en hY rfl rfl rfl) (c_notin_bool H.hc) rfl) c_bool_ne rfl) (fun hb => ?_) (fun _ => x_nil (x_nil ⟨_, LSub.refl, .mk H F G hoc hfl⟩))
    have : (decide (((oc.length : Nat) : Int) = 0) || decide (ak = [((0 : Int), ((oc.length : Nat) : Int))])) = !ca.any (· == false) := by
      by_cases z : oc.length = 0
      · rw [z] at G
        rw [z, List.length_eq_zero_iff.mp G.len]; rfl
      · rw [← G.all (Nat.pos_of_ne_zero z), decide_eq_false (show ¬ ((oc.length : Nat) : Int) = 0 from fun e => z (Int.ofNat.inj e)), Bool.false_or]
    rw [this, bne_self_eq_false] at hb
    cases hb
  case put =>
    have m0 := takeS_bounds (bx := bx1) (w := 5) (by decide)
    obtain ⟨m, hm⟩ : ∃ m : Nat, (takeS bx1 5).1 = (m : Int) := Int.eq_ofNat_of_zero_le m0.1
    have hm4 : m ≤ 4 := Nat.le_of_lt_succ (Int.ofNat_lt.mp (hm ▸ m0.2))
    have H1 := H.take (w := 5)
    have hG : ∀ j, BxH (setBox (setBox h1 b l' (takeS bx1 5).2) b l' (drT (takeS bx1 5).2 j)) b l' (drT (takeS bx1 5).2 j) := fun j => H1.B.set (drT_n H1.B.n j)
    refine x_go (g_asg (e_callt (es_cons (e_comp (G := fun j => setBox (setBox h1 b l' (takeS bx1 5).2) b l' (drT (takeS bx1 5).2 j)) (val := fun j => .int (drW (takeS bx1 5).2 j)) (n := m) (a := 0) (b := (takeS bx1 5).1)
      (r_one (es_cons (tk H.B (by decide)) es_nil (fun _ => rfl)) bo_range (n_range _) (hY.kind rfl) (fun _ => rfl) (fun _ => rfl))
      ?n1 (by (exact Nat.le_trans (by assumption) (Nat.le_of_ble_eq_true rfl))) (by (exact Int.natCast_nonneg _)) (by (exact Int.natCast_nonneg _)) (Int.le_trans (by decide) m0.1) (Int.le_of_lt (Int.lt_of_lt_of_le m0.2 (by decide))) (clos_one hcl ?cl) ?g0 (fun k _ => setBox_len) ?elt ?cc rfl ?nm rfl ?fo) es_nil (fun _ => rfl)) (k_bytesl (ns := (List.range m).map (drW (takeS bx1 5).2)) ?bl ?br ?bn) bo_bytes (n_bytes _) (hY.kind rfl) (by decide) rfl (fun _ => rfl) (fun _ => rfl) (fun _ => rfl)) (an hY rfl) rfl rfl (fun _ => rfl)) ?_
    case n1 => rw [hm]; exact ite_nat
    case cl => intros; rfl
    case g0 => exact setBox_same H1.B
    case elt =>
      intro j acc hj
      refine el_take hY hcv hcl rfl (fun _ _ _ _ _ _ _ => rfl) (fun _ _ _ _ _ _ _ => rfl) rfl rfl (n_take _) (kp_174 _) ?_ (fun _ => rfl)
      have := takeB (X := Y) (w := 256) (by (exact rm (by assumption) (by assumption) (Nat.le_of_ble_eq_true rfl))) ((hG j).app (g := [.list acc])) (by decide) rfl
      rw [setBox_app (hG j), setBox_two (hp := setBox h1 b l' (takeS bx1 5).2) H.B.ne] at this
      exact this
    case cc => decide
    case nm => decide
    case fo => intro _; rfl
    case bl =>
      have := @hg_new (setBox (setBox h1 b l' (takeS bx1 5).2) b l' (drT (takeS bx1 5).2 m)) (.list ((List.range m).map fun j => .int (drW (takeS bx1 5).2 j))) []
      rw [setBox_len] at this
      rw [List.map_map]
      exact this
    case br =>
      intro i hi
      obtain ⟨j, _, rfl⟩ := List.mem_map.mp hi
      exact takeS_bounds (by decide)
    case bn => rw [List.length_map, List.length_range]; (exact Nat.le_trans (by assumption) (Nat.le_of_ble_eq_true rfl))
    refine abs_ (fun loc h => ∃ mo bx2, loc = (("more", AV.bytes mo) :: ("form", AV.int v) :: outL N oc u c f : List (Str × AV)) ∧ mo.length = m ∧ OutH h b l' N bx2 oc du ca ds ak D A u c f fl) ⟨_, _, rfl, by rw [List.length_map, List.length_map, List.length_range], (H1.setB (drT_n H1.B.n m)).app⟩ ?_
    clear hG H1 m0 hm H
    rintro _ h2 ⟨mo, bx2, rfl, rfl, H⟩
    refine x_go (g_expr' (e_meth (en hY rfl rfl rfl) H.ho H.hd rfl (es_cons (en hY rfl rfl rfl) es_nil (fun _ => rfl)) (put_j (by (exact rm (by assumption) (by assumption) (Nat.le_of_ble_eq_true rfl))) (H.O F.count G.count hn) (by (exact Nat.le_trans (by assumption) (Nat.le_of_ble_eq_true rfl)))) (ckOut _) (mO_put _) (fn_132 _) (kp_132 _) (fun _ => rfl) (fun _ => rfl) (fun _ => rfl)) rfl) ?_
    refine abs_ (fun loc h => ∃ D', loc = (("more", AV.bytes mo) :: ("form", AV.int v) :: outL N oc u c f : List (Str × AV)) ∧ OutH h b l' N bx2 (oc ++ mo) du ca (addSpan ds (oc.length : Nat) ((oc.length : Nat) + (mo.length : Nat))) ak D' A u c f fl) ⟨h2.length, rfl, H.dict ?_ (hg_old (set_ne (Ne.symm (Nat.ne_of_lt H.NA)) H.hA)) (hg_len H.hd) H.NA (by rw [List.length_append]; lia)⟩ ?_
    · have := @hg_new (h2.set N (.dict (outF (oc ++ mo) h2.length A))) (.list (asps (addSpan ds (oc.length : Nat) ((oc.length : Nat) + (mo.length : Nat))))) []
      rwa [List.length_set] at this
    clear H
    rintro _ h3 ⟨D', rfl, H⟩
    have e1 : du.map AV.bool ++ List.replicate ((mo.length : Nat) : Int).toNat (.bool true) = (du ++ List.replicate mo.length true).map .bool := by rw [List.map_append, List.map_replicate]; rfl
    have e2 : ca.map AV.bool ++ List.replicate ((mo.length : Nat) : Int).toNat (.bool false) = (ca ++ List.replicate mo.length false).map .bool := by rw [List.map_append, List.map_replicate]; rfl
    have z1 := F.len
    have z2 := G.len
    refine x_go (g_swap3 (e_tuple (es_cons (e_addb (en hY rfl rfl rfl) (en hY rfl rfl rfl) (Nat.le_trans (Nat.add_le_add hn hm4) (by decide))) (es_cons (e_addl (en hY rfl rfl rfl) (e_mulb (e_list (es_cons e_bool es_nil (fun _ => rfl)) rfl) (e_lenb (en hY rfl rfl rfl) (hY.kind rfl) (by (exact Nat.le_trans (by assumption) (Nat.le_of_ble_eq_true rfl))) (fun _ => rfl) (fun _ => rfl)) hg_new (by (exact Int.natCast_nonneg _)) (Int.ofNat_le.mpr (Nat.le_trans hm4 (by decide)))) (hg_old (hg_old H.hu)) hg_new (by rw [List.length_map, List.length_replicate, Int.toNat_natCast]; exact Nat.le_trans (Nat.add_le_add (Nat.le_trans (Nat.le_of_eq (by assumption)) hn) hm4) (by decide)))
      (es_cons (e_addl (en hY rfl rfl rfl) (e_mulb (e_list (es_cons e_bool es_nil (fun _ => rfl)) rfl) (e_lenb (en hY rfl rfl rfl) (hY.kind rfl) (by (exact Nat.le_trans (by assumption) (Nat.le_of_ble_eq_true rfl))) (fun _ => rfl) (fun _ => rfl)) hg_new (by (exact Int.natCast_nonneg _)) (Int.ofNat_le.mpr (Nat.le_trans hm4 (by decide)))) (hg_old (hg_old (hg_old (hg_old (hg_old H.hc))))) hg_new (by rw [List.length_map, List.length_replicate, Int.toNat_natCast]; exact Nat.le_trans (Nat.add_le_add (Nat.le_trans (Nat.le_of_eq (by assumption)) hn) hm4) (by decide))) es_nil (fun _ => rfl)) (fun _ => rfl)) (fun _ => rfl)) rfl) (KS.swap hY fun _ _ _ _ _ => rfl) (hY.kind rfl) (hY.kind rfl) (hY.kind rfl) rfl) ?_
    rw [e1, e2]
    have HH := (((((H.app (g := [.list [.bool true]])).app (g := [.list (List.replicate ((mo.length : Nat) : Int).toNat (.bool true))])).app (g := [.list ((du ++ List.replicate mo.length true).map .bool)])).app (g := [.list [.bool false]])).app (g := [.list (List.replicate ((mo.length : Nat) : Int).toNat (.bool false))])).app (g := [.list ((ca ++ List.replicate mo.length false).map .bool)])
    have hN := hg_len H.hd
    refine x_nil ⟨rfl, outL N (oc ++ mo) _ _ f, LSub.cons rfl (LSub.cons rfl (LSub.cons rfl (LSub.cons rfl (LSub.cons rfl LSub.nil)))), .mk (bx := bx2) (oc := oc ++ mo) (du := du ++ List.replicate mo.length true) (ca := ca ++ List.replicate mo.length false) (ak := ak) (D := D') (A := A) (f := f) (fl := fl) { HH with hu := hg_old (hg_old (hg_old hg_new)), hc := hg_new, Nu := ?_, Nc := ?_, uc := ?_ } ?_ ?_ ?_ (by (exact Nat.le_succ_of_le (by assumption)))⟩
    · exact lt_app (lt_app hN)
    · exact lt_app (lt_app (lt_app (lt_app (lt_app hN))))
    · simp only [List.length_append, List.length_singleton]; lia
    · rw [List.length_append]; exact F.put mo.length
    · rw [List.length_append]; exact G.pad mo.length
    · rw [List.length_append]; exact Nat.add_le_add hoc hm4
  case rest =>
    refine x_join (R := JW (OutJ b l' N) (k + 1)) (t_or_cons (t_cmp (en hY rfl rfl rfl) e_int (c_int rfl) rfl) (fun _ => t_or_cons (t_cut (t_cmp (en hY rfl rfl rfl) (e_list es_nil rfl) (c_eq_nil (hg_old H.hf) hg_new (by (exact rm (by assumption) (by assumption) (Nat.le_of_ble_eq_true rfl)))) rfl)) (fun _ => t_or_nil))) (fun hv2 => ?chunk) (fun hv2 => ?back) (fun l h j => x_nil ⟨rfl, j⟩)
    case chunk =>
      refine x_go (g_asg (tk H.B (by decide)) (an hY rfl) rfl rfl (fun _ => rfl)) ?_
      replace H := H.take (w := 5)
      generalize (takeS bx1 5).1 = most
      generalize (takeS bx1 5).2 = bx2 at H ⊢
      generalize setBox h1 b l' bx2 = h2 at H ⊢
      have z1 := F.len
      rcases F.firstE (most := most) with ⟨ef, hfo⟩ | ⟨a, m, han, ef, hfo⟩
      · refine x_go (g_asg (e_callf (es_cons (en hY rfl rfl rfl) (es_cons (en hY rfl rfl rfl) es_nil (fun _ => rfl)) (fun _ => rfl)) (first_due_j (fo := []) (by (exact rm (by assumption) (by assumption) (Nat.le_of_ble_eq_true rfl))) H.hu (Nat.le_trans (Nat.le_of_eq z1) (Nat.le_trans hn (by decide))) hfo) (n_fd _) (kp_193 _) (hY.kind rfl) rfl (fun _ => rfl) (fun _ => rfl) (fun _ => rfl)) (an hY rfl) rfl rfl (fun _ => rfl)) ?_
        have H2 := H.app (g := [.list (([] : List Int).map AV.int)])
        refine x_go (g_asg (e_ift (t_cut (t_cmp (c := true) (en hY rfl rfl rfl) (e_list es_nil rfl) (c_eq_nil (l := []) (hg_old hg_new) hg_new (by (exact rm (by assumption) (by assumption) (Nat.le_of_ble_eq_true rfl)))) rfl)) e_none) (an hY rfl) rfl rfl (fun _ => rfl)) ?_
        refine x_if (t_cmp (e_meth (en hY rfl rfl rfl) H2.ho H2.hd rfl (es_cons (en hY rfl rfl rfl) es_nil (fun _ => rfl)) (next_chunk_j (v := .none) (h' := _) (by (exact rm (by assumption) (by assumption) (Nat.le_of_ble_eq_true rfl))) (H2.O F.count G.count hn) (by rw [ef]; exact ⟨rfl, rfl⟩)) (ckOut _) (mO_next _) (fn_139 _) (kp_139 _) (fun _ => rfl) (fun _ => rfl) (fun _ => rfl)) (en hY rfl rfl rfl) c_none_ne rfl) (fun h => by cases h) (fun _ => x_nil (show ExecJ _ _ _ _ _ from ?_))
        refine x_loop (m_for_list (J := fun j l h => l = (("spots", AV.ref h2.length) :: outL N oc u c f : List (Str × AV)) ∧ h = h2 ++ [.list (([] : List Int).map AV.int)]) (en hY rfl rfl rfl) hg_new (fun _ _ _ ⟨_, e⟩ => by rw [e]; exact hg_new) ⟨_, LSub.cons rfl (LSub.cons rfl (LSub.cons rfl (LSub.cons rfl (LSub.cons rfl (LSub.cons rfl LSub.nil))))), rfl, rfl⟩ (fun j v l h hv _ => by cases hv) ?_ (fun _ => rfl))
        rintro _ _ ⟨rfl, rfl⟩
        refine x_go (g_asg (e_addl (en hY rfl rfl rfl) (e_iff (t_cut (t_cmp (c := false) (en hY rfl rfl rfl) (e_list es_nil rfl) (c_ne_nil (l := []) (hg_old hg_new) hg_new (by (exact rm (by assumption) (by assumption) (Nat.le_of_ble_eq_true rfl)))) rfl)) (e_list es_nil rfl)) (hg_old H2.hf) hg_new (by rw [List.length_map]; exact Nat.le_trans (m := 14 + 1) (Nat.add_le_add (Nat.le_trans hfl (Nat.le_of_lt hk)) (Nat.le_of_ble_eq_true rfl)) (by decide))) (an hY rfl) rfl rfl (fun _ => rfl)) ?_
        have H3 := (H2.app (g := [.list []])).app (g := [.list (fls fl ++ [])])
        refine x_nil ⟨rfl, outL N oc u c _, LSub.cons rfl (LSub.cons rfl (LSub.cons rfl (LSub.cons rfl (LSub.cons rfl LSub.nil)))), .mk (bx := bx2) (oc := oc) (du := du) (ca := ca) (ds := ds) (ak := ak) (D := D) (A := A) (u := u) (c := c) (fl := fl) { H3 with hf := hg_new.trans (congrArg (fun z => some (AO.list z)) (List.append_nil _)), Nf := ?_ } F G (Nat.le_trans hoc (Nat.mul_le_mul_left 4 (Nat.le_succ k))) (by (exact Nat.le_succ_of_le (by assumption)))⟩
        exact lt_app (lt_app (hg_len H.hd))
      · have hfs : (row a (m + 1)).map AV.int = (row a m).map AV.int ++ [.int ((a + m : Nat) : Int)] := by rw [row_succ, List.map_append]; rfl
        have hz : ((row a (m + 1)).map AV.int).length ≤ 1000000 := by rw [List.length_map, row_len]; exact Nat.le_trans (Nat.le_trans (Nat.le_add_left _ _) han) (Nat.le_trans hn (by decide))
        have hz1 : ((row a m).map AV.int).length ≤ 1000000 := by rw [List.length_map, row_len]; exact Nat.le_of_succ_le (Nat.le_trans (Nat.le_trans (Nat.le_add_left _ _) han) (Nat.le_trans hn (by decide)))
        refine x_go (g_asg (e_callf (es_cons (en hY rfl rfl rfl) (es_cons (en hY rfl rfl rfl) es_nil (fun _ => rfl)) (fun _ => rfl)) (first_due_j (fo := row a (m + 1)) (by (exact rm (by assumption) (by assumption) (Nat.le_of_ble_eq_true rfl))) H.hu (Nat.le_trans (Nat.le_of_eq z1) (Nat.le_trans hn (by decide))) hfo) (n_fd _) (kp_193 _) (hY.kind rfl) rfl (fun _ => rfl) (fun _ => rfl) (fun _ => rfl)) (an hY rfl) rfl rfl (fun _ => rfl)) ?_
        refine abs_ (fun loc h => ∃ sp, loc = (("spots", AV.ref sp) :: ("most", AV.int most) :: ("form", AV.int v) :: outL N oc u c f : List (Str × AV)) ∧ OutH h b l' N bx2 oc du ca ds ak D A u c f fl ∧ h[sp]? = some (.list ((row a (m + 1)).map .int)) ∧ N < sp) ⟨_, rfl, H.app, hg_new, hg_len H.hd⟩ ?_
        clear H h2
        rintro _ h2 ⟨sp, rfl, H, hsp, hNs⟩
        have hsp1 : h2[sp]? = some (.list ((row a m).map AV.int ++ [.int ((a + m : Nat) : Int)])) := by rw [← hfs]; exact hsp
        refine x_go (g_asg (e_iff (t_cut (t_cmp (c := false) (en hY rfl rfl rfl) (e_list es_nil rfl) (c_eq_snoc (hg_old hsp1) hg_new (by (exact rm (by assumption) (by assumption) (Nat.le_of_ble_eq_true rfl)))) rfl)) (e_tuple (es_cons (e_item (v := .int (a : Nat)) (en hY rfl rfl rfl) e_int hsp (by decide) (by rw [List.getElem?_map]; exact congrArg (Option.map AV.int) (row_get (Nat.succ_pos m))) hz (fun _ _ _ => by with_unfolding_all rfl))
          (es_cons (e_eq (v := .bytes (cutL oc (some (a : Nat)) (some (((a + m : Nat) : Int) + 1)))) (w := .bytes (cutL oc (some ((a : Nat) : Int)) (some ((a + (m + 1) : Nat) : Int)))) rfl (e_sliceb (en hY rfl rfl rfl) (p_some (e_item (v := .int (a : Nat)) (en hY rfl rfl rfl) e_int hsp (by decide) (by rw [List.getElem?_map]; exact congrArg (Option.map AV.int) (row_get (Nat.succ_pos m))) hz (fun _ _ _ => by with_unfolding_all rfl))) (p_some (e_addi (e_last (en hY rfl rfl rfl) (e_neg e_int) hsp1 hz1 (fun _ _ _ => by with_unfolding_all rfl)) e_int)) (Int.natCast_nonneg a) (by show (0 : Int) ≤ _; (exact Int.natCast_nonneg _)) (by (exact Nat.le_trans (by assumption) (Nat.le_of_ble_eq_true rfl))) (fun _ _ _ => slb) (fun _ _ _ => by with_unfolding_all rfl))) es_nil (fun _ => rfl)) (fun _ => rfl)) rfl)) (an hY rfl) rfl rfl (fun _ => rfl)) ?_
        refine x_if (t_cmp (e_meth (en hY rfl rfl rfl) H.ho H.hd rfl (es_cons (en hY rfl rfl rfl) es_nil (fun _ => rfl)) (next_chunk_j (v := .tup [.int (a : Nat), .bytes (cutL oc (some ((a : Nat) : Int)) (some ((a + (m + 1) : Nat) : Int)))]) (h' := _) (by (exact rm (by assumption) (by assumption) (Nat.le_of_ble_eq_true rfl))) (H.O F.count G.count hn) (by rw [ef]; exact ⟨Int.natCast_nonneg a, Int.natCast_nonneg _, rfl, rfl⟩)) (ckOut _) (mO_next _) (fn_139 _) (kp_139 _) (fun _ => rfl) (fun _ => rfl) (fun _ => rfl)) (en hY rfl rfl rfl) (c_ne_pair (by (exact rm (by assumption) (by assumption) (Nat.le_of_ble_eq_true rfl)))) rfl) (fun h => by cases h) (fun _ => x_nil (show ExecJ _ _ _ _ _ from ?_))
        refine x_weak (loc' := (("spots", AV.ref sp) :: ("form", AV.int v) :: outL N oc u c f : List (Str × AV))) (LSub.cons rfl (LSub.cons rfl (LSub.cons rfl (LSub.cons rfl (LSub.cons rfl (LSub.cons rfl (LSub.cons rfl LSub.nil))))))) ?_
        refine abs_ (fun loc h => ∃ D', loc = (("spots", AV.ref sp) :: ("form", AV.int v) :: outL N oc u c f : List (Str × AV)) ∧ OutH h b l' N bx2 oc du ca (cutSpan ds (a : Nat) ((a + (m + 1) : Nat) : Int)) ak D' A u c f fl ∧ h[sp]? = some (.list ((row a (m + 1)).map .int))) ?_ ?_
        · refine ⟨h2.length, rfl, H.dict ?_ (hg_old (set_ne (Ne.symm (Nat.ne_of_lt H.NA)) H.hA)) (hg_len H.hd) H.NA (Nat.le_refl _), hg_old (set_ne (Ne.symm (Nat.ne_of_lt hNs)) hsp)⟩
          have := @hg_new (h2.set N (.dict (outF oc h2.length A))) (.list (asps (cutSpan ds (a : Nat) ((a + (m + 1) : Nat) : Int)))) []
          rwa [List.length_set] at this
        clear H h2 hsp hsp1
        rintro _ h2 ⟨D', rfl, H, hsp⟩
        refine x_loop (m_for_list (J := SpJ b l' N bx2 oc (cutSpan ds (a : Nat) ((a + (m + 1) : Nat) : Int)) ak D' A u c f fl sp ((row a (m + 1)).map .int) (spL N oc u c f v sp) (M2 oc.length a du) (fun _ x => ca = x)) (en hY rfl rfl rfl) hsp SpJ.s
          ⟨_, LSub.refl, .mk _ _ rfl H hsp z1 G.len (fun i _ => (and_iff_left fun z => absurd z.2 (Nat.not_lt.mpr z.1)).symm) rfl⟩ ?turn2 ?done2 (fun _ => rfl))
        case turn2 =>
          rintro j w _ h hv ⟨du', _, rfl, H, hsp, hl, hl2, hm, rfl⟩
          obtain ⟨hj, rfl⟩ := row_at hv
          have hlt : a + j < oc.length := Nat.lt_of_lt_of_le (Nat.add_lt_add_left hj a) han
          have hlt' : a + j < du'.length := hl.symm ▸ hlt
          refine ⟨_, _, an hY rfl, ?_⟩
          refine x_go (g_asg e_bool (a_sub (hp3 := h.set u (.list ((du'.set (a + j) false).map .bool))) (en hY rfl rfl rfl) (en hY rfl rfl rfl) H.hu (Int.natCast_nonneg _) (by rw [List.length_map]; exact Int.ofNat_lt.mpr hlt') (by rw [List.length_map, hl]; exact Nat.le_trans hn (by decide)) (congrArg (fun z => List.set _ _ (AO.list z)) bset)) rfl rfl (fun _ => rfl)) ?_
          refine x_nil ⟨_, LSub.skip rfl LSub.refl, .mk _ _ rfl (H.setU (Nat.lt_of_le_of_lt (Nat.zero_le _) hlt')) (set_ne (ne_tag hsp H.hu (by rw [tag_bools (Nat.lt_of_le_of_lt (Nat.zero_le _) hlt')]; exact tag_ints (by decide) (by decide))) hsp) (by rw [List.length_set]; exact hl) hl2 (fun i hi => ?_) rfl⟩
          rw [set_true hlt']
          by_cases e : i = a + j
          · rw [if_pos e]; exact ⟨fun z => (by cases z), fun z => absurd ⟨e ▸ Nat.le_add_right a j, e ▸ Nat.lt_succ_self (a + j)⟩ z.2⟩
          · rw [if_neg e, hm i hi]; exact and_congr_right fun _ => not_congr (in_step e)
        case done2 =>
          rintro _ h ⟨du', _, rfl, H, hsp, hl, hl2, hm, rfl⟩
          rw [List.length_map, row_len] at hm
          have hsp1 : h[sp]? = some (.list ((row a m).map AV.int ++ [.int ((a + m : Nat) : Int)])) := by rw [← hfs]; exact hsp
          refine x_go (g_asg (e_addl (en hY rfl rfl rfl) (e_ift (t_cut (t_cmp (c := true) (en hY rfl rfl rfl) (e_list es_nil rfl) (c_ne_snoc (hg_old hsp1) hg_new (by (exact rm (by assumption) (by assumption) (Nat.le_of_ble_eq_true rfl)))) rfl)) (e_list (es_cons (en hY rfl rfl rfl) es_nil (fun _ => rfl)) rfl)) (hg_old H.hf) hg_new (by rw [List.length_map]; exact Nat.le_trans (m := 14 + 1) (Nat.add_le_add (Nat.le_trans hfl (Nat.le_of_lt hk)) (Nat.le_of_ble_eq_true rfl)) (by decide))) (an hY rfl) rfl rfl (fun _ => rfl)) ?_
          have H3 := (H.app (g := [.list [.ref sp]])).app (g := [.list (fls fl ++ [.ref sp])])
          have hNl := hg_len H.hd
          refine x_nil ⟨rfl, outL N oc u c _, LSub.cons rfl (LSub.cons rfl (LSub.cons rfl (LSub.cons rfl (LSub.cons rfl LSub.nil)))), .mk (bx := bx2) (oc := oc) (du := du') (ca := ca) (ak := ak) (D := D') (A := A) (u := u) (c := c) (fl := fl ++ [(sp, a, m)]) { H3 with hf := hg_new.trans (congrArg (fun z => some (AO.list z)) (List.map_append (f := fun q : Fly => AV.ref q.1) (l₁ := fl) (l₂ := [(sp, a, m)])).symm), Nf := (by simp only [List.length_append]; (exact Nat.le_succ_of_le (by assumption))), hs := fun q hq => (List.mem_append.mp hq).elim (H3.hs q) fun hq => (by rw [List.mem_singleton.mp hq]; exact ⟨hg_old (hg_old hsp), hNs, han⟩) } (F.cut (Int.ofNat_lt.mpr (Nat.lt_add_of_pos_right (Nat.succ_pos m))) hl (fun i hi => (hm i hi).trans (and_congr_right fun _ => not_congr in_cast))) G (Nat.le_trans hoc (Nat.mul_le_mul_left 4 (Nat.le_succ k))) (by rw [List.length_append]; exact Nat.succ_le_succ hfl)⟩
    case back =>
      rw [Bool.or_false, Bool.or_eq_false_iff] at hv2
      have hfl0 : 0 < fl.length := by
        have := hv2.2
        cases fl with
        | nil => cases this
        | cons => exact Nat.succ_pos _
      have w0 : (0 : Int) < ((fls fl).length : Nat) := by rw [List.length_map]; exact Int.natCast_pos.mpr hfl0
      have j0 := takeS_bounds (bx := bx1) w0
      obtain ⟨j, hj⟩ : ∃ j : Nat, (takeS bx1 ((fls fl).length : Nat)).1 = (j : Int) := Int.eq_ofNat_of_zero_le j0.1
      have hjl : j < fl.length := by have := j0.2; rw [hj, List.length_map] at this; exact Int.ofNat_lt.mp this
      obtain ⟨⟨sp, a, m⟩, hq⟩ : ∃ q, fl[j]? = some q := ⟨fl[j], List.getElem?_eq_getElem hjl⟩
      obtain ⟨hsp, hNs, han⟩ := H.hs _ (List.mem_of_getElem? hq)
      dsimp only at hsp hNs han
      have H2 := H.take (w := ((fls fl).length : Nat))
      have hsp2 : (setBox h1 b l' (takeS bx1 ((fls fl).length : Nat)).2)[sp]? = _ := (H2.hs _ (List.mem_of_getElem? hq)).1
      refine x_go (g_asg (e_methl (en hY rfl rfl rfl) H.hf (es_cons (e_callf (es_cons cell (es_cons (e_lenl (en hY rfl rfl rfl) H.hf (hY.kind rfl) (by rw [List.length_map]; exact Nat.le_trans hfl (Nat.le_trans (Nat.le_of_lt hk) (by decide))) (fun _ => rfl) (fun _ => rfl)) es_nil (fun _ => rfl)) (fun _ => rfl)) (takeB (by (exact rm (by assumption) (by assumption) (Nat.le_of_ble_eq_true rfl))) H.B w0 hj) (n_take _) (kp_174 _) (hY.kind rfl) rfl (fun _ => rfl) (fun _ => rfl) (fun _ => rfl)) es_nil (fun _ => rfl))
        (k_pop (v := .ref sp) (l := fls fl) H2.hf (Int.natCast_nonneg j) (by rw [List.getElem?_map]; exact congrArg (Option.map fun q : Fly => AV.ref q.1) hq) (by rw [List.length_map]; exact Nat.le_trans hfl (Nat.le_trans (Nat.le_of_lt hk) (by decide)))) PySem.F.slot_list_pop PySem.F.type_list_pop (fun _ => rfl) (fun _ => rfl) (fun _ => rfl)) (an hY rfl) rfl rfl (fun _ => rfl)) ?_
      refine x_go (g_asg (e_cmp (en hY rfl rfl rfl) e_int (c_int rfl) rfl) (an hY rfl) rfl rfl (fun _ => rfl)) ?_
      generalize decide (v = 3) = gone
      refine x_weak (loc' := (("is_gone", AV.bool gone) :: ("spots", AV.ref sp) :: ("form", AV.int v) :: outL N oc u c f : List (Str × AV))) (LSub.cons rfl (LSub.cons rfl (LSub.cons rfl (LSub.cons rfl (LSub.cons rfl (LSub.cons rfl (LSub.cons rfl (LSub.cons rfl LSub.nil)))))))) ?_
      refine abs_ (fun loc h => ∃ bx2 fl2, loc = (("is_gone", AV.bool gone) :: ("spots", AV.ref sp) :: ("form", AV.int v) :: outL N oc u c f : List (Str × AV)) ∧ OutH h b l' N bx2 oc du ca ds ak D A u c f fl2 ∧ fl2.length ≤ k ∧ h[sp]? = some (.list ((row a (m + 1)).map .int))) ⟨_, _, rfl, H2.pop (j := j) hfl0, Nat.le_trans (List.length_eraseIdx_le ..) hfl, set_ne (ne_tag hsp2 H2.hf (by rw [tag_fl1 hfl0]; exact tag_ints (by decide) (by decide))) hsp2⟩ ?_
      clear H H2 hsp hsp2 hq hj hjl j0 w0 hfl0 hv2
      rintro _ h2 ⟨bx2, fl2, rfl, H, hfl2, hsp⟩
      have z1 := F.len
      have z2 := G.len
      have hz : ((row a (m + 1)).map AV.int).length ≤ 1000000 := by rw [List.length_map, row_len]; exact Nat.le_trans (Nat.le_trans (Nat.le_add_left _ _) han) (Nat.le_trans hn (by decide))
      cases gone with
      | true =>
        refine x_loop (m_for_list (J := SpJ b l' N bx2 oc ds ak D A u c f fl2 sp ((row a (m + 1)).map .int) (gnL N oc u c f v sp true) (M3 oc.length a du ca) (fun _ x => ca = x)) (en hY rfl rfl rfl) hsp SpJ.s
          ⟨_, LSub.refl, .mk _ _ rfl H hsp z1 z2 (fun i _ => (or_iff_left fun z => absurd z.1.2 (Nat.not_lt.mpr z.1.1)).symm) rfl⟩ ?turn3 ?done3 (fun _ => rfl))
        case turn3 =>
          rintro j w _ h hv ⟨du', _, rfl, H, hsp, hl, -, hm, rfl⟩
          obtain ⟨hj, rfl⟩ := row_at hv
          have hlt : a + j < oc.length := Nat.lt_of_lt_of_le (Nat.add_lt_add_left hj a) han
          have hlt' : a + j < du'.length := hl.symm ▸ hlt
          obtain ⟨cb, hcb⟩ := getEx (z2.symm ▸ hlt : a + j < ca.length)
          obtain ⟨db, hdb⟩ := getEx hlt'
          refine ⟨_, _, an hY rfl, ?_⟩
          refine x_go (g_asg (v := .bool (db || !cb)) ?ev (a_sub (hp3 := h.set u (.list ((du'.set (a + j) (db || !cb)).map .bool))) (en hY rfl rfl rfl) (en hY rfl rfl rfl) H.hu (Int.natCast_nonneg _) (by rw [List.length_map]; exact Int.ofNat_lt.mpr hlt') (by rw [List.length_map, hl]; exact Nat.le_trans hn (by decide)) (congrArg (fun z => List.set _ _ (AO.list z)) bset)) rfl rfl (fun _ => rfl)) ?_
          case ev =>
            cases cb with
            | true => exact e_eq (by rw [Bool.not_true, Bool.or_false]) (e_ift (t_or_cons (b := true) (c := true) (t_plain (e_item (v := .bool true) (en hY rfl rfl rfl) (en hY rfl rfl rfl) H.hc (Int.natCast_nonneg _) (by rw [List.getElem?_map]; exact congrArg (Option.map AV.bool) hcb) (by rw [List.length_map, z2]; exact Nat.le_trans hn (by decide)) (fun _ _ _ => by with_unfolding_all rfl)) (fun _ => rfl)) (fun h => by cases h)) (e_item (v := .bool db) (en hY rfl rfl rfl) (en hY rfl rfl rfl) H.hu (Int.natCast_nonneg _) (by rw [List.getElem?_map]; exact congrArg (Option.map AV.bool) hdb) (by rw [List.length_map, hl]; exact Nat.le_trans hn (by decide)) (fun _ _ _ => by with_unfolding_all rfl)))
            | false => exact e_eq (by rw [Bool.not_false, Bool.or_true]) (e_iff (t_or_cons (b := false) (c := false) (t_plain (e_item (v := .bool false) (en hY rfl rfl rfl) (en hY rfl rfl rfl) H.hc (Int.natCast_nonneg _) (by rw [List.getElem?_map]; exact congrArg (Option.map AV.bool) hcb) (by rw [List.length_map, z2]; exact Nat.le_trans hn (by decide)) (fun _ _ _ => by with_unfolding_all rfl)) (fun _ => rfl)) (fun _ => t_or_cons (b := false) (c := false) (t_not (b := true) (t_plain (en hY rfl rfl rfl) (fun _ => rfl))) (fun _ => t_or_nil))) e_bool)
          refine x_if (t_not (t_plain (en hY rfl rfl rfl) (fun _ => rfl))) (fun h => by cases h) (fun _ => x_nil (show ExecJ _ _ _ _ _ from ?_))
          refine x_nil ⟨_, LSub.skip rfl LSub.refl, .mk _ _ rfl (H.setU (Nat.lt_of_le_of_lt (Nat.zero_le _) hlt')) (set_ne (ne_tag hsp H.hu (by rw [tag_bools (Nat.lt_of_le_of_lt (Nat.zero_le _) hlt')]; exact tag_ints (by decide) (by decide))) hsp) (by rw [List.length_set]; exact hl) z2 (fun i hi => ?_) rfl⟩
          rw [set_true hlt']
          by_cases e : i = a + j
          · have hm' : db = true ↔ du[a + j]? = some true := by
              have := hm (a + j) hlt
              rw [hdb] at this
              exact ⟨fun z => (this.mp (congrArg some z)).elim id fun y => absurd y.1.2 (Nat.lt_irrefl _), fun z => Option.some.inj (this.mpr (.inl z))⟩
            rw [if_pos e, e, Bool.or_eq_true, hm', hcb]
            refine or_congr_right ?_
            cases cb <;> simp
          · rw [if_neg e, hm i hi]
            exact or_congr_right (and_congr_left fun _ => in_step e)
        case done3 =>
          rintro _ h ⟨du', _, rfl, H, hsp, hl, -, hm, rfl⟩
          rw [List.length_map, row_len] at hm
          obtain ⟨L1, L2⟩ := F.lost G (Nat.succ_pos m) han hl hm
          refine x_if (t_plain (en hY rfl rfl rfl) (fun _ => rfl)) (fun _ => ?_) (fun h => by cases h)
          refine ExecG.j (x_exprG (e_methG (v := false) (en hY rfl rfl rfl) H.ho H.hd rfl (es_cons (e_item (v := .int (a : Nat)) (en hY rfl rfl rfl) e_int hsp (by decide) (by rw [List.getElem?_map]; exact congrArg (Option.map AV.int) (row_get (Nat.succ_pos m))) hz (fun _ _ _ => by with_unfolding_all rfl)) (es_cons (e_eq (w := .int ((m + 1 : Nat) : Int)) (by rw [List.length_map, row_len]) (e_lenl (en hY rfl rfl rfl) hsp (hY.kind rfl) hz (fun _ => rfl) (fun _ => rfl))) es_nil (fun _ => rfl)) (fun _ => rfl))
            (CallQ.g (on_lost_q (a := (a : Nat)) (k := ((m + 1 : Nat) : Int)) (by (exact rm (by assumption) (by assumption) (Nat.le_of_ble_eq_true rfl))) (H.O F.count G.count hn) (fun j => Nat.le_trans (cutAll_len (Nat.succ_pos m) fun p hp => G.can.2 p (List.mem_of_mem_take hp)) (Nat.le_trans (Nat.succ_le_succ (Nat.le_trans (Nat.le_trans (Nat.le_add_left _ _) han) hn)) (by decide))) (fun j => Nat.le_trans (L2 j) (by (exact Nat.le_trans (by assumption) (Nat.le_of_ble_eq_true rfl)))))) (ckOut _) (mO_lost _) (fn_146 _) (kp_146 _) (fun _ => rfl) (fun _ => rfl) (fun _ => rfl)) rfl (fun X' w h3 hT hW => ?_))
          obtain ⟨rfl, D', g, hDd, rfl, hD'⟩ := hW
          cases hT.eq
          exact ExecJ.g (x_nil (show ExecJ _ _ _ _ _ from x_nil ⟨rfl, outL N oc u c f, LSub.skip rfl (LSub.skip rfl (LSub.skip rfl LSub.refl)), .mk (bx := bx2) (oc := oc) (du := du') (ca := ca) (ak := ak) (D := D') (A := A) (u := u) (c := c) (f := f) (fl := fl2) (H.dict hD' (hg_old (set_ne (Ne.symm (Nat.ne_of_lt H.NA)) H.hA)) (hDd.elim (fun z => by rw [z]; exact H.ND) id) H.NA (Nat.le_refl _)) L1 G (Nat.le_trans hoc (Nat.mul_le_mul_left 4 (Nat.le_succ k))) (by (exact Nat.le_succ_of_le (by assumption)))⟩))
      | false =>
        refine x_loop (m_for_list (J := SpJ b l' N bx2 oc ds ak D A u c f fl2 sp ((row a (m + 1)).map .int) (gnL N oc u c f v sp false) (M2 oc.length a du) (M4 oc.length a ca)) (en hY rfl rfl rfl) hsp SpJ.s
          ⟨_, LSub.refl, .mk _ _ rfl H hsp z1 z2 (fun i _ => (and_iff_left fun z => absurd z.2 (Nat.not_lt.mpr z.1)).symm) (fun i _ => (or_iff_left fun z => absurd z.2 (Nat.not_lt.mpr z.1)).symm)⟩ ?turn4 ?done4 (fun _ => rfl))
        case turn4 =>
          rintro j w _ h hv ⟨du', ca', rfl, H, hsp, hl, hl2, hm, hm2⟩
          obtain ⟨hj, rfl⟩ := row_at hv
          have hlt : a + j < oc.length := Nat.lt_of_lt_of_le (Nat.add_lt_add_left hj a) han
          have hlt' : a + j < du'.length := hl.symm ▸ hlt
          have hlc : a + j < ca'.length := hl2.symm ▸ hlt
          obtain ⟨cb, hcb⟩ := getEx hlc
          obtain ⟨db, hdb⟩ := getEx hlt'
          refine ⟨_, _, an hY rfl, ?_⟩
          refine x_go (g_asg (e_ift (t_eq (v := cb || true) (Bool.or_true cb) (t_or_cons (b := cb) (c := true) (t_plain (e_item (v := .bool cb) (en hY rfl rfl rfl) (en hY rfl rfl rfl) H.hc (Int.natCast_nonneg _) (by rw [List.getElem?_map]; exact congrArg (Option.map AV.bool) hcb) (by rw [List.length_map, hl2]; exact Nat.le_trans hn (by decide)) (fun _ _ _ => by with_unfolding_all rfl)) (fun _ => rfl)) (fun _ => t_or_cons (b := true) (c := false) (t_not (b := false) (t_plain (en hY rfl rfl rfl) (fun _ => rfl))) (fun h => by cases h)))) (e_item (v := .bool db) (en hY rfl rfl rfl) (en hY rfl rfl rfl) H.hu (Int.natCast_nonneg _) (by rw [List.getElem?_map]; exact congrArg (Option.map AV.bool) hdb) (by rw [List.length_map, hl]; exact Nat.le_trans hn (by decide)) (fun _ _ _ => by with_unfolding_all rfl)))
            (a_sub (hp3 := h.set u (.list ((du'.set (a + j) db).map .bool))) (en hY rfl rfl rfl) (en hY rfl rfl rfl) H.hu (Int.natCast_nonneg _) (by rw [List.length_map]; exact Int.ofNat_lt.mpr hlt') (by rw [List.length_map, hl]; exact Nat.le_trans hn (by decide)) (congrArg (fun z => List.set _ _ (AO.list z)) bset)) rfl rfl (fun _ => rfl)) ?_
          have H1 := H.setU (du' := du'.set (a + j) db) (Nat.lt_of_le_of_lt (Nat.zero_le _) hlt')
          have s1 : (h.set u (.list ((du'.set (a + j) db).map .bool)))[sp]? = _ := set_ne (ne_tag hsp H.hu (by rw [tag_bools (Nat.lt_of_le_of_lt (Nat.zero_le _) hlt')]; exact tag_ints (by decide) (by decide))) hsp
          refine x_if (t_not (t_plain (en hY rfl rfl rfl) (fun _ => rfl))) (fun _ => ?_) (fun h => by cases h)
          have H3 := H1.setC (ca' := ca'.set (a + j) true) (Nat.lt_of_le_of_lt (Nat.zero_le _) hlc)
          have s2 := set_ne (x := .list ((ca'.set (a + j) true).map .bool)) (ne_tag s1 H1.hc (by rw [tag_bools (Nat.lt_of_le_of_lt (Nat.zero_le _) hlc)]; exact tag_ints (by decide) (by decide))) s1
          have H4 := H3.setU (du' := (du'.set (a + j) db).set (a + j) false) (by rw [List.length_set]; exact Nat.lt_of_le_of_lt (Nat.zero_le _) hlt')
          have s3 := set_ne (x := .list (((du'.set (a + j) db).set (a + j) false).map .bool)) (ne_tag s2 H3.hu (by rw [tag_bools (by rw [List.length_set]; exact Nat.lt_of_le_of_lt (Nat.zero_le _) hlt')]; exact tag_ints (by decide) (by decide))) s2
          refine x_go (g_asg (e_tuple (es_cons e_bool (es_cons e_bool es_nil (fun _ => rfl)) (fun _ => rfl)) rfl) (a_tup (as_cons (a_sub (hp3 := (h.set u (.list ((du'.set (a + j) db).map .bool))).set c (.list ((ca'.set (a + j) true).map .bool))) (en hY rfl rfl rfl) (en hY rfl rfl rfl) H1.hc (Int.natCast_nonneg _) (by rw [List.length_map]; exact Int.ofNat_lt.mpr hlc) (by rw [List.length_map, hl2]; exact Nat.le_trans hn (by decide)) (congrArg (fun z => List.set _ _ (AO.list z)) bset))
            (as_cons (a_sub (hp3 := ((h.set u (.list ((du'.set (a + j) db).map .bool))).set c (.list ((ca'.set (a + j) true).map .bool))).set u (.list (((du'.set (a + j) db).set (a + j) false).map .bool))) (en hY rfl rfl rfl) (en hY rfl rfl rfl) H3.hu (Int.natCast_nonneg _) (by rw [List.length_map, List.length_set]; exact Int.ofNat_lt.mpr hlt') (by rw [List.length_map, List.length_set, hl]; exact Nat.le_trans hn (by decide)) (congrArg (fun z => List.set _ _ (AO.list z)) bset)) as_nil (fun _ => rfl)) (fun _ => rfl)) (fun _ => rfl) (fun _ => rfl)) rfl (KS.swap hY fun _ _ _ _ _ => rfl) (fun _ => rfl)) ?_
          refine x_nil (show ExecJ _ _ _ _ _ from x_nil ⟨_, LSub.skip rfl LSub.refl, .mk _ _ rfl H4 s3 (by rw [List.length_set, List.length_set]; exact hl) (by rw [List.length_set]; exact hl2) (fun i hi => ?_) (fun i hi => ?_)⟩)
          · rw [List.set_set, set_true hlt']
            by_cases e : i = a + j
            · rw [if_pos e]
              exact ⟨fun z => (by cases z), fun z => absurd ⟨e ▸ Nat.le_add_right a j, e ▸ Nat.lt_succ_self (a + j)⟩ z.2⟩
            · rw [if_neg e, hm i hi]
              exact and_congr_right fun _ => not_congr (in_step e)
          · rw [set_true hlc]
            by_cases e : i = a + j
            · rw [if_pos e]
              exact ⟨fun _ => .inr ⟨e ▸ Nat.le_add_right a j, e ▸ Nat.lt_succ_self (a + j)⟩, fun _ => rfl⟩
            · rw [if_neg e, hm2 i hi]
              exact or_congr_right (in_step e)
        case done4 =>
          rintro _ h ⟨du', ca', rfl, H, hsp, hl, hl2, hm, hm2⟩
          rw [List.length_map, row_len] at hm hm2
          refine x_if (t_plain (en hY rfl rfl rfl) (fun _ => rfl)) (fun h => by cases h) (fun _ => ?_)
          refine x_go (g_expr' (e_meth (en hY rfl rfl rfl) H.ho H.hd rfl (es_cons (e_item (v := .int (a : Nat)) (en hY rfl rfl rfl) e_int hsp (by decide) (by rw [List.getElem?_map]; exact congrArg (Option.map AV.int) (row_get (Nat.succ_pos m))) hz (fun _ _ _ => by with_unfolding_all rfl)) (es_cons (e_eq (w := .int ((m + 1 : Nat) : Int)) (by rw [List.length_map, row_len]) (e_lenl (en hY rfl rfl rfl) hsp (hY.kind rfl) hz (fun _ => rfl) (fun _ => rfl))) es_nil (fun _ => rfl)) (fun _ => rfl))
            (on_acked_j (a := (a : Nat)) (k := ((m + 1 : Nat) : Int)) (by (exact rm (by assumption) (by assumption) (Nat.le_of_ble_eq_true rfl))) (H.O F.count G.count hn)) (ckOut _) (mO_acked _) (fn_153 _) (kp_153 _) (fun _ => rfl) (fun _ => rfl) (fun _ => rfl)) rfl) ?_
          have hNl := hg_len H.hd
          refine x_nil (show ExecJ _ _ _ _ _ from x_nil ⟨rfl, outL N oc u c f, LSub.skip rfl (LSub.skip rfl (LSub.skip rfl LSub.refl)), .mk (bx := bx2) (oc := oc) (du := du') (ca := ca') (D := h.length + 1) (A := h.length) (u := u) (c := c) (f := f) (fl := fl2) (H.dict ?_ ?_ (by (exact Nat.le_succ_of_le (by assumption))) hNl (Nat.le_refl _)) (F.cut (a := (a : Nat)) (b := ((a : Nat) : Int) + ((m + 1 : Nat) : Int)) (Int.lt_add_of_pos_right _ (Int.natCast_pos.mpr (Nat.succ_pos m))) hl (fun i hi => (hm i hi).trans (and_congr_right fun _ => not_congr in_cast))) (G.add (a := (a : Nat)) (b := ((a : Nat) : Int) + ((m + 1 : Nat) : Int)) (Int.natCast_nonneg a) (Int.lt_add_of_pos_right _ (Int.natCast_pos.mpr (Nat.succ_pos m))) (Int.ofNat_le.mpr han) hl2 (fun i hi => (hm2 i hi).trans (or_congr_right in_cast))) (Nat.le_trans hoc (Nat.mul_le_mul_left 4 (Nat.le_succ k))) (by (exact Nat.le_succ_of_le (by assumption)))⟩)
          · rw [List.getElem?_append_right (by rw [List.length_set]; lia), List.length_set, Nat.add_sub_cancel_left]; rfl
          · rw [List.getElem?_append_right (by rw [List.length_set]; (exact Nat.le_refl _)), List.length_set, Nat.sub_self]; rfl
end
end Mine
end

section
set_option maxHeartbeats 1000000
open PySem PySem.W PyProof.Rows PySem.Calls
namespace Mine
section
variable {X : FX} {loc loc' : Loc} {hp hp1 hp2 hp3 : Hp} {P P1 : Post}
theorem e_rawslice {o : Expr} {lo hi : Option Expr} {sp p : Pos} {a : Addr} {vs : List Value} {ns : List Int} {i j : Option Int} (h : EvJ X loc hp o (.raw (.ref a)) hp1) (h1 : PtJ X loc hp1 lo i hp2) (h2 : PtJ X loc hp2 hi j hp3) (hL : X.h₀.IsList a vs.toArray) (hI : IntsAre vs ns) (n1 : NN i) (n2 : NN j) (hz : vs.length ≤ 1000000)
    (hs : ∀ b a, subscripted (.Slice lo hi none sp) false (.ref b) (.ref a) = operate [.ref a, .ref b] (getItem (.ref b) (.ref a)))
    (ht : ∀ b r, letTemporaryGo o (.ref b) r = pure ()) : EvJ X loc hp (.Subscript o (.Slice lo hi none sp) p) (.ref hp3.length) (hp3 ++ [.list ((cutL ns i j).map .int)]) := by
  intro s m news al Q E R k
  refine Subscript_ (h _ _ _ _ _ _ R fun u1 g1 t1 m1 a1 x1 r1 R1 => wpAny_Slice (h1 _ _ _ _ _ _ R1 fun u2 g2 t2 m2 a2 x2 r2 R2 => h2 _ _ _ _ _ _ R2 fun u3 g3 t3 m3 a3 x3 r3 R3 => evalPart_none_step ?_))
  cases r1
  have hl : g3.IsList a vs.toArray := hL.at fun o e => R3.C.F.keep _ _ e
  refine kms_slice_lit (s := { s with heap := g3, toks := t3 }) R3.C.F R3.C.N hl r2 r3 (zs := cutL vs i j) (kms_cut _ n1 n2) (fun D h' F' N' hlt => ?_) (hs _ _) (ht _) (by rw [List.size_toArray, sizeLine_eq]; (exact Nat.le_trans (by assumption) (Nat.le_of_ble_eq_true rfl)))
  obtain ⟨C', v'⟩ := R3.C.newList (vs := (cutL ns i j).map .int) (by rw [← cutL_map]; exact (of_ints hI).cutL i j) F' N' hlt
  exact k _ _ t3 _ _ (((x1.trans x2).trans x3).trans (Ext.push hlt)) v' ⟨C', R3.V.mono (Ext.push hlt)⟩
theorem ints_len {vs : List Value} {ns : List Int} (h : IntsAre vs ns) : vs.length = ns.length := by
  have := (of_ints (news := []) (al := []) h).length
  rwa [List.length_map] at this
theorem rep_start {h : Heap} {m : Str → Option Value} {x : Str} {v : Value} (F : Fr X.h₀ X.L h m) (hm : m x = some v) (hh : handedIn v = true) (hn : v ≠ .none) (hc : X.cv = []) : RepS X [(x, .raw v)] [] h m [] [] := by
  have hL : LRep [] [] m [(x, .raw v)] := fun y u hy => by
    rw [List.lookup_cons] at hy
    by_cases c : (y == x) = true
    · rw [c] at hy
      cases hy
      exact ⟨v, by rw [beq_iff_eq.mp c]; exact hm, .raw hh hn⟩
    · rw [Bool.not_eq_true] at c
      rw [c] at hy
      cases hy
  exact ⟨⟨F, fun _ h => (by cases h), rfl, List.nodup_nil, fun k a o h => (by cases h)⟩, hL, fun y u hy => by rw [hc] at hy; cases hy⟩
theorem law_gen {X0 : FX} {ss : List Stmt} {a : Addr} {vs : Array Value} (hL : X0.h₀.IsList a vs) (hr : 9 < X0.room) (h : ∀ X : FX, KS X X0.cs → X.h₀.IsList a vs → 9 < X.room → ExecG true X loc hp ss P) : ExecG true X0 loc hp ss P := h X0 rfl hL hr
theorem x_loopJ {v : Bool} {st : Stmt} {ss : List Stmt} (h : StmJ X loc hp st (LoopP (fun l h => ExecG v X l h ss P) P)) : ExecG v X loc hp (st :: ss) P := by
  intro s m news al Q E R k
  refine wpAny_execs_cons (h _ _ _ _ _ _ R fun fl af l p h' tk m' n' a' hP hF hx R' => ?_)
  cases hF with
  | next => exact hP _ _ _ _ _ _ R' fun X2 fl2 af2 l2 p2 h2 tk2 m2 n2 a2 hT2 hP2 hF2 hx2 R2 => k _ _ _ _ _ _ _ _ _ _ hT2 hP2 hF2 (hx.trans hx2) R2
  | brk => exact hP.elim
  | cont => exact hP.elim
  | ret r => exact k _ _ _ _ _ _ _ _ _ _ Tu.refl hP (.ret r) hx R'
end
end Mine
end

section
set_option maxHeartbeats 8000000
open PySem PySem.W PyProof.Rows PySem.Calls
theorem PySem.Challenge.cw_no0069_01_holds : PySem.Challenge.rw_no0069_01.Holds := by
  refine Mine.hd ?_
  k_go0
  rename Fr _ _ _ _ => F
  rename News _ _ _ _ => N
  rename Top _ _ _ _ _ _ => T
  rename Below _ _ _ _ => B
  rename Heap.IsList _ _ _ => hL
  rename IntsAre _ _ => hI
  rename Frag.In _ _ => KX
  rename List Int => ns
  refine (?_ : Mine.ExecG true { prog := _, w := _, p := _, loose := _, mean := _, mg := _, mb := _, dp := _, un := _, gd := _, cn := _, cs := _, a := _, ccd := _, cl := [], cv := [], outer := [], A₀ := callerA, base := _, h₀ := _, L := _, room := 10, B := B, X := KX, T := T, XB := KX, TB := T, D := ?_, hk := ?_, hdp := ?_, hun := ?_ } [("script", .raw (.ref _))] [] _ (Mine.RetQ fun v _ => v = .bool true)) _ _ _ _ _ _ (Mine.rep_start F rfl rfl (by simp) rfl) ?_
  case refine_1 => exact fun _ h => (nomatch h)
  case refine_2 => rfl
  case refine_3 => decide
  case refine_4 => decide
  case refine_6 =>
    rintro X' fl af loc' hp' h' tk m' news' al' hT hP hF - R
    cases hF with
    | ret r =>
      have e : _ = Mine.AV.bool true := hP
      subst e
      cases r
      obtain ⟨g, t, -, B', K', T', D'⟩ := hT
      exact ⟨.inl ⟨.bool true, .bool true, [], rfl, fun _ => rfl, .bool true, (by first | (with_unfolding_all rfl) | (rfl) | law_fin | simp), fun _ => ⟨List.nodup_nil, fun _ h => nomatch h⟩⟩, fun b o q => R.C.F.keep b o (t.other b o q (fun z => nomatch z)), rfl, by assumption⟩
    | next => exact absurd hP (by intro z; cases z)
    | brk => exact hP.elim
    | cont => exact hP.elim
  case refine_5 =>
    have hz := Mine.ints_len hI
    refine Mine.law_gen hL (Nat.le_of_ble_eq_true rfl) ?_
    clear hL
    intro X hX hL hr
    dsimp only at hX
    rename ¬ _ => hc
    have hn := Nat.le_trans (Nat.le_of_eq hz) (Nat.not_lt.mp fun z => hc (Int.ofNat_lt.mpr z))
    have hv := Nat.le_trans hn (show 63 ≤ 1000000 by decide)
    refine Mine.x_goG (Mine.g_asg Mine.e_int (Mine.an hX rfl) rfl rfl (fun _ => rfl)) ?_
    have sl := fun {loc : Mine.Loc} {hp : Mine.Hp} {p1 p2 p3 p4 : Pos} {k : Nat} (hl : loc.lookup ("script" : Str) = some (.raw (.ref _))) => Mine.e_rawslice (X := X) (hp := hp) (sp := p3) (p := p4) (Mine.en (p := p1) hX hl rfl rfl) Mine.p_none (Mine.p_some (Mine.e_int (i := 24) (kk := k) (p := p2))) hL hI trivial (show (0 : Int) ≤ 24 by decide) hv (fun _ _ => Mine.sll) (fun _ _ => by with_unfolding_all rfl)
    refine Mine.x_loopJ (Mine.m_for_list (J := fun j l h => ∃ sd, l = [(("seed" : Str), Mine.AV.int sd), ("script", .raw (.ref _))] ∧ h = [.list ((Mine.cutL ns none (some 24)).map .int)]) (sl rfl) Mine.hg_new ?hl ⟨_, Mine.LSub.refl, _, rfl, rfl⟩ ?turn ?done (fun _ => rfl))
    case hl => rintro j l h ⟨sd, rfl, rfl⟩; rfl
    case turn =>
      rintro j v l h hj ⟨sd, rfl, rfl⟩
      rw [List.getElem?_map] at hj
      obtain ⟨n, -, rfl⟩ := Option.map_eq_some_iff.mp hj
      refine ⟨_, _, Mine.an hX rfl, ?_⟩
      exact Mine.x_go (Mine.g_asg (Mine.e_modi (Mine.e_addi (Mine.e_muli (Mine.en hX rfl rfl rfl) Mine.e_int (by decide) (by decide)) (Mine.en hX rfl rfl rfl)) Mine.e_int (by decide)) (Mine.an hX rfl) rfl rfl (fun _ => rfl)) (Mine.x_nil ⟨_, Mine.LSub.cons rfl (Mine.LSub.cons rfl Mine.LSub.nil), _, rfl, rfl⟩)
    case done =>
      rintro l h ⟨sd, rfl, rfl⟩
      have h24 : (Mine.cutL ns none (some 24)).length ≤ 63 := Nat.le_trans (Mine.cutL_len _ none (some 24)) (hz ▸ hn)
      refine Mine.x_goG (Mine.g_asg (Mine.e_list (Mine.es_cons (Mine.e_copy (sl rfl) Mine.hg_new (Mine.KS.kind hX rfl) (by rw [List.length_map]; exact Nat.le_trans h24 (by decide)) (fun _ => rfl) (fun _ => rfl)) (Mine.es_cons (Mine.en hX rfl rfl rfl) Mine.es_nil (fun _ => rfl)) (fun _ => rfl)) rfl) (Mine.an hX rfl) rfl rfl (fun _ => rfl)) ?_
      have hB : Mine.BxH ([.list ((Mine.cutL ns none (some 24)).map .int)] ++ [.list ((Mine.cutL ns none (some 24)).map .int)] ++ [.list ((Mine.cutL ns none (some 24)).map .int)] ++ [.list [.ref 2, .int sd]]) 3 2 (Mine.cutL ns none (some 24), sd) := ⟨rfl, rfl, by decide, Nat.le_trans h24 (by decide)⟩
      refine Mine.x_retAnd (Mine.e_callfG (Mine.es_cons (Mine.en hX rfl rfl rfl) Mine.es_nil (fun _ => rfl)) (Mine.incoming_g (by omega) hB) (Mine.n_in _) (Mine.kp_179 _) (Mine.KS.kind hX rfl) rfl (fun _ => rfl) (fun _ => rfl) (fun _ => rfl)) (fun X' h hT hW => ?_) (fun a h hW => hW)
      obtain ⟨bx', hB'⟩ := hW
      exact Mine.e_callfG (Mine.es_cons (Mine.en (hT.ks hX) rfl rfl rfl) Mine.es_nil (fun _ => rfl)) (Mine.outgoing_g (by rw [hT.env.2.2.2.2.1]; omega) hB') (Mine.n_out _) (Mine.kp_198 _) (Mine.KS.kind (hT.ks hX) rfl) rfl (fun _ => rfl) (fun _ => rfl) (fun _ => rfl)
end
