import PyProof.Rows.All
import Wide.All
import OpenK.AllK
import Wide.FinOn
import PySem.Challenge.RW_sa0105_01
open PySem PySem.W PySem.W.X PySem.Calls PyProof.Rows
set_option Elab.async false
set_option maxRecDepth 100000


/- B1 -/

namespace Mine
section

/-- the values of the denotations -/
inductive V where
  | unb | none | bool (b : Bool) | int (i : Int) | list (vs : List V) | tup (vs : List V) | dict (ks : List Int) (vs : List V)
  | mlist (vs : List V) | mdict (ks : List Int) (vs : List V)

noncomputable def IsD (h : Heap) (a : Addr) (kvs : List (Int × Value)) : Prop := (a == sysModules) = false ∧ ∃ prog w ep, h.DictAt (intKind prog w) a kvs ep
theorem pairs_any {p p' : Program} {w w' : World} : ∀ {es : List DictEntry} {kvs : List (Int × Value)}, Pairs (intKind p w) es kvs → Pairs (intKind p' w') es kvs
  | _, _, .nil => .nil
  | _, _, .cons h1 h2 h => .cons h1 h2 (pairs_any h)
theorem IsD.at {h : Heap} {a : Addr} {kvs : List (Int × Value)} (x : IsD h a kvs) (prog : Program) (w : World) : ∃ ep, h.DictAt (intKind prog w) a kvs ep :=
  let ⟨_, _, _, ep, o, es, ho, hc, hd, hk, hp, hn⟩ := x
  ⟨ep, o, es, ho, hc, hd, hk, pairs_any hp, hn⟩

mutual
noncomputable def Is (X : Addr → Prop) (h : Heap) : V → Value → Prop
  | .unb, _ => False
  | .none, x => x = .none
  | .bool b, x => x = .bool b
  | .int i, x => ∃ t, x = .int i t
  | .list vs, x => ∃ a items, x = .ref a ∧ ¬ X a ∧ h.PlainList a items.toArray ∧ items.length ≤ 4096 ∧ IsAll X h vs items
  | .tup vs, x => ∃ a items, x = .ref a ∧ ¬ X a ∧ IsTup h a items.toArray ∧ IsAll X h vs items
  | .dict ks vs, x => ∃ a kvs, x = .ref a ∧ ¬ X a ∧ IsD h a kvs ∧ kvs.map (·.1) = ks ∧ IsAll X h vs (kvs.map (·.2))
  | .mlist _, _ => False
  | .mdict _ _, _ => False
noncomputable def IsAll (X : Addr → Prop) (h : Heap) : List V → List Value → Prop
  | [], [] => True
  | v :: vs, x :: xs => Is X h v x ∧ IsAll X h vs xs
  | _, _ => False
end

theorem IsAll.length {X : Addr → Prop} {h : Heap} : ∀ {vs : List V} {xs : List Value}, IsAll X h vs xs → vs.length = xs.length
  | [], [], _ => rfl
  | _ :: _, _ :: _, H => by
    simp only [IsAll] at H
    simp [IsAll.length H.2]
  | [], _ :: _, H => by simp only [IsAll] at H
  | _ :: _, [], H => by simp only [IsAll] at H
theorem IsAll.get {X : Addr → Prop} {h : Heap} : ∀ {vs : List V} {xs : List Value} (_ : IsAll X h vs xs) {i : Nat} {v : V}, vs[i]? = some v → ∃ x, xs[i]? = some x ∧ Is X h v x
  | [], [], _, i, v, e => by simp at e
  | _ :: _, x :: _, H, 0, v, e => by
    simp only [IsAll] at H
    simp at e; subst e
    exact ⟨x, rfl, H.1⟩
  | _ :: _, _ :: _, H, i + 1, v, e => by
    simp only [IsAll] at H
    simp only [List.getElem?_cons_succ] at e ⊢
    exact IsAll.get H.2 e
  | [], _ :: _, H, _, _, _ => by simp only [IsAll] at H
  | _ :: _, [], H, _, _, _ => by simp only [IsAll] at H
theorem IsAll.append {X : Addr → Prop} {h : Heap} : ∀ {vs : List V} {xs : List Value} {vs' : List V} {xs' : List Value}, IsAll X h vs xs → IsAll X h vs' xs' → IsAll X h (vs ++ vs') (xs ++ xs')
  | [], [], _, _, _, H' => H'
  | _ :: _, _ :: _, _, _, H, H' => by
    simp only [IsAll, List.cons_append] at H ⊢
    exact ⟨H.1, IsAll.append H.2 H'⟩
  | [], _ :: _, _, _, H, _ => by simp only [IsAll] at H
  | _ :: _, [], _, _, H, _ => by simp only [IsAll] at H
theorem IsAll.reverse {X : Addr → Prop} {h : Heap} : ∀ {vs : List V} {xs : List Value}, IsAll X h vs xs → IsAll X h vs.reverse xs.reverse
  | [], [], H => H
  | _ :: _, _ :: _, H => by
    simp only [IsAll, List.reverse_cons] at H ⊢
    exact IsAll.append (IsAll.reverse H.2) (by simp only [IsAll, and_true]; exact H.1)
  | [], _ :: _, H => by simp only [IsAll] at H
  | _ :: _, [], H => by simp only [IsAll] at H
theorem IsAll.take {X : Addr → Prop} {h : Heap} : ∀ (n : Nat) {vs : List V} {xs : List Value}, IsAll X h vs xs → IsAll X h (vs.take n) (xs.take n)
  | 0, _, _, _ => by simp only [List.take_zero, IsAll]
  | _ + 1, [], [], _ => by simp only [List.take_nil, IsAll]
  | n + 1, _ :: _, _ :: _, H => by
    simp only [IsAll, List.take_succ_cons] at H ⊢
    exact ⟨H.1, IsAll.take n H.2⟩
  | _ + 1, [], _ :: _, H => by simp only [IsAll] at H
  | _ + 1, _ :: _, [], H => by simp only [IsAll] at H
theorem IsAll.drop {X : Addr → Prop} {h : Heap} : ∀ (n : Nat) {vs : List V} {xs : List Value}, IsAll X h vs xs → IsAll X h (vs.drop n) (xs.drop n)
  | 0, _, _, H => H
  | _ + 1, [], [], _ => by simp only [List.drop_nil, IsAll]
  | n + 1, _ :: _, _ :: _, H => by
    simp only [IsAll, List.drop_succ_cons] at H ⊢
    exact IsAll.drop n H.2
  | _ + 1, [], _ :: _, H => by simp only [IsAll] at H
  | _ + 1, _ :: _, [], H => by simp only [IsAll] at H
theorem IsAll.set {X : Addr → Prop} {h : Heap} {v : V} {x : Value} (hv : Is X h v x) : ∀ (n : Nat) {vs : List V} {xs : List Value}, IsAll X h vs xs → IsAll X h (vs.set n v) (xs.set n x)
  | _, [], [], _ => by simp only [List.set_nil, IsAll]
  | 0, _ :: _, _ :: _, H => by
    simp only [IsAll, List.set_cons_zero] at H ⊢
    exact ⟨hv, H.2⟩
  | n + 1, _ :: _, _ :: _, H => by
    simp only [IsAll, List.set_cons_succ] at H ⊢
    exact ⟨H.1, IsAll.set hv n H.2⟩
  | _, [], _ :: _, H => by simp only [IsAll] at H
  | _, _ :: _, [], H => by simp only [IsAll] at H
theorem IsAll.of_get {X : Addr → Prop} {h : Heap} : ∀ {vs : List V} {xs : List Value}, vs.length = xs.length → (∀ (i : Nat) (v : V) (x : Value), vs[i]? = some v → xs[i]? = some x → Is X h v x) → IsAll X h vs xs
  | [], [], _, _ => by simp only [IsAll]
  | v :: vs, x :: xs, hl, H => by
    simp only [IsAll]
    exact ⟨H 0 v x rfl rfl, IsAll.of_get (by simpa using hl) fun i v x e e' => H (i + 1) v x (by simpa using e) (by simpa using e')⟩
  | [], _ :: _, hl, _ => by simp at hl
  | _ :: _, [], hl, _ => by simp at hl

/-- the general change of a heap and of what is shut out -/
theorem IsD.keep {h h' : Heap} {a : Addr} {kvs : List (Int × Value)} (x : IsD h a kvs) (e : ∀ o, h.get? a = some o → h'.get? a = some o) : IsD h' a kvs :=
  let ⟨hs, p, w, ep, o, es, ho, r⟩ := x; ⟨hs, p, w, ep, o, es, e o ho, r⟩
theorem isList_at {h h' : Heap} {a : Addr} {xs : Array Value} (x : h.IsList a xs) (e : ∀ o, h.get? a = some o → h'.get? a = some o) : h'.IsList a xs :=
  let ⟨o, ho, r⟩ := x; ⟨o, e o ho, r⟩
theorem isTup_at {h h' : Heap} {a : Addr} {xs : Array Value} (x : IsTup h a xs) (e : ∀ o, h.get? a = some o → h'.get? a = some o) : IsTup h' a xs :=
  let ⟨o, ho, r⟩ := x; ⟨o, e o ho, r⟩
noncomputable def ValObj (o : Obj) : Prop := o.cls = .type "list" ∨ o.cls = .type "tuple" ∨ o.cls = .type "dict"

mutual
theorem Is.toV {X X' : Addr → Prop} {h h' : Heap} (hX : ∀ a o, h.get? a = some o → ValObj o → ¬ X a → ¬ X' a ∧ h'.get? a = some o) : ∀ {v : V} {x : Value}, Is X h v x → Is X' h' v x
  | .unb, _, H => by simp only [Is] at H
  | .none, _, H => by simp only [Is] at H ⊢; exact H
  | .bool _, _, H => by simp only [Is] at H ⊢; exact H
  | .int _, _, H => by simp only [Is] at H ⊢; exact H
  | .list vs, x, H => by
    simp only [Is] at H ⊢
    obtain ⟨a, items, e, n, ⟨ep, hl⟩, hz, hi⟩ := H
    have q := hX a _ hl (.inl rfl) n
    exact ⟨a, items, e, q.1, ⟨ep, q.2⟩, hz, IsAll.toV hX hi⟩
  | .tup vs, x, H => by
    simp only [Is] at H ⊢
    obtain ⟨a, items, e, n, hl, hi⟩ := H
    obtain ⟨o, ho, hc, _⟩ := id hl
    have q := hX a _ ho (.inr (.inl hc)) n
    exact ⟨a, items, e, q.1, isTup_at hl fun o' ho' => by rw [ho] at ho'; cases ho'; exact q.2, IsAll.toV hX hi⟩
  | .dict ks vs, x, H => by
    simp only [Is] at H ⊢
    obtain ⟨a, kvs, e, n, hl, hk, hi⟩ := H
    obtain ⟨_, _, _, _, o, _, ho, hc, _⟩ := id hl
    have q := hX a _ ho (.inr (.inr hc.1)) n
    exact ⟨a, kvs, e, q.1, hl.keep fun o' ho' => by rw [ho] at ho'; cases ho'; exact q.2, hk, IsAll.toV hX hi⟩
  | .mlist _, _, H => by simp only [Is] at H
  | .mdict _ _, _, H => by simp only [Is] at H
theorem IsAll.toV {X X' : Addr → Prop} {h h' : Heap} (hX : ∀ a o, h.get? a = some o → ValObj o → ¬ X a → ¬ X' a ∧ h'.get? a = some o) : ∀ {vs : List V} {xs : List Value}, IsAll X h vs xs → IsAll X' h' vs xs
  | [], [], _ => by simp only [IsAll]
  | _ :: _, _ :: _, H => by
    simp only [IsAll] at H ⊢
    exact ⟨Is.toV hX H.1, IsAll.toV hX H.2⟩
  | [], _ :: _, H => by simp only [IsAll] at H
  | _ :: _, [], H => by simp only [IsAll] at H
end
theorem Is.to {X X' : Addr → Prop} {h h' : Heap} (hX : ∀ a o, h.get? a = some o → ¬ X a → ¬ X' a ∧ h'.get? a = some o) {v : V} {x : Value} (H : Is X h v x) : Is X' h' v x := Is.toV (fun a o e _ n => hX a o e n) H
theorem IsAll.to {X X' : Addr → Prop} {h h' : Heap} (hX : ∀ a o, h.get? a = some o → ¬ X a → ¬ X' a ∧ h'.get? a = some o) {vs : List V} {xs : List Value} (H : IsAll X h vs xs) : IsAll X' h' vs xs := IsAll.toV (fun a o e _ n => hX a o e n) H
theorem Is.mono {X : Addr → Prop} {h h' : Heap} (k : h.StaysIn h') {v : V} {x : Value} (H : Is X h v x) : Is X h' v x := Is.to (fun a o ho n => ⟨n, k a o ho⟩) H
theorem IsAll.mono {X : Addr → Prop} {h h' : Heap} (k : h.StaysIn h') {v : List V} {x : List Value} (H : IsAll X h v x) : IsAll X h' v x := IsAll.to (fun a o ho n => ⟨n, k a o ho⟩) H

noncomputable def KeepBut (X : Addr → Prop) (h h' : Heap) : Prop := ∀ b o, ¬ X b → h.get? b = some o → h'.get? b = some o
theorem KeepBut.trans {X : Addr → Prop} {h₁ h₂ h₃ : Heap} (a : KeepBut X h₁ h₂) (b : KeepBut X h₂ h₃) : KeepBut X h₁ h₃ := fun c o n e => b c o n (a c o n e)
theorem KeepBut.refl {X : Addr → Prop} {h : Heap} : KeepBut X h h := fun _ _ _ e => e
theorem KeepBut.of {X : Addr → Prop} {h h' : Heap} (k : h.StaysIn h') : KeepBut X h h' := fun b o _ e => k b o e
theorem KeepBut.of_extBut {X : Addr → Prop} {h h' : Heap} {a : Addr} (hX : X a) (k : Heap.ExtBut a h h') : KeepBut X h h' := fun b o n e => k b o (fun q => n (q ▸ hX)) e
theorem Is.keepBut {X : Addr → Prop} {h h' : Heap} (k : KeepBut X h h') {v : V} {x : Value} (H : Is X h v x) : Is X h' v x := Is.to (fun a o ho n => ⟨n, k a o n ho⟩) H
theorem IsAll.keepBut {X : Addr → Prop} {h h' : Heap} (k : KeepBut X h h') {v : List V} {x : List Value} (H : IsAll X h v x) : IsAll X h' v x := IsAll.to (fun a o ho n => ⟨n, k a o n ho⟩) H
theorem Is.weaken {X X' : Addr → Prop} {h : Heap} (k : ∀ a, X' a → X a) {v : V} {x : Value} (H : Is X h v x) : Is X' h v x := Is.to (fun a _ ho n => ⟨fun q => n (k a q), ho⟩) H
theorem stays_refl {h : Heap} : h.StaysIn h := fun _ _ e => e
theorem stays_trans {h₁ h₂ h₃ : Heap} (a : h₁.StaysIn h₂) (b : h₂.StaysIn h₃) : h₁.StaysIn h₃ := fun c o e => b c o (a c o e)
theorem stays_push {h : Heap} (o : Obj) : h.StaysIn (h.push o) := fun _ _ e => Heap.get?_push_of_some o e

/-- the text's defs -/
noncomputable def fnAt (i : Nat) : Option (Str × Arguments × List Stmt × Scope) := match PySem.Challenge.pw_sa0105_01.main.body[i]? with
  | some (.FunctionDef name args body _ _ _ scope _ _ _) => some (name, args, body, scope)
  | _ => none

noncomputable def IsFn (h : Heap) (f : Addr) (name : Str) (params : Arguments) (body : List Stmt) (scope : Scope) : Prop :=
  ∃ fo doc pm an cdv ct, h.get? f = some fo ∧ fo.data = .func (fnX name name params body scope [] .none .none doc pm an cdv ct) ∧ h.CodeRec cdv name
theorem IsFn.keeps {h h' : Heap} {f : Addr} {name : Str} {params : Arguments} {body : List Stmt} {scope : Scope} (x : IsFn h f name params body scope) (k : h.StaysIn h') : IsFn h' f name params body scope :=
  let ⟨fo, doc, pm, an, cdv, ct, a, b, c⟩ := x; ⟨fo, doc, pm, an, cdv, ct, k _ _ a, b, c.keeps k⟩

structure GD where
  mg : Str → Option Value
  mb : Str → Option Value

noncomputable def builtinsUsed : List (Str × Value) := [("len", .builtin "len"), ("abs", .builtin "abs"), ("max", .builtin "max"), ("list", .type "list"), ("reversed", .type "reversed"), ("enumerate", .type "enumerate"), ("range", .type "range"), ("int", .type "int")]

structure GF (D : GD) (h : Heap) : Prop where
  g : h.Ns mainGlobals D.mg
  b : h.Ns builtinsNs D.mb
  nolimit : h.NoLimit
  fns : ∀ i nm ps bd sc, fnAt i = some (nm, ps, bd, sc) → ∃ a, D.mg nm = some (.ref a) ∧ IsFn h a nm ps bd sc
  bi : ∀ p ∈ builtinsUsed, D.mg p.1 = none ∧ D.mb p.1 = some p.2
theorem GF.keeps {D : GD} {h h' : Heap} (x : GF D h) (k : h.StaysIn h') : GF D h' :=
  ⟨x.g.keeps k, x.b.keeps k, x.nolimit.keeps k, fun i nm ps bd sc e => let ⟨a, b, c⟩ := x.fns i nm ps bd sc e; ⟨a, b, c.keeps k⟩, x.bi⟩

end
end Mine

/- B2 -/

namespace Mine
section

/-- what is fixed of a frame: its scope, its names in order, its own cells, the room below it -/
structure St where
  scope : Scope
  names : List Str
  own : List Str
  room : Nat
  mode : Nat

/-- what differs from call to call -/
structure Dyn where
  env : Env
  X : Addr → Prop
  ma : Option Addr
  base : Heap
  D : GD

noncomputable def Dyn.Xp (d : Dyn) : Addr → Prop := fun b => d.X b ∨ d.ma = some b

noncomputable def Holds (env : Env) (h : Heap) (m : Str → Option Value) (x : Str) (val : Value) : Prop :=
  (env.kindOf x = some .local ∧ m x = some val) ∨ ∃ c, (env.kindOf x = some .cell ∨ env.kindOf x = some .free) ∧ env.cells.lookup x = some c ∧ h.IsCell c (some val)

noncomputable def Val (d : Dyn) (h : Heap) (val : Value) : V → Prop
  | .mlist vs => ∃ a items, d.ma = some a ∧ val = .ref a ∧ h.PlainList a items.toArray ∧ items.length ≤ 4096 ∧ IsAll d.Xp h vs items
  | .mdict ks vs => ∃ a kvs, d.ma = some a ∧ val = .ref a ∧ IsD h a kvs ∧ kvs.map (·.1) = ks ∧ IsAll d.Xp h vs (kvs.map (·.2))
  | v => Is d.Xp h v val
noncomputable def VarOK (d : Dyn) (h : Heap) (m : Str → Option Value) (x : Str) (v : V) : Prop := v = .unb ∨ ∃ val, Holds d.env h m x val ∧ Val d h val v

structure Inv (C : St) (d : Dyn) (σ : List V) (h : Heap) : Prop where
  scope : d.env.scope = C.scope
  kind : C.scope.kind = .function
  globals : d.env.globals = mainGlobals
  builtins : d.env.builtins = builtinsNs
  gf : GF d.D d.base
  stays : d.base.StaysIn h
  xin : ∀ a, d.Xp a → ∃ o, h.get? a = some o
  lx : d.X d.env.locals
  lb : d.base.get? d.env.locals = none
  mb : ∀ a, d.ma = some a → d.base.get? a = none
  mx : ∀ a, d.ma = some a → ¬ d.X a
  m0 : C.mode = 0 → d.ma = none
  own : ∀ x ∈ C.own, d.env.kindOf x = some .cell ∧ ∃ c, d.env.cells.lookup x = some c ∧ d.X c ∧ d.base.get? c = none ∧ ∃ v₀, h.IsCell c v₀
  inj : ∀ x y c, d.env.cells.lookup x = some c → d.env.cells.lookup y = some c → x = y
  ndup : C.names.Nodup
  vars : ∃ m, h.Ns d.env.locals m ∧ ∀ (i : Nat) (x : Str) (v : V), C.names[i]? = some x → σ[i]? = some v → VarOK d h m x v

theorem Holds.keeps {env : Env} {h h' : Heap} {m : Str → Option Value} {x : Str} {val : Value} (H : Holds env h m x val) (k : h.StaysIn h') : Holds env h' m x val :=
  H.imp id fun ⟨c, a, b, e⟩ => ⟨c, a, b, e.keeps k⟩

theorem Val.toV {d d' : Dyn} {h h' : Heap} {val : Value} {v : V} (H : Val d h val v) (hm : ∀ a, d.ma = some a → d'.ma = some a ∧ ∀ o, h.get? a = some o → h'.get? a = some o)
    (hX : ∀ a o, h.get? a = some o → ValObj o → ¬ d.Xp a → ¬ d'.Xp a ∧ h'.get? a = some o) : Val d' h' val v := by
  cases v
  case mlist => obtain ⟨a, items, e, hh, hl, hz, hi⟩ := H; exact ⟨a, items, (hm a e).1, hh, hl.at (hm a e).2, hz, IsAll.toV hX hi⟩
  case mdict => obtain ⟨a, kvs, e, hh, hl, hk, hi⟩ := H; exact ⟨a, kvs, (hm a e).1, hh, hl.keep (hm a e).2, hk, IsAll.toV hX hi⟩
  all_goals exact Is.toV hX (show Is _ _ _ _ from H)

theorem Val.to {d d' : Dyn} {h h' : Heap} {val : Value} {v : V} (H : Val d h val v) (hm : ∀ a, d.ma = some a → d'.ma = some a ∧ ∀ o, h.get? a = some o → h'.get? a = some o)
    (hX : ∀ a o, h.get? a = some o → ¬ d.Xp a → ¬ d'.Xp a ∧ h'.get? a = some o) : Val d' h' val v := H.toV hm fun a o e _ n => hX a o e n
theorem Val.mono {d : Dyn} {h h' : Heap} {val : Value} {v : V} (H : Val d h val v) (k : h.StaysIn h') : Val d h' val v :=
  H.to (fun a e => ⟨e, fun o => k a o⟩) fun a o ho n => ⟨n, k a o ho⟩
theorem Val.of {d : Dyn} {h : Heap} {val : Value} {v : V} (H : Is d.Xp h v val) : Val d h val v := by
  cases v <;> first | exact H | (simp only [Is] at H)
theorem VarOK.keeps {d : Dyn} {h h' : Heap} {m : Str → Option Value} {x : Str} {v : V} (H : VarOK d h m x v) (k : h.StaysIn h') : VarOK d h' m x v :=
  H.imp id fun ⟨val, hh, hv⟩ => ⟨val, hh.keeps k, hv.mono k⟩

theorem Inv.mono {C : St} {d : Dyn} {σ : List V} {h h' : Heap} (I : Inv C d σ h) (k : h.StaysIn h') : Inv C d σ h' where
  scope := I.scope
  kind := I.kind
  globals := I.globals
  builtins := I.builtins
  gf := I.gf
  stays := stays_trans I.stays k
  xin := fun a x => let ⟨o, e⟩ := I.xin a x; ⟨o, k _ _ e⟩
  lx := I.lx
  lb := I.lb
  mb := I.mb
  mx := I.mx
  m0 := I.m0
  own := fun x hx => let ⟨q, c, a, b, e, v₀, f⟩ := I.own x hx; ⟨q, c, a, b, e, v₀, f.keeps k⟩
  inj := I.inj
  ndup := I.ndup
  vars := let ⟨m, n, H⟩ := I.vars; ⟨m, n.keeps k, fun i x v a b => (H i x v a b).keeps k⟩

theorem Inv.fresh {C : St} {d : Dyn} {σ : List V} {h : Heap} (I : Inv C d σ h) : ¬ d.Xp h.objs.size := fun x => by
  obtain ⟨o, e⟩ := I.xin _ x
  exact absurd (Heap.lt_size e) (Nat.lt_irrefl _)

noncomputable def Room (k : Nat) (A : Around) : Prop := A.handled = none ∧ A.depth + k < recursionLimit ∧ A.units + 16 * k + 80 < cLine
theorem Room.le {k n : Nat} {A : Around} (R : Room k A) (h : n ≤ k) : Room n A := ⟨R.1, by have := R.2.1; omega, by have := R.2.2; omega⟩

noncomputable def WantsV (X : Addr → Prop) (Q : Value → Shared → Prop) (s : Shared) : Option V → Prop
  | none => False
  | some v => ∀ x h tk, s.heap.StaysIn h → Is X h v x → Q x { s with heap := h, toks := tk }

/-- the frame property of a statement's end, and of a return -/
inductive R where
  | bad | next (σ : List V) | ret (v : V)

noncomputable def Xw (C : St) (d : Dyn) : Addr → Prop := fun b => d.X b ∨ (C.mode = 1 ∧ d.ma = some b)
theorem Xw_Xp {C : St} {d : Dyn} {b : Addr} (h : Xw C d b) : d.Xp b := h.imp id And.right
noncomputable def Wants (C : St) (d : Dyn) (Q : Flow → Shared → Prop) (s : Shared) : R → Prop
  | .bad => False
  | .next σ => ∀ h tk, KeepBut (Xw C d) s.heap h → Inv C d σ h → Q .next { s with heap := h, toks := tk }
  | .ret v => ∀ x h tk, KeepBut (Xw C d) s.heap h → d.base.StaysIn h → Is d.X h v x → Q (.ret x) { s with heap := h, toks := tk }

noncomputable def WantsB (Q : Bool → Shared → Prop) (s : Shared) : Option Bool → Prop
  | none => False
  | some b => ∀ h tk, s.heap.StaysIn h → Q b { s with heap := h, toks := tk }

section
variable (prog : Program) (w : World)
noncomputable def SimE (C : St) (e : Expr) (f : List V → Option V) : Prop :=
  ∀ (d : Dyn) (A : Around) (s : Shared) (σ : List V) (Q : Value → Shared → Prop) (E : Value → Shared → Prop), Room C.room A → Inv C d σ s.heap → WantsV d.Xp Q s (f σ) → wpAny (model prog w) A (eval e d.env) Q E s
noncomputable def SimT (C : St) (e : Expr) (f : List V → Option Bool) : Prop :=
  ∀ (d : Dyn) (A : Around) (s : Shared) (σ : List V) (Q : Bool → Shared → Prop) (E : Value → Shared → Prop), Room C.room A → Inv C d σ s.heap → WantsB Q s (f σ) → wpAny (model prog w) A (isTrue e d.env (eval e d.env)) Q E s
noncomputable def SimS (C : St) (st : Stmt) (f : List V → R) : Prop :=
  ∀ (d : Dyn) (A : Around) (s : Shared) (σ : List V) (Q : Flow → Shared → Prop) (E : Value → Shared → Prop), Room C.room A → Inv C d σ s.heap → Wants C d Q s (f σ) → wpAny (model prog w) A (exec st d.env) Q E s
noncomputable def SimB (C : St) (b : List Stmt) (f : List V → R) : Prop :=
  ∀ (d : Dyn) (A : Around) (s : Shared) (σ : List V) (Q : Flow → Shared → Prop) (E : Value → Shared → Prop), Room C.room A → Inv C d σ s.heap → Wants C d Q s (f σ) → wpAny (model prog w) A (execs b d.env) Q E s
end

noncomputable def V.ok : V → Option V
  | .unb => Option.none
  | .mlist _ => Option.none
  | .mdict _ _ => Option.none
  | v => Option.some v
noncomputable def getV : List V → Nat → Option V
  | v :: _, 0 => v.ok
  | _ :: r, n + 1 => getV r n
  | [], _ => none
theorem getV_some : ∀ {σ : List V} {i : Nat} {v : V}, getV σ i = some v → σ[i]? = some v ∧ v.ok = some v
  | u :: r, 0, v, h => by
    have h : u.ok = some v := h
    have e : u = v := by cases u <;> first | exact Option.some.inj h | cases h
    subst e
    exact ⟨rfl, h⟩
  | _ :: r, n + 1, v, h => by simpa using getV_some (σ := r) (i := n) h
  | [], _, v, h => by simp [getV] at h

variable {prog : Program} {w : World} {C : St}

/-- use of a simulation where the denotation is known to come out -/
theorem SimE.run {e : Expr} {f : List V → Option V} (H : SimE prog w C e f) {d : Dyn} {A : Around} {s : Shared} {σ : List V} {Q : Value → Shared → Prop} {E : Value → Shared → Prop} {v : V} (rm : Room C.room A) (I : Inv C d σ s.heap)
    (hv : f σ = some v) (h : ∀ x h tk, s.heap.StaysIn h → Is d.Xp h v x → Inv C d σ h → Q x { s with heap := h, toks := tk }) : wpAny (model prog w) A (eval e d.env) Q E s :=
  H d A s σ Q E rm I (by rw [hv]; exact fun x h' tk k hx => h x h' tk k hx (I.mono k))
theorem SimT.run {e : Expr} {f : List V → Option Bool} (H : SimT prog w C e f) {d : Dyn} {A : Around} {s : Shared} {σ : List V} {Q : Bool → Shared → Prop} {E : Value → Shared → Prop} {v : Bool} (rm : Room C.room A) (I : Inv C d σ s.heap)
    (hv : f σ = some v) (h : ∀ h tk, s.heap.StaysIn h → Inv C d σ h → Q v { s with heap := h, toks := tk }) : wpAny (model prog w) A (isTrue e d.env (eval e d.env)) Q E s :=
  H d A s σ Q E rm I (by rw [hv]; exact fun h' tk k => h h' tk k (I.mono k))

theorem loadName_holds {d : Dyn} {A : Around} {s : Shared} {σ : List V} {Q : Value → Shared → Prop} {E : Value → Shared → Prop} {x : Str} {val : Value} {m : Str → Option Value} (I : Inv C d σ s.heap)
    (hn : s.heap.Ns d.env.locals m) (H : Holds d.env s.heap m x val) (hc : (x == ("__classdict__" : Str)) = false) (h : Q val s) : wpAny (model prog w) A (loadName d.env x) Q E s := by
  have hk : d.env.scope.kind = .function := by rw [I.scope]; exact I.kind
  rcases H with ⟨hl, hv⟩ | ⟨c, hl | hl, hc', hv⟩
  · exact wpAny_loadName_local hk hl hn hv h
  · exact wpAny_loadName_cell hk hl hc' hv h
  · exact wpAny_loadName_free hk hl hc' hv h hc

noncomputable def plainName (x : Str) : Bool := !(x == ("__debug__" : Str)) && !(x == ("__classdict__" : Str))
theorem plainName_d {x : Str} (h : plainName x = true) : (x == ("__debug__" : Str)) = false := by
  unfold plainName at h; simp at h; simpa using h.1
theorem plainName_c {x : Str} (h : plainName x = true) : (x == ("__classdict__" : Str)) = false := by
  unfold plainName at h; simp at h; simpa using h.2

theorem SimE.var {x : Str} {pos : Pos} (i : Nat) (hx : C.names[i]? = some x) (hp : plainName x = true := by decide +kernel) : SimE prog w C (.Name x pos) (fun σ => getV σ i) := by
  intro d A s σ Q E rm I W
  dsimp only at W
  cases hv : getV σ i with
  | none => rw [hv] at W; exact W.elim
  | some v =>
    rw [hv] at W
    obtain ⟨h1, h2⟩ := getV_some hv
    obtain ⟨m, hn, H⟩ := I.vars
    have q := H i x v hx h1
    have : ∃ val, Holds d.env s.heap m x val ∧ Is d.Xp s.heap v val := by
      rcases q with rfl | q
      · simp [V.ok] at h2
      · cases v <;> first | exact q | (simp [V.ok] at h2)
    obtain ⟨val, hh, hi⟩ := this
    refine wpAny_Name ?_ (plainName_d hp)
    exact loadName_holds I hn hh (plainName_c hp) (W val s.heap s.toks stays_refl hi)

theorem SimE.int {i : Int} {k : Nat} {pos : Pos} : SimE prog w C (.Constant (.int i) k pos) (fun _ => some (.int i)) := by
  intro d A s σ Q E rm I W
  dsimp only at W
  exact wpAny_Constant_int (W _ s.heap _ stays_refl (by simp only [Is]; exact ⟨_, rfl⟩))
theorem SimE.noneC {k : Nat} {pos : Pos} : SimE prog w C (.Constant .none k pos) (fun _ => some .none) := by
  intro d A s σ Q E rm I W
  dsimp only at W
  exact (show wpAny _ _ (pure Value.none) _ _ _ from wpAny_pure (W _ s.heap s.toks stays_refl (by simp only [Is])))
theorem SimE.bool {b : Bool} {k : Nat} {pos : Pos} : SimE prog w C (.Constant (.bool b) k pos) (fun _ => some (.bool b)) := by
  intro d A s σ Q E rm I W
  dsimp only at W
  exact (show wpAny _ _ (pure (Value.bool b)) _ _ _ from wpAny_pure (W _ s.heap s.toks stays_refl (by simp only [Is])))

/- sizes -/
noncomputable def smallI (a : Int) : Bool := Nat.ble a.natAbs (2 ^ 250)
theorem smallI_log {a : Int} (h : smallI a = true) : a.natAbs.log2 ≤ 250 := by
  have h' : a.natAbs ≤ 2 ^ 250 := Nat.le_of_ble_eq_true h
  by_cases h0 : a.natAbs = 0
  · rw [h0]; decide +kernel
  · have : a.natAbs.log2 < 251 := (Nat.log2_lt h0).mpr (Nat.lt_of_le_of_lt h' (by decide +kernel))
    omega
theorem smallI_bits {a : Int} (h : smallI a = true) : Builtin.Int.intBits a ≤ 251 := by
  have := smallI_log h
  unfold Builtin.Int.intBits
  split <;> omega

end
end Mine

/- B3 -/

namespace Mine
section

theorem sizeLine_ge : 4096 ≤ sizeLine := by rw [sizeLine_eq]; decide

theorem new_list {X : Addr → Prop} {h : Heap} {vs : List V} {items : List Value} (hi : IsAll X h vs items) (hz : items.length ≤ 4096) (hX : ¬ X h.objs.size) :
    Is X (h.push { cls := .type "list", data := .seq items.toArray }) (.list vs) (.ref h.objs.size) := by
  simp only [Is]
  exact ⟨_, items, rfl, hX, ⟨0, Heap.get?_push_size _ rfl⟩, hz, hi.mono (stays_push _)⟩
theorem new_tup {X : Addr → Prop} {h : Heap} {vs : List V} {items : List Value} (hi : IsAll X h vs items) (hX : ¬ X h.objs.size) :
    Is X (h.push { cls := .type "tuple", data := .seq items.toArray }) (.tup vs) (.ref h.objs.size) := by
  simp only [Is]
  exact ⟨_, items, rfl, hX, ⟨_, Heap.get?_push_size _ rfl, rfl, 0, rfl⟩, hi.mono (stays_push _)⟩

noncomputable def okL (vs : List V) : Option V := match Nat.ble vs.length 4096 with
  | true => some (.list vs)
  | false => none
theorem okL_some {vs : List V} {v : V} (h : okL vs = some v) : v = .list vs ∧ vs.length ≤ 4096 := by
  unfold okL at h
  split at h
  · rename_i e
    exact ⟨(Option.some.inj h).symm, Nat.le_of_ble_eq_true e⟩
  · cases h

noncomputable def rep : Nat → List V → List V
  | 0, _ => []
  | n + 1, vs => vs ++ rep n vs
theorem rep_is {X : Addr → Prop} {h : Heap} {vs : List V} {xs : List Value} (H : IsAll X h vs xs) : ∀ n, IsAll X h (rep n vs) (List.replicate n xs).flatten
  | 0 => by simp only [rep, List.replicate_zero, List.flatten_nil, IsAll]
  | n + 1 => by
    rw [List.replicate_succ, List.flatten_cons]
    exact IsAll.append H (rep_is H n)
theorem rep_length (vs : List V) : ∀ n, (rep n vs).length = vs.length * n
  | 0 => rfl
  | n + 1 => by
    show (vs ++ rep n vs).length = _
    rw [List.length_append, rep_length vs n, Nat.mul_succ]; omega

noncomputable def intOp (f : Int → Int → Option V) : V → V → Option V
  | .int a, .int b => f a b
  | _, _ => none
noncomputable def mulI (a b : Int) : Option V := match smallI a && smallI b with
  | true => some (.int (a * b))
  | false => none
noncomputable def divI (a b : Int) : Option V := match !decide (b = 0) && smallI b with
  | true => some (.int (a.fdiv b))
  | false => none
noncomputable def modI (a b : Int) : Option V := match decide (b = 0) with
  | true => none
  | false => some (.int (a.fmod b))
noncomputable def powI (a n : Int) : Option V := match smallI a && (decide (0 ≤ n) && decide (n ≤ 1000)) with
  | true => some (.int (a ^ n.toNat))
  | false => none
noncomputable def addV : V → V → Option V
  | .list a, .list b => okL (a ++ b)
  | a, b => intOp (fun a b => some (.int (a + b))) a b
noncomputable def repL (a : List V) (n : Int) : Option V := match decide (-4096 ≤ n) && decide (n ≤ 4096) with
  | true => okL (rep n.toNat a)
  | false => none
noncomputable def mulV : V → V → Option V
  | .list a, .int n => repL a n
  | a, b => intOp mulI a b
noncomputable def opV : Operator → V → V → Option V
  | .Add => addV
  | .Sub => intOp (fun a b => some (.int (a - b)))
  | .Mult => mulV
  | .FloorDiv => intOp divI
  | .Mod => intOp modI
  | .Pow => intOp powI
  | _ => fun _ _ => none
theorem intOp_some {f : Int → Int → Option V} {a b c : V} (h : intOp f a b = some c) : ∃ x y, a = .int x ∧ b = .int y ∧ f x y = some c := by
  unfold intOp at h
  split at h
  · exact ⟨_, _, rfl, rfl, h⟩
  · cases h
theorem addV_some {a b c : V} (h : addV a b = some c) : (∃ x y, a = .list x ∧ b = .list y ∧ okL (x ++ y) = some c) ∨ ∃ x y, a = .int x ∧ b = .int y ∧ some (V.int (x + y)) = some c := by
  unfold addV at h
  split at h
  · exact .inl ⟨_, _, rfl, rfl, h⟩
  · exact .inr (intOp_some h)
theorem mulV_some {a b c : V} (h : mulV a b = some c) : (∃ x n, a = .list x ∧ b = .int n ∧ repL x n = some c) ∨ ∃ x y, a = .int x ∧ b = .int y ∧ mulI x y = some c := by
  unfold mulV at h
  split at h
  · exact .inl ⟨_, _, rfl, rfl, h⟩
  · exact .inr (intOp_some h)
theorem repL_some {x : List V} {n : Int} {c : V} (h : repL x n = some c) : -4096 ≤ n ∧ n ≤ 4096 ∧ okL (rep n.toNat x) = some c := by
  unfold repL at h
  split at h
  · rename_i q
    rw [Bool.and_eq_true, decide_eq_true_eq, decide_eq_true_eq] at q
    exact ⟨q.1, q.2, h⟩
  · cases h

section
variable {prog : Program} {w : World} {A : Around} {E : Value → Shared → Prop} {s : Shared} {X : Addr → Prop}
theorem is_int {h : Heap} {i : Int} {t : Tok} : Is X h (.int i) (.int i t) := by simp only [Is]; exact ⟨t, rfl⟩
theorem is_bool {h : Heap} {b : Bool} : Is X h (.bool b) (.bool b) := by simp only [Is]

theorem mul_list_raw {l : Addr} {vs : List Value} {k : Nat} {x : Int} {u : Tok} {Q : Value → Shared → Prop} (ho : s.heap.get? l = some { cls := .type "list", data := .seq vs.toArray k })
    (hlo : -(2 ^ 63 : Int) ≤ x) (hhi : x < 2 ^ 63) (hsz : vs.length * x.toNat ≤ 2 ^ 24)
    (h : Q (.ref s.heap.objs.size) { s with heap := s.heap.push { cls := .type "list", data := .seq (List.replicate x.toNat vs).flatten.toArray } }) : wpAny (model prog w) A (binaryOp .Mult (.ref l) (.int x u)) Q E s := by
  have hsz' : vs.toArray.size * x.toNat ≤ 2 ^ 24 := by simpa using hsz
  refine wpAny_binaryOp_repeat_ref (T := "list") (U := "int") (by decide) ⟨_, ho, rfl⟩ (fun s' => typeIs_int s' x u) noFill_list_mul F.fills_int_mul F.slot_int_rmul repeat_list F.slot_int_index.lookup
    (call_meets F.slot_int_rmul (typeIs_int s x u) F.entry_int_rmul (F.args_int_rmul_2 _ _) (lm_int_rmul_list_any x u l vs.toArray k none #[])
      ⟨ho, rfl, ⟨_, ho, rfl⟩, call_meets F.slot_list_mul ⟨_, ho, rfl⟩ F.entry_list_mul (F.args_list_mul_2 _ _)
        (lm_list_mul_any l vs.toArray k none #[] x u (by simp [Builtin.List.listFitsIndex]; omega) (by omega) (by simp [Builtin.List.listTooLong, sizeLine]; omega))
        ⟨ho, ?_⟩⟩)
  rw [listMul_foldl_if]
  exact h

theorem opV_ok {op : Operator} {a b c : V} {x y : Value} {Q : Value → Shared → Prop} (e : opV op a b = some c) (hx : Is X s.heap a x) (hy : Is X s.heap b y) (hX : ¬ X s.heap.objs.size)
    (h : ∀ z h' tk, s.heap.StaysIn h' → Is X h' c z → Q z { s with heap := h', toks := tk }) : wpAny (model prog w) A (binaryOp op x y) Q E s := by
  have viaI : ∀ {f : Int → Int → Option V}, intOp f a b = some c → (∀ p q t u, f p q = some c → wpAny (model prog w) A (binaryOp op (.int p t) (.int q u)) Q E s) → wpAny (model prog w) A (binaryOp op x y) Q E s := by
    intro f e k
    obtain ⟨p, q, rfl, rfl, e'⟩ := intOp_some e
    simp only [Is] at hx hy
    obtain ⟨t, rfl⟩ := hx
    obtain ⟨u, rfl⟩ := hy
    exact k p q t u e'
  cases op <;> try (cases e; done)
  case Add =>
    rcases addV_some e with ⟨vs, us, rfl, rfl, e'⟩ | ⟨p, q, rfl, rfl, e'⟩
    · obtain ⟨rfl, hz⟩ := okL_some e'
      simp only [Is] at hx hy
      obtain ⟨l, xs, rfl, _, ⟨n, hl⟩, hzl, hi⟩ := hx
      obtain ⟨m, ys, rfl, _, ⟨n', hm⟩, hzm, hj⟩ := hy
      have hsz : xs.length + ys.length ≤ 4096 := by rw [List.length_append, hi.length, hj.length] at hz; exact hz
      refine P.add_list hl hm (by rw [List.append_toArray]; exact h _ _ s.toks (stays_push _) (new_list (hi.append hj) (by rw [List.length_append]; exact hsz) hX)) ?_
      simp only [List.size_toArray]
      exact Nat.le_trans hsz sizeLine_ge
    · cases e'
      simp only [Is] at hx hy
      obtain ⟨t, rfl⟩ := hx
      obtain ⟨u, rfl⟩ := hy
      exact P.add_int (h _ s.heap _ stays_refl is_int)
  case Sub => exact viaI e fun p q t u e' => by cases e'; exact P.sub_int (h _ s.heap _ stays_refl is_int)
  case Mult =>
    rcases mulV_some e with ⟨vs, n, rfl, rfl, e'⟩ | ⟨p, q, rfl, rfl, e'⟩
    · obtain ⟨q1, q2, e''⟩ := repL_some e'
      obtain ⟨rfl, hz⟩ := okL_some e''
      simp only [Is] at hx hy
      obtain ⟨l, xs, rfl, _, ⟨k, hl⟩, hzl, hi⟩ := hx
      obtain ⟨u, rfl⟩ := hy
      have hl2 : (List.replicate n.toNat xs).flatten.length ≤ 4096 := by rw [← (rep_is hi n.toNat).length]; exact hz
      have hb : xs.length * n.toNat ≤ 2 ^ 24 := by
        rw [← hi.length, ← rep_length]
        exact Nat.le_trans hz (by decide)
      exact mul_list_raw hl (by omega) (by omega) hb (h _ _ s.toks (stays_push _) (new_list (rep_is hi _) hl2 hX))
    · unfold mulI at e'
      split at e'
      · rename_i q
        cases e'
        rw [Bool.and_eq_true] at q
        simp only [Is] at hx hy
        obtain ⟨t, rfl⟩ := hx
        obtain ⟨u, rfl⟩ := hy
        exact P.mul_int (h _ s.heap _ stays_refl is_int) (mulOk_of_bits (smallI_bits q.1) (smallI_bits q.2) (by decide))
      · cases e'
  case FloorDiv =>
    refine viaI e fun p q t u e' => ?_
    unfold divI at e'
    split at e'
    · rename_i qq
      cases e'
      rw [Bool.and_eq_true, Bool.not_eq_true'] at qq
      exact floordiv_int (of_decide_eq_false qq.1) (h _ s.heap _ stays_refl is_int) (Or.inl (PyProof.noPylong_of_log2 (by have := smallI_log qq.2; omega)))
    · cases e'
  case Mod =>
    refine viaI e fun p q t u e' => ?_
    unfold modI at e'
    split at e'
    · cases e'
    · rename_i qq
      cases e'
      exact mod_int' (of_decide_eq_false qq) (h _ s.heap _ stays_refl is_int)
  case Pow =>
    refine viaI e fun p q t u e' => ?_
    unfold powI at e'
    split at e'
    · rename_i qq
      cases e'
      simp only [Bool.and_eq_true, decide_eq_true_eq] at qq
      refine pow_int qq.2.1 ?_ (h _ s.heap _ stays_refl is_int)
      have hb := smallI_bits qq.1
      have : (Builtin.Int.intBits p : Int) * q ≤ 251 * 1000 := Int.mul_le_mul (by omega) qq.2.2 qq.2.1 (by decide)
      omega
    · cases e'
end

variable {prog : Program} {w : World} {C : St}

theorem SimE.bin {l r : Expr} {op : Operator} {pos : Pos} {fl fr : List V → Option V} (hl : SimE prog w C l fl) (hr : SimE prog w C r fr) :
    SimE prog w C (.BinOp l op r pos) (fun σ => match fl σ with
      | some a => (match fr σ with
        | some b => opV op a b
        | none => none)
      | none => none) := by
  intro d A s σ Q E rm I W
  dsimp only at W
  refine wpAny_BinOp ?_
  cases e1 : fl σ with
  | none => rw [e1] at W; exact W.elim
  | some a =>
    cases e2 : fr σ with
    | none => rw [e1, e2] at W; exact W.elim
    | some b =>
      cases e3 : opV op a b with
      | none => rw [e1, e2] at W; dsimp only at W; rw [e3] at W; exact W.elim
      | some c =>
        rw [e1, e2] at W
        dsimp only at W
        rw [e3] at W
        refine hl.run rm I e1 fun x h tk k hx I1 => ?_
        refine hr.run (s := { s with heap := h, toks := tk }) rm I1 e2 fun y h2 tk2 k2 hy I2 => ?_
        exact opV_ok (s := { s with heap := h2, toks := tk2 }) e3 (hx.mono k2) hy I2.fresh fun z h3 tk3 k3 hz => W z h3 tk3 (stays_trans (stays_trans k k2) k3) hz

noncomputable def negV : V → Option V
  | .int a => some (.int (-a))
  | _ => none
theorem SimE.neg {e : Expr} {pos : Pos} {f : List V → Option V} (H : SimE prog w C e f) :
    SimE prog w C (.UnaryOp .USub e pos) (fun σ => match f σ with
      | some a => negV a
      | none => none) := by
  intro d A s σ Q E rm I W
  dsimp only at W
  refine wpAny_UnaryOp ?_
  cases e1 : f σ with
  | none => rw [e1] at W; exact W.elim
  | some a =>
    rw [e1] at W
    dsimp only at W
    refine H.run rm I e1 fun x h tk k hx I1 => ?_
    cases a <;> simp only [negV, WantsV] at W
    simp only [Is] at hx
    obtain ⟨t, rfl⟩ := hx
    exact P.neg_int (W _ h _ k is_int)

end
end Mine

/- B4 -/

namespace Mine
section

noncomputable def intsOf : List V → Option (List Int)
  | [] => some []
  | .int i :: r => match intsOf r with
    | some l => some (i :: l)
    | none => none
  | _ :: _ => none
theorem intsOf_are {X : Addr → Prop} {h : Heap} : ∀ {vs : List V} {xs : List Value} {ns : List Int}, intsOf vs = some ns → IsAll X h vs xs → IntsAre xs ns
  | [], [], ns, e, _ => by cases e; exact .nil
  | .int i :: r, x :: xs, ns, e, H => by
    simp only [intsOf] at e
    simp only [IsAll, Is] at H
    obtain ⟨⟨t, rfl⟩, H⟩ := H
    cases e' : intsOf r with
    | none => rw [e'] at e; cases e
    | some l =>
      rw [e'] at e
      cases e
      exact .cons _ _ (intsOf_are e' H)
  | [], _ :: _, _, _, H => by simp only [IsAll] at H
  | _ :: _, [], _, _, H => by simp only [IsAll] at H
  | .unb :: _, _ :: _, _, e, _ => by cases e
  | .none :: _, _ :: _, _, e, _ => by cases e
  | .bool _ :: _, _ :: _, _, e, _ => by cases e
  | .list _ :: _, _ :: _, _, e, _ => by cases e
  | .tup _ :: _, _ :: _, _, e, _ => by cases e
  | .dict _ _ :: _, _ :: _, _, e, _ => by cases e
  | .mlist _ :: _, _ :: _, _, e, _ => by cases e
  | .mdict _ _ :: _, _ :: _, _, e, _ => by cases e

noncomputable def eqL (a b : List V) : Option Bool := match intsOf a with
  | some ns => (match intsOf b with
    | some ms => some (decide (ns = ms))
    | none => none)
  | none => none

noncomputable def isNone : V → Option Bool
  | .none => some true
  | .int _ => some false
  | .list _ => some false
  | _ => none

noncomputable def intCmp (f : Int → Int → Bool) : V → V → Option Bool
  | .int a, .int b => some (f a b)
  | _, _ => none
noncomputable def eqV : V → V → Option Bool
  | .list a, .list b => eqL a b
  | a, b => intCmp (fun a b => a == b) a b
noncomputable def isV (a : V) : V → Option Bool
  | .none => isNone a
  | _ => none
noncomputable def notO : Option Bool → Option Bool
  | some c => some (!c)
  | none => none
noncomputable def cmpV : CmpOp → V → V → Option Bool
  | .Eq => eqV
  | .NotEq => fun a b => notO (eqV a b)
  | .Lt => intCmp (fun a b => decide (a < b))
  | .LtE => intCmp (fun a b => decide (a ≤ b))
  | .Gt => intCmp (fun a b => decide (a > b))
  | .GtE => intCmp (fun a b => decide (a ≥ b))
  | .Is => isV
  | .IsNot => fun a b => notO (isV a b)
  | _ => fun _ _ => none
theorem intCmp_some {f : Int → Int → Bool} {a b : V} {c : Bool} (h : intCmp f a b = some c) : ∃ x y, a = .int x ∧ b = .int y ∧ f x y = c := by
  unfold intCmp at h
  split at h
  · exact ⟨_, _, rfl, rfl, Option.some.inj h⟩
  · cases h
theorem eqV_some {a b : V} {c : Bool} (h : eqV a b = some c) : (∃ x y, a = .list x ∧ b = .list y ∧ eqL x y = some c) ∨ ∃ x y, a = .int x ∧ b = .int y ∧ (x == y) = c := by
  unfold eqV at h
  split at h
  · exact .inl ⟨_, _, rfl, rfl, h⟩
  · exact .inr (intCmp_some h)
theorem isV_some {a b : V} {c : Bool} (h : isV a b = some c) : b = .none ∧ isNone a = some c := by
  unfold isV at h
  split at h
  · exact ⟨rfl, h⟩
  · cases h
theorem notO_some {o : Option Bool} {c : Bool} (h : notO o = some c) : ∃ c', o = some c' ∧ c = !c' := by
  unfold notO at h
  split at h
  · exact ⟨_, rfl, (Option.some.inj h).symm⟩
  · cases h

section
variable {prog : Program} {w : World} {A : Around} {E : Value → Shared → Prop} {s : Shared} {X : Addr → Prop} {h : Heap}
theorem eqL_some {a b : List V} {c : Bool} (e : eqL a b = some c) : ∃ ns ms, intsOf a = some ns ∧ intsOf b = some ms ∧ c = decide (ns = ms) := by
  unfold eqL at e
  cases e1 : intsOf a with
  | none => rw [e1] at e; cases e
  | some ns =>
    cases e2 : intsOf b with
    | none => rw [e1, e2] at e; cases e
    | some ms => rw [e1, e2] at e; cases e; exact ⟨ns, ms, rfl, rfl, rfl⟩
theorem isNone_is {a : V} {c : Bool} {x : Value} (e : isNone a = some c) (hx : Is X h a x) : (x == .none) = c := by
  unfold isNone at e
  split at e <;> cases e
  · simp only [Is] at hx; subst hx; rfl
  · simp only [Is] at hx; obtain ⟨t, rfl⟩ := hx; rfl
  · simp only [Is] at hx; obtain ⟨t, _, rfl, _⟩ := hx; rfl
theorem cmpV_ok {op : CmpOp} {a b : V} {c : Bool} {x y : Value} {Q : Value → Shared → Prop} (e : cmpV op a b = some c) (hu : A.units + 64 < cLine) (hx : Is X s.heap a x) (hy : Is X s.heap b y)
    (h : Q (.bool c) s) : wpAny (model prog w) A (compareOp op x y) Q E s := by
  have viaI : ∀ {f : Int → Int → Bool}, intCmp f a b = some c → (∀ p q t u, f p q = c → wpAny (model prog w) A (compareOp op (.int p t) (.int q u)) Q E s) → wpAny (model prog w) A (compareOp op x y) Q E s := by
    intro f e k
    obtain ⟨p, q, rfl, rfl, e'⟩ := intCmp_some e
    simp only [Is] at hx hy
    obtain ⟨t, rfl⟩ := hx
    obtain ⟨u, rfl⟩ := hy
    exact k p q t u e'
  cases op <;> try (cases e; done)
  case Eq =>
    rcases eqV_some e with ⟨vs, us, rfl, rfl, e'⟩ | ⟨p, q, rfl, rfl, e'⟩
    · obtain ⟨ns, ms, e1, e2, rfl⟩ := eqL_some e'
      simp only [Is] at hx hy
      obtain ⟨l, xs, rfl, _, hl, _, hi⟩ := hx
      obtain ⟨m, ys, rfl, _, hm, _, hj⟩ := hy
      exact eq_intsK hl.isList (intsOf_are e1 hi) hm.isList (intsOf_are e2 hj) hu h
    · cases e'
      simp only [Is] at hx hy
      obtain ⟨t, rfl⟩ := hx
      obtain ⟨u, rfl⟩ := hy
      exact P.eq_int h
  case NotEq =>
    obtain ⟨c', e', rfl⟩ := notO_some e
    rcases eqV_some e' with ⟨vs, us, rfl, rfl, e'⟩ | ⟨p, q, rfl, rfl, e'⟩
    · obtain ⟨ns, ms, e1, e2, rfl⟩ := eqL_some e'
      simp only [Is] at hx hy
      obtain ⟨l, xs, rfl, _, hl, _, hi⟩ := hx
      obtain ⟨m, ys, rfl, _, hm, _, hj⟩ := hy
      exact ne_intsK hl.isList (intsOf_are e1 hi) hm.isList (intsOf_are e2 hj) hu h
    · cases e'
      simp only [Is] at hx hy
      obtain ⟨t, rfl⟩ := hx
      obtain ⟨u, rfl⟩ := hy
      exact P.ne_int h
  case Lt => exact viaI e fun p q t u e' => by cases e'; exact P.lt_int h
  case LtE => exact viaI e fun p q t u e' => by cases e'; exact P.le_int h
  case Gt => exact viaI e fun p q t u e' => by cases e'; exact P.gt_int h
  case GtE => exact viaI e fun p q t u e' => by cases e'; exact P.ge_int h
  case Is =>
    obtain ⟨rfl, e'⟩ := isV_some e
    simp only [Mine.Is] at hy
    subst hy
    refine is_none_gen ?_
    rw [isNone_is e' hx]
    exact h
  case IsNot =>
    obtain ⟨c', e', rfl⟩ := notO_some e
    obtain ⟨rfl, e'⟩ := isV_some e'
    simp only [Mine.Is] at hy
    subst hy
    refine isnot_none_gen ?_
    rw [isNone_is e' hx]
    exact h
end

variable {prog : Program} {w : World} {C : St}

theorem Room.units {k : Nat} {A : Around} (R : Room k A) : A.units + 64 < cLine := by have := R.2.2; omega

noncomputable def bin2 {α β γ : Type} (x : Option α) (y : Option β) (g : α → β → Option γ) : Option γ := match x with
  | some a => (match y with
    | some b => g a b
    | none => none)
  | none => none
noncomputable def one2 {α γ : Type} (x : Option α) (g : α → Option γ) : Option γ := match x with
  | some a => g a
  | none => none
theorem bin2_some {α β γ : Type} {x : Option α} {y : Option β} {g : α → β → Option γ} {c : γ} (h : bin2 x y g = some c) : ∃ a b, x = some a ∧ y = some b ∧ g a b = some c := by
  cases x with
  | none => cases h
  | some a => cases y with
    | none => cases h
    | some b => exact ⟨a, b, rfl, rfl, h⟩
theorem one2_some {α γ : Type} {x : Option α} {g : α → Option γ} {c : γ} (h : one2 x g = some c) : ∃ a, x = some a ∧ g a = some c := by
  cases x with
  | none => cases h
  | some a => exact ⟨a, rfl, h⟩
theorem WantsV.get {X : Addr → Prop} {Q : Value → Shared → Prop} {s : Shared} {o : Option V} (W : WantsV X Q s o) : ∃ v, o = some v ∧ ∀ x h tk, s.heap.StaysIn h → Is X h v x → Q x { s with heap := h, toks := tk } := by
  cases o with
  | none => exact W.elim
  | some v => exact ⟨v, rfl, W⟩
theorem WantsB.get {Q : Bool → Shared → Prop} {s : Shared} {o : Option Bool} (W : WantsB Q s o) : ∃ v, o = some v ∧ ∀ h tk, s.heap.StaysIn h → Q v { s with heap := h, toks := tk } := by
  cases o with
  | none => exact W.elim
  | some v => exact ⟨v, rfl, W⟩

noncomputable def boolV : Bool → Option V := fun b => some (.bool b)

theorem SimE.cmp {l r : Expr} {op : CmpOp} {pos : Pos} {fl fr : List V → Option V} (hl : SimE prog w C l fl) (hr : SimE prog w C r fr) (hm : behindInMarks op r = false := by with_unfolding_all rfl) :
    SimE prog w C (.Compare l [op] [r] pos) (fun σ => one2 (bin2 (fl σ) (fr σ) (cmpV op)) boolV) := by
  intro d A s σ Q E rm I W
  obtain ⟨v, e, W⟩ := W.get
  dsimp only at e
  obtain ⟨c, e0, e'⟩ := one2_some e
  cases e'
  obtain ⟨a, b, e1, e2, e3⟩ := bin2_some e0
  refine wpAny_Compare1 ?_ hm
  refine hl.run rm I e1 fun x h tk k hx I1 => ?_
  refine hr.run (s := { s with heap := h, toks := tk }) rm I1 e2 fun y h2 tk2 k2 hy I2 => ?_
  exact cmpV_ok (s := { s with heap := h2, toks := tk2 }) e3 rm.units (hx.mono k2) hy (W _ h2 tk2 (stays_trans k k2) is_bool)

theorem SimT.cmp {l r : Expr} {op : CmpOp} {pos : Pos} {fl fr : List V → Option V} (hl : SimE prog w C l fl) (hr : SimE prog w C r fr) (hm : behindInMarks op r = false := by with_unfolding_all rfl) :
    SimT prog w C (.Compare l [op] [r] pos) (fun σ => bin2 (fl σ) (fr σ) (cmpV op)) := by
  intro d A s σ Q E rm I W
  obtain ⟨v, e, W⟩ := W.get
  dsimp only at e
  obtain ⟨a, b, e1, e2, e3⟩ := bin2_some e
  refine wpAny_isTrue_Compare1 ?_ hm
  refine hl.run rm I e1 fun x h tk k hx I1 => ?_
  refine hr.run (s := { s with heap := h, toks := tk }) rm I1 e2 fun y h2 tk2 k2 hy I2 => ?_
  exact cmpV_ok (s := { s with heap := h2, toks := tk2 }) e3 rm.units (hx.mono k2) hy (wpAny_truthy_bool (W h2 tk2 (stays_trans k k2)))

noncomputable def andB (x y : Option Bool) : Option Bool := match x with
  | some true => y
  | some false => some false
  | none => none
noncomputable def orB (x y : Option Bool) : Option Bool := match x with
  | some false => y
  | some true => some true
  | none => none
theorem SimT.and_nil {pos : Pos} : SimT prog w C (.BoolOp .And [] pos) (fun _ => some true) := by
  intro d A s σ Q E rm I W
  exact isTrue_and_nil (W s.heap s.toks stays_refl)
theorem SimT.or_nil {pos : Pos} : SimT prog w C (.BoolOp .Or [] pos) (fun _ => some false) := by
  intro d A s σ Q E rm I W
  exact isTrue_or_nil (W s.heap s.toks stays_refl)
theorem SimT.and {x : Expr} {r : List Expr} {pos : Pos} {f g : List V → Option Bool} (hx : SimT prog w C x f) (hr : SimT prog w C (.BoolOp .And r pos) g) :
    SimT prog w C (.BoolOp .And (x :: r) pos) (fun σ => andB (f σ) (g σ)) := by
  intro d A s σ Q E rm I W
  obtain ⟨v, e, W⟩ := W.get
  dsimp only at e
  refine isTrue_and ?_
  cases e1 : f σ with
  | none => rw [e1] at e; cases e
  | some b =>
    rw [e1] at e
    refine hx.run rm I e1 fun h tk k I1 => ?_
    cases b with
    | false => cases e; exact W h tk k
    | true =>
      simp only [if_true]
      exact hr.run (s := { s with heap := h, toks := tk }) rm I1 e fun h2 tk2 k2 _ => W h2 tk2 (stays_trans k k2)
theorem SimT.or {x : Expr} {r : List Expr} {pos : Pos} {f g : List V → Option Bool} (hx : SimT prog w C x f) (hr : SimT prog w C (.BoolOp .Or r pos) g) :
    SimT prog w C (.BoolOp .Or (x :: r) pos) (fun σ => orB (f σ) (g σ)) := by
  intro d A s σ Q E rm I W
  obtain ⟨v, e, W⟩ := W.get
  dsimp only at e
  refine isTrue_or ?_
  cases e1 : f σ with
  | none => rw [e1] at e; cases e
  | some b =>
    rw [e1] at e
    refine hx.run rm I e1 fun h tk k I1 => ?_
    cases b with
    | true => cases e; exact W h tk k
    | false =>
      simp only [Bool.false_eq_true, if_false]
      exact hr.run (s := { s with heap := h, toks := tk }) rm I1 e fun h2 tk2 k2 _ => W h2 tk2 (stays_trans k k2)

/-- «A and B» as a value, both bools -/
noncomputable def asB : V → Option Bool
  | .bool b => some b
  | _ => none
noncomputable def andV (x y : Option V) : Option V := match x with
  | some (.bool true) => y
  | some (.bool false) => some (.bool false)
  | _ => none
theorem SimE.and2 {x y : Expr} {pos : Pos} {f g : List V → Option V} (hx : SimE prog w C x f) (hy : SimE prog w C y g) : SimE prog w C (.BoolOp .And [x, y] pos) (fun σ => andV (f σ) (g σ)) := by
  intro d A s σ Q E rm I W
  obtain ⟨v, e, W⟩ := W.get
  dsimp only at e
  refine wpAny_And2 ?_
  cases e1 : f σ with
  | none => rw [e1] at e; cases e
  | some b =>
    rw [e1] at e
    refine hx.run rm I e1 fun x h tk k hx I1 => ?_
    cases b <;> try (cases e; done)
    rename_i b
    simp only [Is] at hx
    subst hx
    refine wpAny_truthy_bool ?_
    cases b with
    | false => cases e; exact W _ h tk k is_bool
    | true =>
      simp only [if_true]
      exact hy.run (s := { s with heap := h, toks := tk }) rm I1 e fun y h2 tk2 k2 hy _ => W y h2 tk2 (stays_trans k k2) hy

noncomputable def iteO {α : Type} (t : Option Bool) (x y : Option α) : Option α := match t with
  | some true => x
  | some false => y
  | none => none
theorem SimE.ite {t x y : Expr} {pos : Pos} {ft : List V → Option Bool} {fx fy : List V → Option V} (ht : SimT prog w C t ft) (hx : SimE prog w C x fx) (hy : SimE prog w C y fy) :
    SimE prog w C (.IfExp t x y pos) (fun σ => iteO (ft σ) (fx σ) (fy σ)) := by
  intro d A s σ Q E rm I W
  obtain ⟨v, e, W⟩ := W.get
  dsimp only at e
  refine wpAny_IfExp ?_
  cases e1 : ft σ with
  | none => rw [e1] at e; cases e
  | some b =>
    rw [e1] at e
    refine ht.run rm I e1 fun h tk k I1 => ?_
    cases b with
    | true =>
      simp only [if_true]
      exact hx.run (s := { s with heap := h, toks := tk }) rm I1 e fun y h2 tk2 k2 hy _ => W y h2 tk2 (stays_trans k k2) hy
    | false =>
      simp only [Bool.false_eq_true, if_false]
      exact hy.run (s := { s with heap := h, toks := tk }) rm I1 e fun y h2 tk2 k2 hy _ => W y h2 tk2 (stays_trans k k2) hy

/- displays -/
noncomputable def WantsL (X : Addr → Prop) (Q : List Value → Shared → Prop) (s : Shared) : Option (List V) → Prop
  | none => False
  | some vs => ∀ xs h tk, s.heap.StaysIn h → IsAll X h vs xs → Q xs { s with heap := h, toks := tk }
section
variable (prog : Program) (w : World)
noncomputable def SimL (C : St) (es : List Expr) (f : List V → Option (List V)) : Prop :=
  ∀ (pos : Pos) (d : Dyn) (A : Around) (s : Shared) (σ : List V) (Q : List Value → Shared → Prop) (E : Value → Shared → Prop), Room C.room A → Inv C d σ s.heap → WantsL d.Xp Q s (f σ) → wpAny (model prog w) A (spliced (backTo pos (starEach es d.env))) Q E s
end
theorem SimL.run {es : List Expr} {f : List V → Option (List V)} (H : SimL prog w C es f) {pos : Pos} {d : Dyn} {A : Around} {s : Shared} {σ : List V} {Q : List Value → Shared → Prop} {E : Value → Shared → Prop} {v : List V} (rm : Room C.room A) (I : Inv C d σ s.heap)
    (hv : f σ = some v) (h : ∀ x h tk, s.heap.StaysIn h → IsAll d.Xp h v x → Inv C d σ h → Q x { s with heap := h, toks := tk }) : wpAny (model prog w) A (spliced (backTo pos (starEach es d.env))) Q E s :=
  H pos d A s σ Q E rm I (by rw [hv]; exact fun x h' tk k hx => h x h' tk k hx (I.mono k))
theorem SimL.nil : SimL prog w C [] (fun _ => some []) := by
  intro pos d A s σ Q E rm I W
  exact spliced_nil (W [] s.heap s.toks stays_refl (by simp only [IsAll]))
noncomputable def consL (v : V) (vs : List V) : Option (List V) := some (v :: vs)
theorem SimL.cons {e : Expr} {r : List Expr} {f : List V → Option V} {g : List V → Option (List V)} (he : SimE prog w C e f) (hr : SimL prog w C r g)
    (hs : ∀ env, starEach (e :: r) env = (false, eval e env) :: starEach r env := by intro _; rfl) : SimL prog w C (e :: r) (fun σ => bin2 (f σ) (g σ) consL) := by
  intro pos d A s σ Q E rm I W
  dsimp only at W
  cases q : bin2 (f σ) (g σ) consL with
  | none => rw [q] at W; exact W.elim
  | some vs =>
    rw [q] at W
    obtain ⟨a, b, e1, e2, e3⟩ := bin2_some q
    cases e3
    rw [hs]
    refine spliced_cons ?_
    refine he.run rm I e1 fun x h tk k hx I1 => ?_
    refine hr.run (s := { s with heap := h, toks := tk }) rm I1 e2 fun xs h2 tk2 k2 hxs _ => ?_
    exact W (x :: xs) h2 tk2 (stays_trans k k2) (by simp only [IsAll]; exact ⟨hx.mono k2, hxs⟩)

theorem SimE.list {es : List Expr} {pos : Pos} {f : List V → Option (List V)} (H : SimL prog w C es f) : SimE prog w C (.List es pos) (fun σ => one2 (f σ) okL) := by
  intro d A s σ Q E rm I W
  obtain ⟨v, e, W⟩ := W.get
  dsimp only at e
  obtain ⟨vs, e1, e2⟩ := one2_some e
  obtain ⟨rfl, hz⟩ := okL_some e2
  refine List_ (H.run rm I e1 fun xs h tk k hx I1 => ?_)
  have hz' : xs.length ≤ 4096 := hx.length ▸ hz
  refine wpAny_newObj_type (W _ _ tk (stays_trans k (stays_push _)) (new_list hx hz' I1.fresh)) ?_
  show xs.toArray.size ≤ sizeLine
  rw [List.size_toArray]
  exact Nat.le_trans hz' sizeLine_ge
noncomputable def tupO (vs : List V) : Option V := match Nat.ble vs.length 64 with
  | true => some (.tup vs)
  | false => none
theorem SimE.tup {es : List Expr} {k : Nat} {pos : Pos} {f : List V → Option (List V)} (H : SimL prog w C es f) : SimE prog w C (.Tuple es k pos) (fun σ => one2 (f σ) tupO) := by
  intro d A s σ Q E rm I W
  obtain ⟨v, e, W⟩ := W.get
  dsimp only at e
  obtain ⟨vs, e1, e2⟩ := one2_some e
  unfold tupO at e2
  split at e2
  · rename_i q
    cases e2
    have q := Nat.le_of_ble_eq_true q
    refine Tuple_ (H.run rm I e1 fun xs h tk k hx I1 => ?_)
    refine wpAny_newObj_type (W _ _ tk (stays_trans k (stays_push _)) (new_tup hx I1.fresh)) ?_
    show xs.toArray.size ≤ sizeLine
    rw [List.size_toArray, ← hx.length]
    exact Nat.le_trans (Nat.le_trans q (by decide)) sizeLine_ge
  · cases e2

/- items and slices -/
noncomputable def lookD : List Int → List V → Int → Option V
  | k :: ks, v :: vs, i => match decide (k = i) with
    | true => some v
    | false => lookD ks vs i
  | _, _, _ => none
noncomputable def idxL (vs : List V) (k : Int) : Option V := match decide (k < 0) with
  | true => match decide (-(vs.length : Int) ≤ k) with
    | true => vs[(k + vs.length).toNat]?
    | false => none
  | false => vs[k.toNat]?
noncomputable def idxV : V → V → Option V
  | .list vs, .int k => match decide (-4096 ≤ k) && decide (k ≤ 4096) with
    | true => idxL vs k
    | false => none
  | .tup vs, .int k => match decide (0 ≤ k) && decide (k ≤ 4096) with
    | true => vs[k.toNat]?
    | false => none
  | .dict ks vs, .int k => lookD ks vs k
  | _, _ => none

section
variable {A : Around} {E : Value → Shared → Prop} {s : Shared} {X : Addr → Prop} {h : Heap}
theorem lookD_find {ks : List Int} {vs : List V} {k : Int} {v : V} (e : lookD ks vs k = some v) : ∀ {kvs : List (Int × Value)}, kvs.map (·.1) = ks → IsAll X h vs (kvs.map (·.2)) → ∃ x, (kvs.find? fun p => p.1 == k) = some (k, x) ∧ Is X h v x := by
  induction ks generalizing vs with
  | nil => cases vs <;> cases e
  | cons j ks ih =>
    intro kvs hk hi
    cases vs with
    | nil => cases e
    | cons u vs =>
      cases kvs with
      | nil => cases hk
      | cons p kvs =>
        simp only [List.map_cons, List.cons.injEq] at hk
        simp only [List.map_cons, IsAll] at hi
        unfold lookD at e
        split at e
        · rename_i q
          cases e
          have q := of_decide_eq_true q
          refine ⟨p.2, ?_, hi.1⟩
          obtain ⟨p1, p2⟩ := p
          simp only at hk
          rw [List.find?_cons_of_pos (by simp [hk.1, q])]
          rw [hk.1, q]
        · rename_i q
          have q := of_decide_eq_false q
          rw [List.find?_cons_of_neg (by simp [hk.1, q])]
          exact ih e hk.2 hi.2
end

end
end Mine

/- B5 -/

namespace Mine
section

section
variable {prog : Program} {w : World} {A : Around} {E : Value → Shared → Prop} {s : Shared} {X : Addr → Prop}
theorem tailI {value slice : Expr} {o : Value} {k : Int} {u : Tok} {T id : String} {Q : Value → Shared → Prop} (hT : s.TypeIs o T) (hl : typeLookup (.type T) "__getitem__" = pure (some (.builtin id)))
    (hg : wpAny (model prog w) A (getItem o (.int k u)) Q E s) (hs : ∀ o i, subscripted slice false o i = operate [o, i] (getItem o i)) : wpAny (model prog w) A (subscriptTail value slice o (.int k u)) Q E s :=
  tail_any hT hl hg (hs _ _)
theorem idxV_ok {value slice : Expr} {a b c : V} {x y : Value} {Q : Value → Shared → Prop} (e : idxV a b = some c) (hx : Is X s.heap a x) (hy : Is X s.heap b y)
    (h : ∀ z tk, Is X s.heap c z → Q z { s with toks := tk }) (hs : ∀ o i, subscripted slice false o i = operate [o, i] (getItem o i)) : wpAny (model prog w) A (subscriptTail value slice x y) Q E s := by
  unfold idxV at e
  split at e
  · rename_i vs k
    split at e
    · rename_i q
      rw [Bool.and_eq_true, decide_eq_true_eq, decide_eq_true_eq] at q
      simp only [Is] at hx hy
      obtain ⟨l, xs, rfl, _, hl, hz, hi⟩ := hx
      obtain ⟨u, rfl⟩ := hy
      have hsz : xs.toArray.size = vs.length := by rw [List.size_toArray, hi.length]
      unfold idxL at e
      refine tailI hl.isList.typeIs slot_list_getitem.lookup ?_ hs
      split at e
      · rename_i q1
        have q1 := of_decide_eq_true q1
        split at e
        · rename_i q2
          have q2 := of_decide_eq_true q2
          obtain ⟨z, hz1, hz2⟩ := hi.get e
          exact wpAny_getItem_list_neg hl.isList q1 (by rw [hsz]; exact q2) (by omega) (by rw [hsz]; simpa using hz1) (h z s.toks hz2)
        · cases e
      · rename_i q1
        have q1 := of_decide_eq_false q1
        obtain ⟨z, hz1, hz2⟩ := hi.get e
        exact wpAny_getItem_list hl.isList (by omega) (by omega) (by simpa using hz1) (h z s.toks hz2)
    · cases e
  · rename_i vs k
    split at e
    · rename_i q
      rw [Bool.and_eq_true, decide_eq_true_eq, decide_eq_true_eq] at q
      simp only [Is] at hx hy
      obtain ⟨l, xs, rfl, _, hl, hi⟩ := hx
      obtain ⟨u, rfl⟩ := hy
      obtain ⟨z, hz1, hz2⟩ := hi.get e
      have hlt : k.toNat < xs.length := by
        rw [← hi.length]
        exact (List.getElem?_eq_some_iff.mp e).1
      refine tailI hl.typeIs slot_tuple_getitem.lookup ?_ hs
      refine getItem_tuple hl (by omega) (by omega) (j := k.toNat) ?_ (by simpa using hz1) (h z s.toks hz2)
      unfold seqIndex?
      rw [List.size_toArray]
      have h1 : ¬ k < 0 := by omega
      simp only [h1, if_false]
      rw [if_pos (by rw [Bool.and_eq_true, decide_eq_true_eq, decide_eq_true_eq]; omega)]
    · cases e
  · rename_i ks vs k
    simp only [Is] at hx hy
    obtain ⟨l, kvs, rfl, _, hl, hk, hi⟩ := hx
    obtain ⟨u, rfl⟩ := hy
    obtain ⟨z, hz1, hz2⟩ := lookD_find e hk hi
    obtain ⟨ep, hD⟩ := hl.at prog w
    refine tailI hD.dictOf.typeIs slot_dict_getitem.lookup ?_ hs
    refine wpAny_getItem_of (knd := intKind prog w) (k := k) (by simp [intKind, Value.isInt]) hD.dictOf.mapOf (v := z) ?_ (h z _ hz2)
    unfold valueAt
    have : (fun kv : Int × Value => decide (kv.1 = k)) = fun p => p.1 == k := by funext p; by_cases hp : p.1 = k <;> simp [hp]
    rw [this, hz1]
    rfl
  · cases e
end

variable {prog : Program} {w : World} {C : St}

theorem SimE.item {l i : Expr} {pos : Pos} {fl fi : List V → Option V} (hl : SimE prog w C l fl) (hi : SimE prog w C i fi) (hs : ∀ o j, subscripted i false o j = operate [o, j] (getItem o j) := by intro _ _; rfl) :
    SimE prog w C (.Subscript l i pos) (fun σ => bin2 (fl σ) (fi σ) idxV) := by
  intro d A s σ Q E rm I W
  obtain ⟨v, e, W⟩ := W.get
  dsimp only at e
  obtain ⟨a, b, e1, e2, e3⟩ := bin2_some e
  refine Subscript_ ?_
  refine hl.run rm I e1 fun x h tk k hx I1 => ?_
  refine hi.run (s := { s with heap := h, toks := tk }) rm I1 e2 fun y h2 tk2 k2 hy I2 => ?_
  exact idxV_ok (s := { s with heap := h2, toks := tk2 }) e3 (hx.mono k2) hy (fun z tk3 hz => W z h2 tk3 (stays_trans k k2) hz) hs

noncomputable def uptoV : V → V → Option V
  | .list vs, .int k => match decide (0 ≤ k) with
    | true => some (.list (vs.take k.toNat))
    | false => none
  | _, _ => none
noncomputable def fromV : V → V → Option V
  | .list vs, .int k => match decide (0 ≤ k) with
    | true => some (.list (vs.drop k.toNat))
    | false => none
  | _, _ => none

theorem take_pick (xs : List Value) (k : Int) (h : 0 ≤ k) : slicePick xs.toArray none (some k) none = (xs.take k.toNat).toArray := by
  rw [slicePick_plain]
  obtain ⟨n, rfl⟩ := Int.eq_ofNat_of_zero_le h
  simp only [Option.elim, List.drop_zero, Nat.sub_zero, Int.toNat_natCast]
  rw [clipAt_nat]
  simp [List.take_eq_take_iff]
theorem drop_pick (xs : List Value) (k : Int) (h : 0 ≤ k) : slicePick xs.toArray (some k) none none = (xs.drop k.toNat).toArray := by
  rw [slicePick_plain]
  obtain ⟨n, rfl⟩ := Int.eq_ofNat_of_zero_le h
  simp only [Option.elim, Int.toNat_natCast]
  rw [clipAt_nat]
  simp only [List.size_toArray]
  congr 1
  by_cases hn : n ≤ xs.length
  · rw [Nat.min_eq_left hn, List.take_of_length_le (by rw [List.length_drop]; exact Nat.le_refl _)]
  · rw [Nat.min_eq_right (by omega), List.drop_length, List.take_nil, List.drop_eq_nil_of_le (by omega)]

theorem SimE.upto {l i : Expr} {p pos : Pos} {fl fi : List V → Option V} (hl : SimE prog w C l fl) (hi : SimE prog w C i fi) :
    SimE prog w C (.Subscript l (.Slice none (some i) none p) pos) (fun σ => bin2 (fl σ) (fi σ) uptoV) := by
  intro d A s σ Q E rm I W
  obtain ⟨v, e, W⟩ := W.get
  dsimp only at e
  obtain ⟨a, b, e1, e2, e3⟩ := bin2_some e
  refine Subscript_ ?_
  refine hl.run rm I e1 fun x h tk k hx I1 => ?_
  refine wpAny_Slice ?_
  refine evalPart_none_step ?_
  refine evalPart_some_step ?_
  refine hi.run (s := { s with heap := h, toks := tk }) rm I1 e2 fun y h2 tk2 k2 hy I2 => ?_
  refine evalPart_none_step ?_
  unfold uptoV at e3
  split at e3
  · rename_i vs k'
    split at e3
    · rename_i q
      cases e3
      have q := of_decide_eq_true q
      have hx := hx.mono k2
      simp only [Is] at hx hy
      obtain ⟨al, xs, rfl, _, hL, hz, hi'⟩ := hx
      obtain ⟨u, rfl⟩ := hy
      have k3 := stays_push (h := h2) { cls := .type "slice", data := .fields #[.none, .int k' u, .none] }
      have I3 := I2.mono k3
      refine tail_any (s := { s with heap := h2.push _, toks := tk2 }) (hL.isList.push _).typeIs list_getitem_lookup ?_ rfl
      refine wpAny_getItem_list_slice (s := { s with heap := h2.push _, toks := tk2 }) (hL.isList.push _) (Heap.IsSliceOf.new ..) .none (.int _ _) .none (by simp) ?_ (by rw [List.size_toArray]; exact Nat.le_trans hz sizeLine_ge)
      rw [take_pick _ _ q]
      refine W _ _ _ (stays_trans k (stays_trans k2 (stays_trans k3 (stays_push _)))) (new_list ((hi'.mono k3).take _) ?_ I3.fresh)
      rw [List.length_take]
      exact Nat.le_trans (Nat.min_le_right _ _) hz
    · cases e3
  · cases e3
theorem SimE.from {l i : Expr} {p pos : Pos} {fl fi : List V → Option V} (hl : SimE prog w C l fl) (hi : SimE prog w C i fi) :
    SimE prog w C (.Subscript l (.Slice (some i) none none p) pos) (fun σ => bin2 (fl σ) (fi σ) fromV) := by
  intro d A s σ Q E rm I W
  obtain ⟨v, e, W⟩ := W.get
  dsimp only at e
  obtain ⟨a, b, e1, e2, e3⟩ := bin2_some e
  refine Subscript_ ?_
  refine hl.run rm I e1 fun x h tk k hx I1 => ?_
  refine wpAny_Slice (evalPart_some_step ?_)
  refine hi.run (s := { s with heap := h, toks := tk }) rm I1 e2 fun y h2 tk2 k2 hy I2 => ?_
  refine evalPart_none_step ?_
  refine evalPart_none_step ?_
  unfold fromV at e3
  split at e3
  · rename_i vs k'
    split at e3
    · rename_i q
      cases e3
      have q := of_decide_eq_true q
      have hx := hx.mono k2
      simp only [Is] at hx hy
      obtain ⟨al, xs, rfl, _, hL, hz, hi'⟩ := hx
      obtain ⟨u, rfl⟩ := hy
      have k3 := stays_push (h := h2) { cls := .type "slice", data := .fields #[.int k' u, .none, .none] }
      have I3 := I2.mono k3
      refine tail_any (s := { s with heap := h2.push _, toks := tk2 }) (hL.isList.push _).typeIs list_getitem_lookup ?_ rfl
      refine wpAny_getItem_list_slice (s := { s with heap := h2.push _, toks := tk2 }) (hL.isList.push _) (Heap.IsSliceOf.new ..) (.int _ _) .none .none (by simp) ?_ (by rw [List.size_toArray]; exact Nat.le_trans hz sizeLine_ge)
      rw [drop_pick _ _ q]
      refine W _ _ _ (stays_trans k (stays_trans k2 (stays_trans k3 (stays_push _)))) (new_list ((hi'.mono k3).drop _) ?_ I3.fresh)
      rw [List.length_drop]
      omega
    · cases e3
  · cases e3

end
end Mine

/- B6 -/

namespace Mine
section

/-- a change of the heap at one place of the frame's own -/
theorem keep_of_same {X : Addr → Prop} {h h' : Heap} {a : Addr} (hX : X a) (k : Heap.SameBut a h h') : KeepBut X h h' := KeepBut.of_extBut hX k.extBut

theorem Val.keepX {d : Dyn} {h h' : Heap} {val : Value} {v : V} (H : Val d h val v) (k : KeepBut d.X h h') (mx : ∀ a, d.ma = some a → ¬ d.X a) : Val d h' val v :=
  H.to (fun a e => ⟨e, fun o ho => k a o (mx a e) ho⟩) fun a o ho n => ⟨n, k a o (fun q => n (.inl q)) ho⟩

theorem getElem?_set_some {α : Type} {σ : List α} {i j : Nat} {v u : α} (h : (σ.set i v)[j]? = some u) : (j = i ∧ u = v) ∨ (j ≠ i ∧ σ[j]? = some u) := by
  by_cases e : j = i
  · subst e
    left
    refine ⟨rfl, ?_⟩
    rw [List.getElem?_set] at h
    simp only [if_true] at h
    split at h
    · exact (Option.some.inj h).symm
    · cases h
  · right
    refine ⟨e, ?_⟩
    rwa [List.getElem?_set_ne (Ne.symm e)] at h

noncomputable def storeOK (C : St) (x : Str) : Bool := (C.scope.names.lookup x == some .local) || C.own.contains x
theorem nk_eq {a b : Option NameKind} (h : (a == b) = true) : a = b := by
  cases a with
  | none => cases b with
    | none => rfl
    | some b => cases h
  | some a => cases b with
    | none => cases h
    | some b =>
      have : (a == b) = true := h
      cases a <;> cases b <;> first | rfl | cases this

/-- the frame's own places -/
noncomputable def Loc (C : St) (d : Dyn) : Addr → Prop := fun b => b = d.env.locals ∨ ∃ x, x ∈ C.own ∧ d.env.cells.lookup x = some b
theorem Loc.x {C : St} {d : Dyn} {σ : List V} {h : Heap} (I : Inv C d σ h) {b : Addr} (l : Loc C d b) : d.X b := by
  rcases l with rfl | ⟨x, hx, e⟩
  · exact I.lx
  · obtain ⟨_, c, a, b', _⟩ := I.own x hx
    rw [a] at e; cases e; exact b'
theorem KeepBut.weaken {X Y : Addr → Prop} {h h' : Heap} (k : KeepBut X h h') (l : ∀ b, X b → Y b) : KeepBut Y h h' := fun b o n e => k b o (fun q => n (l b q)) e

theorem Inv.storeL {M : Model} {A : Around} {E : Value → Shared → Prop} {C : St} {d : Dyn} {σ : List V} {s : Shared} {x : Str} {i : Nat} {v : V} {val : Value} {Q : Unit → Shared → Prop} (I : Inv C d σ s.heap) (hx : C.names[i]? = some x) (hk : storeOK C x = true)
    (hv : Val d s.heap val v) (h : ∀ h' tk, KeepBut (Loc C d) s.heap h' → Inv C d (σ.set i v) h' → Q () { s with heap := h', toks := tk }) : wpAny M A (storeName d.env x val) Q E s := by
  obtain ⟨m, hn, H⟩ := I.vars
  have nx : ∀ (j : Nat) (y : Str), C.names[j]? = some y → j ≠ i → y ≠ x := fun j y hj hne e => by
    subst e
    have hl1 := (List.getElem?_eq_some_iff.mp hx)
    have hl2 := (List.getElem?_eq_some_iff.mp hj)
    obtain ⟨p1, q1⟩ := hl1
    obtain ⟨p2, q2⟩ := hl2
    exact hne ((List.getElem_inj (i := j) (j := i) (h₀ := p2) (h₁ := p1) I.ndup).mp (q2.trans q1.symm))
  have lX := I.lx
  unfold storeOK at hk
  rcases (Bool.or_eq_true _ _).mp hk with hk | hk
  · have hk' : d.env.kindOf x = some .local := by
      show d.env.scope.names.lookup x = _
      rw [I.scope]; exact nk_eq hk
    refine wpAny_storeName_local hk' hn (fun h' hn' hs' => ?_) (by rw [I.scope, I.kind]; rfl)
    have kb := keep_of_same lX hs'
    refine h h' _ (keep_of_same (X := Loc C d) (.inl rfl) hs') ?_
    refine { I with stays := ?_, xin := ?_, own := ?_, vars := ?_ }
    · intro b o e
      exact hs'.extBut b o (fun q => by rw [q, I.lb] at e; cases e) (I.stays b o e)
    · intro a xa
      by_cases e : a = d.env.locals
      · subst e; obtain ⟨o, _, _, ho, _⟩ := hn'; exact ⟨o, ho⟩
      · obtain ⟨o, ho⟩ := I.xin a xa; exact ⟨o, hs'.extBut a o e ho⟩
    · intro y hy
      obtain ⟨q, c, a, b, e, v₀, f⟩ := I.own y hy
      refine ⟨q, c, a, b, e, v₀, f.sameBut hs' ?_⟩
      rintro rfl
      obtain ⟨o1, ho1, hd1⟩ := f
      obtain ⟨o2, _, _, ho2, hd2, _⟩ := hn
      rw [ho1] at ho2; cases ho2; rw [hd1] at hd2; cases hd2
    · refine ⟨_, hn', fun j y u hj hu => ?_⟩
      rcases getElem?_set_some hu with ⟨rfl, rfl⟩ | ⟨hne, hu'⟩
      · rw [hx] at hj; cases hj
        exact .inr ⟨val, .inl ⟨hk', by simp⟩, hv.keepX kb I.mx⟩
      · have hyx := nx j y hj hne
        refine (H j y u hj hu').imp id fun ⟨w', hh, hw⟩ => ⟨w', ?_, hw.keepX kb I.mx⟩
        rcases hh with ⟨a, b⟩ | ⟨c, a, b, e⟩
        · exact .inl ⟨a, by simp only [hyx, if_false]; exact b⟩
        · refine .inr ⟨c, a, b, e.sameBut hs' ?_⟩
          rintro rfl
          obtain ⟨o1, ho1, hd1⟩ := e
          obtain ⟨o2, _, _, ho2, hd2, _⟩ := hn
          rw [ho1] at ho2; cases ho2; rw [hd1] at hd2; cases hd2
  · have hmem : x ∈ C.own := by simpa using hk
    obtain ⟨q, c, a, b, e, v₀, f⟩ := I.own x hmem
    refine wpAny_storeName_cell (by rw [I.scope]; exact I.kind) q a f fun h' hc' hs' => ?_
    have kb := keep_of_same b hs'
    refine h h' s.toks (keep_of_same (X := Loc C d) (.inr ⟨x, hmem, a⟩) hs') ?_
    have lc : d.env.locals ≠ c := by
      intro el
      obtain ⟨o1, ho1, hd1⟩ := f
      obtain ⟨o2, _, _, ho2, hd2, _⟩ := hn
      rw [el, ho1] at ho2; cases ho2; rw [hd1] at hd2; cases hd2
    refine { I with stays := ?_, xin := ?_, own := ?_, vars := ?_ }
    · intro b' o e'
      exact hs'.extBut b' o (fun q => by rw [q, e] at e'; cases e') (I.stays b' o e')
    · intro a' xa
      by_cases e' : a' = c
      · subst e'; obtain ⟨o, ho, _⟩ := hc'; exact ⟨o, ho⟩
      · obtain ⟨o, ho⟩ := I.xin a' xa; exact ⟨o, hs'.extBut a' o e' ho⟩
    · intro y hy
      obtain ⟨q', c', a', b', e', v', f'⟩ := I.own y hy
      by_cases ey : c' = c
      · subst ey; exact ⟨q', c', a', b', e', _, hc'⟩
      · exact ⟨q', c', a', b', e', v', f'.sameBut hs' ey⟩
    · refine ⟨m, hn.sameBut hs' lc, fun j y u hj hu => ?_⟩
      rcases getElem?_set_some hu with ⟨rfl, rfl⟩ | ⟨hne, hu'⟩
      · rw [hx] at hj; cases hj
        exact .inr ⟨val, .inr ⟨c, .inl q, a, hc'⟩, hv.keepX kb I.mx⟩
      · have hyx := nx j y hj hne
        refine (H j y u hj hu').imp id fun ⟨w', hh, hw⟩ => ⟨w', ?_, hw.keepX kb I.mx⟩
        rcases hh with ⟨a2, b2⟩ | ⟨c2, a2, b2, e2⟩
        · exact .inl ⟨a2, b2⟩
        · refine .inr ⟨c2, a2, b2, e2.sameBut hs' ?_⟩
          rintro rfl
          exact hyx (I.inj y x _ b2 a)

theorem Inv.store {M : Model} {A : Around} {E : Value → Shared → Prop} {C : St} {d : Dyn} {σ : List V} {s : Shared} {x : Str} {i : Nat} {v : V} {val : Value} {Q : Unit → Shared → Prop} (I : Inv C d σ s.heap) (hx : C.names[i]? = some x) (hk : storeOK C x = true)
    (hv : Val d s.heap val v) (h : ∀ h' tk, KeepBut d.X s.heap h' → Inv C d (σ.set i v) h' → Q () { s with heap := h', toks := tk }) : wpAny M A (storeName d.env x val) Q E s :=
  I.storeL hx hk hv fun h' tk k I' => h h' tk (k.weaken fun _ l => Loc.x I l) I'

noncomputable def ValAll (d : Dyn) (h : Heap) : List V → List Value → Prop
  | [], [] => True
  | v :: vs, x :: xs => Val d h x v ∧ ValAll d h vs xs
  | _, _ => False
theorem ValAll.of {d : Dyn} {h : Heap} : ∀ {vs : List V} {xs : List Value}, IsAll d.Xp h vs xs → ValAll d h vs xs
  | [], [], _ => trivial
  | _ :: _, _ :: _, H => by
    simp only [IsAll] at H
    exact ⟨Val.of H.1, ValAll.of H.2⟩
  | [], _ :: _, H => by simp only [IsAll] at H
  | _ :: _, [], H => by simp only [IsAll] at H
theorem ValAll.keepX {d : Dyn} {h h' : Heap} (k : KeepBut d.X h h') (mx : ∀ a, d.ma = some a → ¬ d.X a) : ∀ {vs : List V} {xs : List Value}, ValAll d h vs xs → ValAll d h' vs xs
  | [], [], _ => trivial
  | _ :: _, _ :: _, H => ⟨H.1.keepX k mx, ValAll.keepX k mx H.2⟩
  | [], _ :: _, H => H.elim
  | _ :: _, [], H => H.elim
theorem ValAll.mono {d : Dyn} {h h' : Heap} (k : h.StaysIn h') : ∀ {vs : List V} {xs : List Value}, ValAll d h vs xs → ValAll d h' vs xs
  | [], [], _ => trivial
  | _ :: _, _ :: _, H => ⟨H.1.mono k, ValAll.mono k H.2⟩
  | [], _ :: _, H => H.elim
  | _ :: _, [], H => H.elim
theorem ValAll.length {d : Dyn} {h : Heap} : ∀ {vs : List V} {xs : List Value}, ValAll d h vs xs → vs.length = xs.length
  | [], [], _ => rfl
  | _ :: _, _ :: _, H => by simp [ValAll.length H.2]
  | [], _ :: _, H => H.elim
  | _ :: _, [], H => H.elim
theorem ValAll.append {d : Dyn} {h : Heap} : ∀ {vs : List V} {xs : List Value} {vs' : List V} {xs' : List Value}, ValAll d h vs xs → ValAll d h vs' xs' → ValAll d h (vs ++ vs') (xs ++ xs')
  | [], [], _, _, _, H' => H'
  | _ :: _, _ :: _, _, _, H, H' => ⟨H.1, ValAll.append H.2 H'⟩
  | [], _ :: _, _, _, H, _ => H.elim
  | _ :: _, [], _, _, H, _ => H.elim
theorem ValAll.reverse {d : Dyn} {h : Heap} : ∀ {vs : List V} {xs : List Value}, ValAll d h vs xs → ValAll d h vs.reverse xs.reverse
  | [], [], H => H
  | _ :: _, _ :: _, H => by
    simp only [List.reverse_cons]
    exact ValAll.append (ValAll.reverse H.2) ⟨H.1, trivial⟩
  | [], _ :: _, H => H.elim
  | _ :: _, [], H => H.elim


end
end Mine

/- B7 -/

namespace Mine
section
variable {prog : Program} {w : World} {C : St}

theorem Wants.step {d : Dyn} {Q : Flow → Shared → Prop} {s : Shared} {r : R} {h1 : Heap} {tk1 : Nat} (W : Wants C d Q s r) (k : KeepBut (Xw C d) s.heap h1) : Wants C d Q { s with heap := h1, toks := tk1 } r := by
  cases r with
  | bad => exact W
  | next σ => exact fun h tk k2 I => W h tk (k.trans k2) I
  | ret v => exact fun x h tk k2 b i => W x h tk (k.trans k2) b i

noncomputable def seqR (r : R) (g : List V → R) : R := match r with
  | .next σ => g σ
  | .ret v => .ret v
  | .bad => .bad

theorem SimB.nil : SimB prog w C [] (fun σ => .next σ) := by
  intro d A s σ Q E rm I W
  exact wpAny_execs_nil (W s.heap s.toks KeepBut.refl I)
theorem SimB.cons {st : Stmt} {b : List Stmt} {f g : List V → R} (hs : SimS prog w C st f) (hb : SimB prog w C b g) : SimB prog w C (st :: b) (fun σ => seqR (f σ) g) := by
  intro d A s σ Q E rm I W
  dsimp only at W
  refine wpAny_execs_cons (hs d A s σ _ E rm I ?_)
  cases e : f σ with
  | bad => rw [e] at W; exact W.elim
  | next σ' =>
    rw [e] at W
    intro h tk k I'
    exact hb d A { s with heap := h, toks := tk } σ' Q E rm I' (Wants.step W k)
  | ret v =>
    rw [e] at W
    exact fun x h tk k b i => W x h tk k b i
theorem SimB.one {st : Stmt} {f : List V → R} (hs : SimS prog w C st f) : SimB prog w C [st] f := by
  intro d A s σ Q E rm I W
  refine wpAny_execs_cons (hs d A s σ _ E rm I ?_)
  cases e : f σ with
  | bad => rw [e] at W; exact W.elim
  | next σ' =>
    rw [e] at W
    exact fun h tk k I' => wpAny_execs_nil (W h tk k I')
  | ret v =>
    rw [e] at W
    exact fun x h tk k b i => W x h tk k b i

noncomputable def setR (i : Nat) (σ : List V) (o : Option V) : R := match o with
  | some v => .next (σ.set i v)
  | none => .bad

theorem SimS.assign {x : Str} {p pos : Pos} {e : Expr} {f : List V → Option V} (i : Nat) (H : SimE prog w C e f) (hx : C.names[i]? = some x) (hk : storeOK C x = true := by decide +kernel)
    (hs : ∀ env, swapsWith e (some (.Name x p)) pos.line env = pure false := by intro _; rfl) : SimS prog w C (.Assign [.Name x p] e pos) (fun σ => setR i σ (f σ)) := by
  intro d A s σ Q E rm I W
  dsimp only at W
  cases e1 : f σ with
  | none => rw [e1] at W; exact W.elim
  | some v =>
    rw [e1] at W
    refine wpAny_Assign_Name (H.run rm I e1 fun y h tk k hy I1 => ?_) (hs _)
    exact Inv.store (s := { s with heap := h, toks := tk }) I1 hx hk (Val.of hy) fun h' tk' k' I' => W h' tk' ((KeepBut.of k).trans fun b o n e => k' b o (fun q => n (.inl q)) e) I'

noncomputable def augV : Operator → V → V → Option V
  | .Sub, .int a, .int b => some (.int (a - b))
  | _, _, _ => none
theorem SimS.aug {x : Str} {p pos : Pos} {e : Expr} {f : List V → Option V} (i : Nat) (H : SimE prog w C e f) (hx : C.names[i]? = some x) (hk : storeOK C x = true := by decide +kernel) (hp : plainName x = true := by decide +kernel) :
    SimS prog w C (.AugAssign (.Name x p) .Sub e pos) (fun σ => setR i σ (bin2 (getV σ i) (f σ) (augV .Sub))) := by
  intro d A s σ Q E rm I W
  dsimp only at W
  cases e1 : bin2 (getV σ i) (f σ) (augV .Sub) with
  | none => rw [e1] at W; exact W.elim
  | some v =>
    rw [e1] at W
    obtain ⟨a, b, e2, e3, e4⟩ := bin2_some e1
    obtain ⟨g1, g2⟩ := getV_some e2
    obtain ⟨m, hn, HV⟩ := I.vars
    have q := HV i x a hx g1
    unfold augV at e4
    split at e4
    · cases e4
      rcases q with q | ⟨val, hh, hi⟩
      · cases q
      · simp only [Val, Is] at hi
        obtain ⟨t, rfl⟩ := hi
        refine wpAny_AugAssign_Name (loadName_holds I hn hh (plainName_c hp) ?_)
        refine H.run rm I e3 fun y h tk k hy I1 => ?_
        simp only [Is] at hy
        obtain ⟨u, rfl⟩ := hy
        refine P.isub_int ?_
        exact Inv.store (s := { s with heap := h, toks := _ }) I1 hx hk (Val.of is_int) fun h' tk' k' I' => W h' tk' ((KeepBut.of k).trans fun b o n e => k' b o (fun q => n (.inl q)) e) I'
    · cases e4

theorem SimS.ret {e : Expr} {pos : Pos} {f : List V → Option V} (H : SimE prog w C e f) : SimS prog w C (.Return (some e) pos) (fun σ => match f σ with
    | some v => .ret v
    | none => .bad) := by
  intro d A s σ Q E rm I W
  dsimp only at W
  cases e1 : f σ with
  | none => rw [e1] at W; exact W.elim
  | some v =>
    rw [e1] at W
    refine wpAny_Return_some (H.run rm I e1 fun y h tk k hy I1 => ?_)
    exact W y h tk (KeepBut.of k) I1.stays (hy.weaken fun a => .inl)

noncomputable def iteR (t : Option Bool) (x y : R) : R := match t with
  | some true => x
  | some false => y
  | none => .bad
theorem SimS.ite {t : Expr} {b o : List Stmt} {pos : Pos} {ft : List V → Option Bool} {fb fo : List V → R} (ht : SimT prog w C t ft) (hb : SimB prog w C b fb) (ho : SimB prog w C o fo) :
    SimS prog w C (.If t b o pos) (fun σ => iteR (ft σ) (fb σ) (fo σ)) := by
  intro d A s σ Q E rm I W
  dsimp only at W
  cases e1 : ft σ with
  | none => rw [e1] at W; exact W.elim
  | some c =>
    rw [e1] at W
    refine wpAny_If (ht.run rm I e1 fun h tk k I1 => ?_)
    have W' := Wants.step (tk1 := tk) W (KeepBut.of k)
    cases c with
    | true =>
      simp only [if_true]
      exact hb d A { s with heap := h, toks := tk } σ Q E rm I1 W'
    | false =>
      simp only [Bool.false_eq_true, if_false]
      exact ho d A { s with heap := h, toks := tk } σ Q E rm I1 W'

/-- a branch that is never taken -/
theorem SimB.never {b : List Stmt} : SimB prog w C b (fun _ => .bad) := by
  intro d A s σ Q E rm I W
  exact W.elim

noncomputable def whileR (ft : List V → Option Bool) (fb : List V → R) : Nat → List V → R
  | 0, _ => .bad
  | n + 1, σ => match ft σ with
    | some true => seqR (fb σ) (whileR ft fb n)
    | some false => .next σ
    | none => .bad

theorem SimS.while {t : Expr} {b : List Stmt} {pos : Pos} {ft : List V → Option Bool} {fb : List V → R} (n : Nat) (ht : SimT prog w C t ft) (hb : SimB prog w C b fb) :
    SimS prog w C (.While t b [] pos) (whileR ft fb n) := by
  intro d A s σ Q E rm I W
  refine wpAny_While ?_
  refine codeAny_whileLoop (fun n s' => ∃ σ h tk, s' = { s with heap := h, toks := tk } ∧ KeepBut (Xw C d) s.heap h ∧ Inv C d σ h ∧ Wants C d Q s (whileR ft fb n σ)) ?_ n ⟨σ, s.heap, s.toks, rfl, KeepBut.refl, I, W⟩
  rintro n s' ⟨σ, h, tk, rfl, k, I, W⟩
  cases n with
  | zero => exact W.elim
  | succ n =>
    unfold whileR at W
    cases e1 : ft σ with
    | none => rw [e1] at W; exact W.elim
    | some c =>
      rw [e1] at W
      refine ht.run (s := { s with heap := h, toks := tk }) rm I e1 fun h1 tk1 k1 I1 => ?_
      have kk := k.trans (KeepBut.of k1)
      cases c with
      | true =>
        simp only [if_true]
        dsimp only at W
        refine hb d A { s with heap := h1, toks := tk1 } σ _ _ rm I1 ?_
        cases e2 : fb σ with
        | bad => rw [e2] at W; exact W.elim
        | next σ' =>
          rw [e2] at W
          exact fun h2 tk2 k2 I2 => ⟨n, Nat.lt_succ_self _, σ', h2, tk2, rfl, kk.trans k2, I2, W⟩
        | ret v =>
          rw [e2] at W
          exact fun x h2 tk2 k2 b2 i2 => W x h2 tk2 (kk.trans k2) b2 i2
      | false =>
        simp only [Bool.false_eq_true, if_false]
        exact wpAny_execs_nil (W h1 tk1 kk I1)

end
end Mine

/- B8 -/

namespace Mine
section

/- the cells of a new frame -/
noncomputable def cellCount : List (Str × NameKind) → Nat
  | [] => 0
  | (_, kind) :: r => if kind == .cell then cellCount r + 1 else cellCount r

theorem lookup_cons_eq {α : Type} {k x : Str} {v : α} {l : List (Str × α)} : ((k, v) :: l).lookup x = if x = k then some v else l.lookup x := by
  rw [List.lookup_cons]
  by_cases e : x = k
  · subst e; simp
  · have : (x == k) = false := by simpa using e
    rw [this, if_neg e]

theorem cellsFrom_inv : ∀ (names : List (Str × NameKind)) (n : Nat) (acc : List (Str × Addr)),
    (∀ x c, acc.lookup x = some c → c < n) → (∀ x y c, acc.lookup x = some c → acc.lookup y = some c → x = y) →
    (∀ x c, (cellsFrom n names acc).lookup x = some c → c < n + cellCount names ∧ (acc.lookup x = some c ∨ n ≤ c)) ∧
    (∀ x y c, (cellsFrom n names acc).lookup x = some c → (cellsFrom n names acc).lookup y = some c → x = y) ∧
    (∀ x, (x, NameKind.cell) ∉ names → (cellsFrom n names acc).lookup x = acc.lookup x) ∧
    (∀ x, (x, NameKind.cell) ∈ names → ∃ c, (cellsFrom n names acc).lookup x = some c ∧ n ≤ c)
  | [], n, acc, h1, h2 => ⟨fun x c h => ⟨h1 x c h, .inl h⟩, h2, fun _ _ => rfl, fun x hx => nomatch hx⟩
  | (name, kind) :: r, n, acc, h1, h2 => by
    unfold cellsFrom cellCount
    by_cases hk : kind = .cell
    · subst hk
      simp only [beq_self_eq_true, if_true]
      have ih := cellsFrom_inv r (n + 1) ((name, n) :: acc) (fun x c h => by
        rw [lookup_cons_eq] at h
        split at h
        · cases h; exact Nat.lt_succ_self _
        · exact Nat.lt_succ_of_lt (h1 x c h)) (fun x y c h h' => by
        rw [lookup_cons_eq] at h h'
        split at h
        · rename_i ex
          cases h
          split at h'
          · rename_i ey; exact ex.trans ey.symm
          · exact absurd (h1 y _ h') (Nat.lt_irrefl _)
        · split at h'
          · cases h'; exact absurd (h1 x _ h) (Nat.lt_irrefl _)
          · exact h2 x y c h h')
      obtain ⟨a, b, c, e⟩ := ih
      refine ⟨fun x c' h => ?_, b, fun x hx => ?_, fun x hx => ?_⟩
      · obtain ⟨p, q⟩ := a x c' h
        refine ⟨by rw [Nat.add_assoc, Nat.add_comm 1] at p; exact p, ?_⟩
        rcases q with q | q
        · rw [lookup_cons_eq] at q
          split at q
          · cases q; exact .inr (Nat.le_refl _)
          · exact .inl q
        · exact .inr (Nat.le_of_succ_le q)
      · have hx1 : (x, NameKind.cell) ∉ r := fun q => hx (List.mem_cons_of_mem _ q)
        have hx2 : x ≠ name := fun q => hx (q ▸ List.mem_cons_self)
        rw [c x hx1, lookup_cons_eq, if_neg hx2]
      · by_cases hr : (x, NameKind.cell) ∈ r
        · obtain ⟨c', h, h'⟩ := e x hr
          exact ⟨c', h, Nat.le_of_succ_le h'⟩
        · rcases List.mem_cons.mp hx with q | q
          · cases q
            refine ⟨n, ?_, Nat.le_refl _⟩
            rw [c _ hr, lookup_cons_eq, if_pos rfl]
          · exact absurd q hr
    · have hk' : (kind == NameKind.cell) = false := by cases kind <;> first | rfl | exact absurd rfl hk
      rw [if_neg (by rw [hk']; exact Bool.false_ne_true), if_neg (by rw [hk']; exact Bool.false_ne_true)]
      obtain ⟨a, b, c, e⟩ := cellsFrom_inv r n acc h1 h2
      refine ⟨a, b, fun x hx => c x fun q => hx (List.mem_cons_of_mem _ q), fun x hx => ?_⟩
      rcases List.mem_cons.mp hx with q | q
      · cases q; exact absurd rfl hk
      · exact e x q

theorem pushCells_size : ∀ (names : List (Str × NameKind)) (h : Heap), (pushCells h names).objs.size = h.objs.size + cellCount names
  | [], h => rfl
  | (_, kind) :: r, h => by
    unfold pushCells cellCount
    split
    · rw [pushCells_size r, Heap.size_push]; omega
    · exact pushCells_size r h
theorem pushCells_cell : ∀ (names : List (Str × NameKind)) (h : Heap) (c : Nat), h.objs.size ≤ c → c < h.objs.size + cellCount names → (pushCells h names).IsCell c none
  | [], h, c, h1, h2 => by unfold cellCount at h2; exact absurd (Nat.lt_of_le_of_lt h1 h2) (Nat.lt_irrefl _)
  | (_, kind) :: r, h, c, h1, h2 => by
    unfold pushCells
    unfold cellCount at h2
    split at h2
    · rename_i hk
      rw [if_pos hk]
      by_cases e : c = h.objs.size
      · subst e
        exact ⟨_, pushCells_keeps r _ _ _ (Heap.get?_push_size _ rfl), rfl⟩
      · exact pushCells_cell r _ c (by rw [Heap.size_push]; omega) (by rw [Heap.size_push]; omega)
    · rename_i hk
      rw [if_neg hk]
      exact pushCells_cell r h c h1 h2

noncomputable def unbs (n : Nat) : List V := List.replicate n .unb
theorem unbs_get {n i : Nat} {v : V} (h : (unbs n)[i]? = some v) : v = .unb := by
  unfold unbs at h
  rw [List.getElem?_replicate] at h
  split at h
  · exact (Option.some.inj h).symm
  · cases h

/-- names of arguments to places -/
noncomputable def placeArgs (C : St) : List Str → List V → List V → Option (List V)
  | [], [], σ => some σ
  | x :: xs, v :: vs, σ => placeArgs C xs vs (σ.set (C.names.idxOf x) v)
  | _, _, _ => none

theorem idxOf_get {l : List Str} {x : Str} (h : x ∈ l) : l[l.idxOf x]? = some x := by
  have hl := List.idxOf_lt_length_of_mem h
  rw [List.getElem?_eq_getElem hl, List.getElem_idxOf]

noncomputable def argsPlace (C : St) (xs : List Str) : Bool := xs.all fun x => C.names.contains x && storeOK C x

theorem bind_argsV {M : Model} {A : Around} {E : Value → Shared → Prop} {C : St} {d : Dyn} (f : Str × Value → PUnit → Sem (ForInStep PUnit)) (hf : ∀ n v u, f (n, v) u = (do storeName d.env n v; pure (.yield ⟨⟩))) :
    ∀ (xs : List Str) (vs : List V) (vals : List Value) (σ σ' : List V) (s : Shared) (Q : PUnit → Shared → Prop), argsPlace C xs = true → Inv C d σ s.heap → ValAll d s.heap vs vals → placeArgs C xs vs σ = some σ' →
      (∀ h tk, KeepBut d.X s.heap h → Inv C d σ' h → Q ⟨⟩ { s with heap := h, toks := tk }) → wpAny M A (forIn (xs.zip vals) ⟨⟩ f) Q E s
  | [], [], [], σ, σ', s, Q, _, I, _, e, h => by
    cases e
    rw [List.zip_nil_left, List.forIn_nil]
    exact wpAny_pure (h s.heap s.toks KeepBut.refl I)
  | x :: xs, v :: vs, val :: vals, σ, σ', s, Q, hp, I, hi, e, h => by
    unfold argsPlace at hp
    rw [List.all_cons, Bool.and_eq_true, Bool.and_eq_true] at hp
    unfold placeArgs at e
    rw [List.zip_cons_cons, List.forIn_cons, hf]
    have hx : C.names[C.names.idxOf x]? = some x := idxOf_get (by simpa using hp.1.1)
    refine wpAny_bind (wpAny_bind (Inv.store I hx hp.1.2 hi.1 fun h' tk' k' I' => wpAny_pure ?_))
    exact bind_argsV f hf xs vs vals _ σ' { s with heap := h', toks := tk' } Q hp.2 I' (hi.2.keepX k' I.mx) e fun h2 tk2 k2 I2 => h h2 tk2 (k'.trans k2) I2
  | [], [], _ :: _, _, _, _, _, _, _, hi, _, _ => hi.elim
  | [], _ :: _, _, _, _, _, _, _, _, _, e, _ => by unfold placeArgs at e; cases e
  | _ :: _, [], _, _, _, _, _, _, _, _, e, _ => by unfold placeArgs at e; cases e
  | _ :: _, _ :: _, [], _, _, _, _, _, _, hi, _, _ => hi.elim

theorem lookup_mem {α : Type} [BEq α] {l : List (Str × α)} {x : Str} {v : α} (h : l.lookup x = some v) : (x, v) ∈ l := PySem.mem_of_lookup h

noncomputable def ownOK (C : St) : Bool := C.own.all fun x => C.scope.names.lookup x == some .cell

/-- the making of a function's frame -/
theorem new_frameV {prog : Program} {w : World} {A : Around} {E : Value → Shared → Prop} {s : Shared} {C : St} {D : GD} {X : Addr → Prop} {base : Heap} {qual : Str} {func : Option Addr} {code : Value} {xs : List Str} {vs : List V} {vals : List Value} {σ : List V} {ma : Option Addr} {dc : Dyn} (hdX : dc.X = X) (hdm : dc.ma = ma) {Q : Env → Shared → Prop}
    (hkind : C.scope.kind = .function) (hown : ownOK C = true) (hnd : C.names.Nodup) (hargs : argsPlace C xs = true) (hm : C.mode = 0 → ma = none) (G : GF D base) (hb : base.StaysIn s.heap) (hX : ∀ a, X a → ∃ o, s.heap.get? a = some o) (hma : ∀ a, ma = some a → (∃ o, s.heap.get? a = some o) ∧ base.get? a = none ∧ ¬ X a)
    (hi : ValAll dc s.heap vs vals) (hp : placeArgs C xs vs (unbs C.names.length) = some σ)
    (h : ∀ d h' tk, (∀ a, X a → d.X a) → (∀ a, d.X a → X a ∨ s.heap.get? a = none) → d.ma = ma → d.base = base → d.D = D → Inv C d σ h' → Q d.env { s with heap := h', toks := tk }) :
    wpAny (model prog w) A (newFunctionEnv C.scope mainGlobals [] (xs.zip vals) qual func code none builtinsNs) Q E s := by
  simp only [newFunctionEnv, Option.isSome_none, Bool.false_eq_true, if_false]
  refine wpAny_bind (wpAny_alloc ?_)
  refine wpAny_bind (wpAny_layCells _ (fun name kind cells => by cases hkc : kind == NameKind.cell <;> simp [hkc]) _ _ _ _ ?_)
  have sz : (s.heap.push { cls := .type "frame", data := .dict #[] }).objs.size = s.heap.objs.size + 1 := Heap.size_push ..
  obtain ⟨c1, c2, c3, c4⟩ := cellsFrom_inv C.scope.names (s.heap.push { cls := .type "frame", data := .dict #[] }).objs.size [] (fun _ _ e => nomatch e) (fun _ _ _ e => nomatch e)
  have fresh : ∀ a, s.heap.objs.size ≤ a → s.heap.get? a = none := fun a ha => by
    cases e : s.heap.get? a with
    | none => rfl
    | some o' => exact absurd (Heap.lt_size e) (Nat.not_lt.mpr ha)
  have bfresh : ∀ a, s.heap.objs.size ≤ a → base.get? a = none := fun a ha => by
    cases e : base.get? a with
    | none => rfl
    | some o' => have := hb _ _ e; rw [fresh a ha] at this; cases this
  generalize hcs : cellsFrom (s.heap.push { cls := .type "frame", data := .dict #[] }).objs.size C.scope.names [] = cs at c1 c2 c3 c4 ⊢
  generalize hH : pushCells (s.heap.push { cls := .type "frame", data := .dict #[] }) C.scope.names = H
  have hHs : H.objs.size = s.heap.objs.size + 1 + cellCount C.scope.names := by rw [← hH, pushCells_size, sz]
  have hold : s.heap.StaysIn H := fun b o e => hH ▸ pushCells_keeps _ _ _ _ (Heap.get?_push_of_some _ e)
  let d : Dyn := ⟨{ scope := C.scope, locals := s.heap.objs.size, globals := mainGlobals, cells := cs, qual, func, code, frame := some s.heap.objs.size, builtins := builtinsNs }, (fun a => X a ∨ (s.heap.objs.size ≤ a ∧ a < H.objs.size)), ma, base, D⟩
  have up : ∀ b o, s.heap.get? b = some o → ¬ (s.heap.objs.size ≤ b ∧ b < H.objs.size) := fun b o e q => by
    have := fresh b q.1; rw [e] at this; cases this
  have hstays : base.StaysIn H := stays_trans hb hold
  have I0 : Inv C d (unbs C.names.length) H := {
    scope := rfl
    kind := hkind
    globals := rfl
    builtins := rfl
    gf := G
    stays := hstays
    xin := fun a xa => by
      rcases xa with (xa | xa) | xa
      · obtain ⟨o, e⟩ := hX a xa; exact ⟨o, hold _ _ e⟩
      · obtain ⟨xa1, xa2⟩ := xa
        have xa1 : (s.heap.objs.size : Nat) ≤ a := xa1
        have xa2 : (a : Nat) < H.objs.size := xa2
        rw [hHs] at xa2
        by_cases e : a = s.heap.objs.size
        · subst e
          exact ⟨_, hH ▸ pushCells_keeps _ _ _ _ (Heap.get?_push_size _ rfl)⟩
        · have e : ¬ (a : Nat) = s.heap.objs.size := e
          obtain ⟨o, ho, _⟩ := pushCells_cell C.scope.names (s.heap.push { cls := .type "frame", data := .dict #[] }) a (by rw [sz]; exact Nat.lt_of_le_of_ne xa1 (Ne.symm e)) (by rw [sz]; exact xa2)
          exact ⟨o, hH ▸ ho⟩
      · obtain ⟨⟨o, e⟩, _⟩ := hma a xa; exact ⟨o, hold _ _ e⟩
    lx := .inr ⟨Nat.le_refl _, by rw [hHs]; exact Nat.lt_of_lt_of_le (Nat.lt_succ_self _) (Nat.le_add_right _ _)⟩
    lb := bfresh _ (Nat.le_refl _)
    mb := fun a e => (hma a e).2.1
    mx := fun a e q => by
      rcases q with q | q
      · exact (hma a e).2.2 q
      · obtain ⟨⟨o, e'⟩, _⟩ := hma a e
        exact up a o e' q
    m0 := hm
    own := fun x hx => by
      have hk : C.scope.names.lookup x = some .cell := nk_eq (by
        unfold ownOK at hown
        exact List.all_eq_true.mp hown x hx)
      obtain ⟨c, hc, hle⟩ := c4 x (lookup_mem hk)
      have hlt := (c1 x c hc).1
      rw [sz] at hle hlt
      have hle' := Nat.le_of_succ_le hle
      refine ⟨hk, c, hc, .inr ⟨hle', by rw [hHs]; exact hlt⟩, bfresh c hle', none, ?_⟩
      rw [← hH]
      exact pushCells_cell C.scope.names _ c (by rw [sz]; exact hle) (by rw [sz]; exact hlt)
    inj := c2
    ndup := hnd
    vars := ⟨_, hH ▸ ((Heap.Ns.new s.heap (.type "frame")).keeps (pushCells_keeps _ _)), fun i x v _ hv => .inl (unbs_get hv)⟩ }
  refine wpAny_bind ?_
  refine bind_argsV (d := d) _ (fun _ _ _ => rfl) xs vs vals _ σ _ _ hargs I0 ?_ hp fun h' tk k I => wpAny_pure ?_
  · have key : ∀ (vs : List V) (vals : List Value), ValAll dc s.heap vs vals → ValAll d H vs vals := by
      intro vs
      induction vs with
      | nil => intro vals hh; cases vals with
        | nil => trivial
        | cons _ _ => exact hh.elim
      | cons v vs ih => intro vals hh; cases vals with
        | nil => exact hh.elim
        | cons x vals =>
          refine ⟨hh.1.to (fun a e => ⟨by show ma = some a; rw [← hdm]; exact e, fun o eo => hold _ _ eo⟩) (fun a o ho n => ⟨fun q => ?_, hold _ _ ho⟩), ih vals hh.2⟩
          rcases q with (q | q) | q
          · exact n (.inl (by rw [hdX]; exact q))
          · exact up a o ho q
          · exact n (.inr (by rw [hdm]; exact q))
    exact key vs vals hi
  · exact h d h' tk (fun a => .inl) (fun a q => q.imp id fun q => fresh a q.1) rfl rfl rfl I


end
end Mine

/- B9 -/

namespace Mine
section

theorem Room.deeper {k : Nat} {A : Around} {env : Env} (R : Room (k + 1) A) (hh : (A.deeper env).handled = none) : Room k (A.deeper env) := by
  have h1 : (A.deeper env).depth = A.depth + 1 := rfl
  have h2 : (A.deeper env).units = A.units + 3 := rfl
  obtain ⟨a, b, c⟩ := R
  refine ⟨hh, ?_, ?_⟩
  · rw [h1]; omega
  · rw [h2]; omega

noncomputable def bodyV (g : List V → R) (o : Option (List V)) : Option V := match o with
  | some σ => (match g σ with
    | .ret v => some v
    | .next _ => some .none
    | .bad => none)
  | none => none

section
variable (prog : Program) (w : World)
noncomputable def CallSim (i k : Nat) (f : List V → Option V) : Prop :=
  ∀ (nm : Str) (ps : Arguments) (bd : List Stmt) (sc : Scope), fnAt i = some (nm, ps, bd, sc) → ∀ (D : GD) (X : Addr → Prop) (A : Around) (s : Shared) (a : Addr) (vs : List V) (xs : List Value) (R : Result → Shared → Prop),
    Room k A → GF D s.heap → IsFn s.heap a nm ps bd sc → (∀ b, X b → ∃ o, s.heap.get? b = some o) → IsAll X s.heap vs xs →
    (match f vs with
      | none => False
      | some r => ∀ y h tk, s.heap.StaysIn h → Is X h r y → R (.ok (.ret y)) { s with heap := h, toks := tk }) → codeAny (model prog w) A (.call (.ref a) ⟨xs, []⟩) R s
end

variable {prog : Program} {w : World} {C : St}

theorem CallSim.of {i : Nat} {nm : Str} {ps : Arguments} {bd : List Stmt} {args : List Str} {g : List V → R} (hf : fnAt i = some (nm, ps, bd, C.scope)) (hb : SimB prog w C bd g)
    (hbind : ∀ (doc pm : Value) (an : Option Addr) (cdv ct : Value) (xs : List Value), xs.length = args.length → bindArgs (fnX nm nm ps bd C.scope [] .none .none doc pm an cdv ct) ⟨xs, []⟩ = pure (args.zip xs))
    (hkind : C.scope.kind = .function) (hco : C.scope.isCoroutine = false) (hgen : C.scope.isGenerator = false) (hown : ownOK C = true) (hnd : C.names.Nodup) (hargs : argsPlace C args = true) (hm : C.mode = 0) :
    CallSim prog w i (C.room + 1) (fun vs => bodyV g (placeArgs C args vs (unbs C.names.length))) := by
  intro nm' ps' bd' sc' hf' D X A s a vs xs R rm G F hX hi W
  rw [hf] at hf'
  cases hf'
  dsimp only at W
  cases e1 : placeArgs C args vs (unbs C.names.length) with
  | none => rw [e1] at W; exact W.elim
  | some σ =>
    have hlen : xs.length = args.length := by
      rw [← hi.length]
      have : ∀ (as : List Str) (vs : List V) (τ σ : List V), placeArgs C as vs τ = some σ → vs.length = as.length := by
        intro as
        induction as with
        | nil => intro vs τ σ h; cases vs with
          | nil => rfl
          | cons _ _ => cases h
        | cons x as ih => intro vs τ σ h; cases vs with
          | nil => cases h
          | cons v vs => simp only [List.length_cons, ih vs _ σ h]
      exact this args vs _ σ e1
    obtain ⟨fo, doc, pm, an, cdv, ct, ho, hd, hcd⟩ := F
    refine codeAny_call_function (fd := fnX nm nm ps bd C.scope [] .none .none doc pm an cdv ct) (body := bd) (by have := rm.2.1; omega) ho hd hco hgen rfl hcd ?_
    rw [hbind doc pm an cdv ct xs hlen]
    refine wpAny_pure ?_
    refine new_frameV (C := C) (D := D) (X := X) (base := s.heap) (ma := none) (vs := vs) (dc := ⟨{ scope := C.scope, locals := 0, globals := 0, cells := [], qual := nm, func := none, code := .none, frame := none, builtins := 0 }, X, none, s.heap, D⟩) rfl rfl hkind hown hnd hargs (fun _ => rfl) G stays_refl hX (fun _ e => nomatch e) ?_ e1 ?_
    · refine ValAll.of (IsAll.to (fun a o ho n => ⟨fun q => ?_, ho⟩) hi)
      rcases q with q | q
      · exact n q
      · cases q
    · intro d h' tk x1 x2 x3 x4 x5 I
      have x4' : d.base = s.heap := x4
      refine ⟨G.nolimit.keeps (x4' ▸ I.stays), codeAny_func ?_⟩
      refine hb d _ { s with heap := h', toks := tk } σ _ _ (Room.deeper rm rm.1) I ?_
      rw [e1] at W
      unfold bodyV at W
      dsimp only at W
      cases e2 : g σ with
      | bad => rw [e2] at W; exact W.elim
      | next σ' =>
        rw [e2] at W
        intro h2 tk2 k2 I2
        exact W .none h2 tk2 (x4' ▸ I2.stays) (by simp only [Is])
      | ret v =>
        rw [e2] at W
        intro x h2 tk2 k2 b2 i2
        exact W x h2 tk2 (x4' ▸ b2) (i2.weaken x1)

theorem eval_def {d : Dyn} {A : Around} {s : Shared} {σ : List V} {Q : Value → Shared → Prop} {E : Value → Shared → Prop} {p : Pos} {i : Nat} {nm : Str} {ps : Arguments} {bd : List Stmt} {sc : Scope} (I : Inv C d σ s.heap)
    (hf : fnAt i = some (nm, ps, bd, sc)) (hk : (C.scope.names.lookup nm == some .globalImplicit) = true) (hp : plainName nm = true) (h : ∀ a, IsFn s.heap a nm ps bd sc → Q (.ref a) s) : wpAny (model prog w) A (eval (.Name nm p) d.env) Q E s := by
  obtain ⟨a, h1, h2⟩ := I.gf.fns i nm ps bd sc hf
  have G := I.gf.keeps I.stays
  refine Name_function_global (by rw [I.scope]; exact I.kind) (by show d.env.scope.names.lookup nm = _; rw [I.scope]; exact nk_eq hk) ?_ (plainName_d hp)
  exact loadGlobal_global (mg := d.D.mg) (by rw [I.globals]; exact G.g) h1 (h a (h2.keeps I.stays))
theorem eval_bi {d : Dyn} {A : Around} {s : Shared} {σ : List V} {Q : Value → Shared → Prop} {E : Value → Shared → Prop} {p : Pos} {nm : Str} {v : Value} (I : Inv C d σ s.heap)
    (hf : (nm, v) ∈ builtinsUsed) (hk : (C.scope.names.lookup nm == some .globalImplicit) = true) (hp : plainName nm = true) (h : Q v s) : wpAny (model prog w) A (eval (.Name nm p) d.env) Q E s := by
  obtain ⟨h1, h2⟩ := I.gf.bi (nm, v) hf
  have G := I.gf.keeps I.stays
  refine Name_function_global (by rw [I.scope]; exact I.kind) (by show d.env.scope.names.lookup nm = _; rw [I.scope]; exact nk_eq hk) ?_ (plainName_d hp)
  exact loadGlobal_builtin (mg := d.D.mg) (mb := d.D.mb) (by rw [I.globals]; exact G.g) h1 (by rw [I.builtins]; exact G.b) h2 h

noncomputable def plainStar (e : Expr) : Prop := ∀ r env, starEach (e :: r) env = (false, eval e env) :: starEach r env

theorem SimE.call {e : Expr} {r : List Expr} {p pos : Pos} {fa : List V → Option (List V)} {cf : List V → Option V} {i k : Nat} {nm : Str} {ps : Arguments} {bd : List Stmt} {sc : Scope} (hc : CallSim prog w i k cf) (ha : SimL prog w C (e :: r) fa)
    (hf : fnAt i = some (nm, ps, bd, sc)) (hr : Nat.ble k C.room = true := by rfl) (hk : (C.scope.names.lookup nm == some .globalImplicit) = true := by decide +kernel) (hp : plainName nm = true := by decide +kernel)
    (he : plainStar e := by intro _ _; rfl) (hce : ∀ env, eval (.Call (.Name nm p) (e :: r) [] pos) env = (do callWith pos (← eval (.Name nm p) env) [] (backTo pos (starEach (e :: r) env)) (backToKw pos (keywordEach [] env))) := by intro _; rfl) :
    SimE prog w C (.Call (.Name nm p) (e :: r) [] pos) (fun σ => one2 (fa σ) cf) := by
  intro d A s σ Q E rm I W
  obtain ⟨v, e0, W⟩ := W.get
  dsimp only at e0
  obtain ⟨vs, e1, e2⟩ := one2_some e0
  refine Call_ ?_ (hce _)
  refine eval_def I hf hk hp fun a F => ?_
  obtain ⟨fo, doc, pm, an, cdv, ct, ho, hd, hcd⟩ := id F
  refine callWith_def (o := fo) hd ?_ (he _ _)
  refine ha.run rm I e1 fun xs h tk kk hx I1 => ?_
  refine ⟨kk _ _ ho, wpAny_call ?_⟩
  refine hc nm ps bd sc hf d.D d.Xp A { s with heap := h, toks := tk } a vs xs _ (rm.le (Nat.le_of_ble_eq_true hr)) (I1.gf.keeps I1.stays) (F.keeps kk) I1.xin hx ?_
  rw [e2]
  exact fun y h2 tk2 k2 hy => W y h2 tk2 (stays_trans kk k2) hy

/- built-ins -/
theorem isAll1 {X : Addr → Prop} {h : Heap} {v : V} : ∀ {xs : List Value}, IsAll X h [v] xs → ∃ x, xs = [x] ∧ Is X h v x
  | [x], H => by
    simp only [IsAll, and_true] at H
    exact ⟨x, rfl, H⟩
  | [], H => by simp only [IsAll] at H
  | _ :: _ :: _, H => by simp only [IsAll, and_false] at H
theorem isAll2 {X : Addr → Prop} {h : Heap} {u v : V} : ∀ {xs : List Value}, IsAll X h [u, v] xs → ∃ x y, xs = [x, y] ∧ Is X h u x ∧ Is X h v y
  | x :: r, H => by
    simp only [IsAll] at H
    obtain ⟨y, rfl, hy⟩ := isAll1 H.2
    exact ⟨x, y, rfl, H.1, hy⟩
  | [], H => by simp only [IsAll] at H
section
variable (prog : Program) (w : World)
noncomputable def BSim (bv : Value) (f : List V → Option V) : Prop :=
  ∀ (X : Addr → Prop) (A : Around) (s : Shared) (vs : List V) (xs : List Value) (Q : Value → Shared → Prop) (E : Value → Shared → Prop), Room 0 A → (∀ b, X b → ∃ o, s.heap.get? b = some o) → IsAll X s.heap vs xs → WantsV X Q s (f vs) →
    wpAny (model prog w) A (PySem.call bv xs) Q E s
end
theorem SimE.callB {e : Expr} {r : List Expr} {p pos : Pos} {fa : List V → Option (List V)} {cf : List V → Option V} {nm : Str} {id : String} (hc : BSim prog w (.builtin id) cf) (ha : SimL prog w C (e :: r) fa)
    (hf : (nm, Value.builtin id) ∈ builtinsUsed) (hk : (C.scope.names.lookup nm == some .globalImplicit) = true := by decide +kernel) (hp : plainName nm = true := by decide +kernel)
    (he : plainStar e := by intro _ _; rfl) (hpl : ∀ env, (backTo pos (starEach r env)).any (·.1) = false := by intro _; rfl) (hce : ∀ env, eval (.Call (.Name nm p) (e :: r) [] pos) env = (do callWith pos (← eval (.Name nm p) env) [] (backTo pos (starEach (e :: r) env)) (backToKw pos (keywordEach [] env))) := by intro _; rfl) :
    SimE prog w C (.Call (.Name nm p) (e :: r) [] pos) (fun σ => one2 (fa σ) cf) := by
  intro d A s σ Q E rm I W
  obtain ⟨v, e0, W⟩ := W.get
  dsimp only at e0
  obtain ⟨vs, e1, e2⟩ := one2_some e0
  refine Call_ ?_ (hce _)
  refine eval_bi I hf hk hp ?_
  refine callWith_builtin1 ?_ (he _ _) (hpl _)
  refine ha.run rm I e1 fun xs h tk kk hx I1 => ?_
  refine hc d.Xp A { s with heap := h, toks := tk } vs xs Q E (rm.le (Nat.zero_le _)) I1.xin hx ?_
  rw [e2]
  exact fun y h2 tk2 k2 hy => W y h2 tk2 (stays_trans kk k2) hy
theorem SimE.callT {e : Expr} {r : List Expr} {p pos : Pos} {fa : List V → Option (List V)} {cf : List V → Option V} {nm : Str} {id : String} (hc : BSim prog w (.type id) cf) (ha : SimL prog w C (e :: r) fa)
    (hf : (nm, Value.type id) ∈ builtinsUsed) (hk : (C.scope.names.lookup nm == some .globalImplicit) = true := by decide +kernel) (hp : plainName nm = true := by decide +kernel)
    (he : plainStar e := by intro _ _; rfl) (hpl : ∀ env, (backTo pos (starEach r env)).any (·.1) = false := by intro _; rfl) (hce : ∀ env, eval (.Call (.Name nm p) (e :: r) [] pos) env = (do callWith pos (← eval (.Name nm p) env) [] (backTo pos (starEach (e :: r) env)) (backToKw pos (keywordEach [] env))) := by intro _; rfl) :
    SimE prog w C (.Call (.Name nm p) (e :: r) [] pos) (fun σ => one2 (fa σ) cf) := by
  intro d A s σ Q E rm I W
  obtain ⟨v, e0, W⟩ := W.get
  dsimp only at e0
  obtain ⟨vs, e1, e2⟩ := one2_some e0
  refine Call_ ?_ (hce _)
  refine eval_bi I hf hk hp ?_
  refine callWith_type1 ?_ (he _ _) (hpl _)
  refine ha.run rm I e1 fun xs h tk kk hx I1 => ?_
  refine hc d.Xp A { s with heap := h, toks := tk } vs xs Q E (rm.le (Nat.zero_le _)) I1.xin hx ?_
  rw [e2]
  exact fun y h2 tk2 k2 hy => W y h2 tk2 (stays_trans kk k2) hy

noncomputable def lenV : List V → Option V
  | [.list vs] => some (.int vs.length)
  | _ => none
theorem BSim.len : BSim prog w (.builtin "len") lenV := by
  intro X A s vs xs Q E rm hX hi W
  obtain ⟨v, e, W⟩ := W.get
  unfold lenV at e
  split at e
  · rename_i us
    cases e
    obtain ⟨x, rfl, hq⟩ := isAll1 hi
    simp only [Is] at hq
    obtain ⟨a, items, rfl, _, hl, hz, hu⟩ := hq
    refine call_len_list hl.isList ?_ ?_
    · rw [List.size_toArray]; omega
    · have : (items.toArray.size : Int) = us.length := by rw [List.size_toArray, hu.length]
      rw [this]
      exact W _ s.heap _ stays_refl is_int
  · cases e
noncomputable def absV : List V → Option V
  | [.int i] => some (.int (if i < 0 then -i else i))
  | _ => none
theorem BSim.abs : BSim prog w (.builtin "abs") absV := by
  intro X A s vs xs Q E rm hX hi W
  obtain ⟨v, e, W⟩ := W.get
  unfold absV at e
  split at e
  · rename_i i
    cases e
    obtain ⟨x, rfl, hq⟩ := isAll1 hi
    simp only [Is] at hq
    obtain ⟨t, rfl⟩ := hq
    exact call_abs_int fun u tk => W _ s.heap tk stays_refl is_int
  · cases e
noncomputable def maxV : List V → Option V
  | [.int a, .int b] => some (.int (if b > a then b else a))
  | _ => none
theorem BSim.max : BSim prog w (.builtin "max") maxV := by
  intro X A s vs xs Q E rm hX hi W
  obtain ⟨v, e, W⟩ := W.get
  unfold maxV at e
  split at e
  · rename_i a b
    cases e
    obtain ⟨x, y, rfl, hq, hj⟩ := isAll2 hi
    simp only [Is] at hq hj
    obtain ⟨t, rfl⟩ := hq
    obtain ⟨u, rfl⟩ := hj
    refine max_two_ints rm.1 fun h' tk hk => ?_
    split
    · rename_i q
      rw [if_pos q] at W
      exact W _ h' tk (fun b o e => hk b o e) is_int
    · rename_i q
      rw [if_neg q] at W
      exact W _ h' tk (fun b o e => hk b o e) is_int
  · cases e
noncomputable def listV : List V → Option V
  | [.list vs] => some (.list vs)
  | _ => none
theorem fresh_X {X : Addr → Prop} {h : Heap} (hX : ∀ b, X b → ∃ o, h.get? b = some o) : ¬ X h.objs.size := fun x => by
  obtain ⟨o, e⟩ := hX _ x
  exact absurd (Heap.lt_size e) (Nat.lt_irrefl _)
theorem BSim.list : BSim prog w (.type "list") listV := by
  intro X A s vs xs Q E rm hX hi W
  obtain ⟨v, e, W⟩ := W.get
  unfold listV at e
  split at e
  · rename_i us
    cases e
    obtain ⟨x, rfl, hq⟩ := isAll1 hi
    simp only [Is] at hq
    obtain ⟨a, items, rfl, _, ⟨n, hl⟩, hz, hu⟩ := hq
    refine call_list_seq a (.inl rfl) hl rfl rfl (fun h' c' hk hn => ?_) (by rw [List.size_toArray]; exact Nat.le_trans hz sizeLine_ge)
    refine W _ h' s.toks hk ?_
    simp only [Is]
    exact ⟨_, items, rfl, fresh_X hX, ⟨c', hn⟩, hz, hu.mono hk⟩
  · cases e
noncomputable def intV : List V → Option V
  | [.int i] => some (.int i)
  | _ => none
theorem BSim.int : BSim prog w (.type "int") intV := by
  intro X A s vs xs Q E rm hX hi W
  obtain ⟨v, e, W⟩ := W.get
  unfold intV at e
  split at e
  · rename_i i
    cases e
    obtain ⟨x, rfl, hq⟩ := isAll1 hi
    simp only [Is] at hq
    obtain ⟨t, rfl⟩ := hq
    exact call_int_int (W _ s.heap _ stays_refl is_int)
  · cases e

end
end Mine

/- B10 -/

namespace Mine
section
variable {prog : Program} {w : World} {C : St}

noncomputable def NotCell (o : Obj) : Prop := ∀ v, o.data ≠ .cell v

theorem Inv.changeS {d : Dyn} {σ : List V} {h h' : Heap} {P : Addr → Prop} (I : Inv C d σ h) (hs : ∀ b o, ¬ P b → h.get? b = some o → h'.get? b = some o)
    (hP : ∀ b, P b → d.base.get? b = none ∧ b ≠ d.env.locals ∧ d.ma ≠ some b ∧ (∀ o, h.get? b = some o → NotCell o ∧ (d.X b ∨ ¬ ValObj o)) ∧ (d.Xp b → ∃ o, h'.get? b = some o)) : Inv C d σ h' := by
  have hXp : ∀ a o, h.get? a = some o → ValObj o → ¬ d.Xp a → ¬ d.Xp a ∧ h'.get? a = some o := fun a o e vo n => ⟨n, hs a o (fun q => by
    obtain ⟨_, _, _, q4, _⟩ := hP a q
    rcases (q4 o e).2 with hv | hv
    · exact n (.inl hv)
    · exact hv vo) e⟩
  have cell : ∀ c v, h.IsCell c v → h'.IsCell c v := fun c v ⟨o, e, hd⟩ => ⟨o, hs c o (fun q => by
    obtain ⟨_, _, _, q4, _⟩ := hP c q
    exact (q4 o e).1 v hd) e, hd⟩
  refine { I with stays := ?_, xin := ?_, own := ?_, vars := ?_ }
  · intro b o e
    exact hs b o (fun q => by rw [(hP b q).1] at e; cases e) (I.stays b o e)
  · intro a xa
    by_cases q : P a
    · exact (hP a q).2.2.2.2 xa
    · obtain ⟨o, e⟩ := I.xin a xa; exact ⟨o, hs a o q e⟩
  · intro x hx
    obtain ⟨q, c, a, b, e, v₀, f⟩ := I.own x hx
    exact ⟨q, c, a, b, e, v₀, cell _ _ f⟩
  · obtain ⟨m, hn, H⟩ := I.vars
    refine ⟨m, hn.at' fun o e => hs _ o (fun q => (hP _ q).2.1 rfl) e, fun i x v a b => (H i x v a b).imp id fun ⟨val, hh, hw⟩ => ⟨val, ?_, ?_⟩⟩
    · exact hh.imp id fun ⟨c, a, b, e⟩ => ⟨c, a, b, cell _ _ e⟩
    · exact hw.toV (fun a e => ⟨e, fun o eo => hs a o (fun q => (hP a q).2.2.1 e) eo⟩) hXp

/-- a change at one place that no variable refers to -/
theorem Inv.change {d : Dyn} {σ : List V} {h h' : Heap} {b0 : Addr} {o0 : Obj} (I : Inv C d σ h) (hs : ∀ b o, b ≠ b0 → h.get? b = some o → h'.get? b = some o) (ho : h.get? b0 = some o0) (hc : NotCell o0)
    (hb : d.base.get? b0 = none) (hL : b0 ≠ d.env.locals) (hm : d.ma ≠ some b0) (hv : d.X b0 ∨ ¬ ValObj o0) (he : d.Xp b0 → ∃ o, h'.get? b0 = some o) : Inv C d σ h' := I.changeS (P := fun b => b = b0) hs fun b e => by
    subst e
    exact ⟨hb, hL, hm, fun o e => by rw [ho] at e; cases e; exact ⟨hc, hv⟩, he⟩

noncomputable def IterObj (o : Obj) : Prop := ¬ ValObj o ∧ NotCell o
theorem IterObj.of {o : Obj} {T : String} {vs : Array Value} (hc : o.cls = .type T) (hd : o.data = .fields vs) (h1 : T ≠ "list") (h2 : T ≠ "tuple") (h3 : T ≠ "dict") : IterObj o := by
  refine ⟨fun q => ?_, fun v e => by rw [hd] at e; cases e⟩
  rcases q with q | q | q <;> (rw [hc] at q; injection q with q; contradiction)

section
variable (prog : Program) (w : World)
noncomputable def Yields (Xs Xv : Addr → Prop) (I : Addr) (h0 : Heap) : List V → Obj → Prop
  | [], o => IterObj o ∧ ∀ (A : Around) (s : Shared) (Q : Option Value → Shared → Prop) (E : Value → Shared → Prop), A.handled = none → s.heap.get? I = some o → (∀ b o', b ≠ I → ¬ Xs b → h0.get? b = some o' → s.heap.get? b = some o') →
      (∀ h' tk, (∀ b o', b ≠ I → s.heap.get? b = some o' → h'.get? b = some o') → Q none { s with heap := h', toks := tk }) → wpAny (model prog w) A (pyNext (.ref I)) Q E s
  | v :: r, o => IterObj o ∧ ∀ (A : Around) (s : Shared) (Q : Option Value → Shared → Prop) (E : Value → Shared → Prop), A.handled = none → s.heap.get? I = some o → (∀ b o', b ≠ I → ¬ Xs b → h0.get? b = some o' → s.heap.get? b = some o') →
      (∀ x h' o' tk, (∀ b o', b ≠ I → s.heap.get? b = some o' → h'.get? b = some o') → h'.get? I = some o' → Is Xv h0 v x → Yields Xs Xv I h0 r o' → Q (some x) { s with heap := h', toks := tk }) → wpAny (model prog w) A (pyNext (.ref I)) Q E s

noncomputable def SelfIter (I : Addr) (o : Obj) : Prop := ∀ (A : Around) (s : Shared) (Q : Value → Shared → Prop) (E : Value → Shared → Prop), s.heap.get? I = some o → Q (.ref I) s → wpAny (model prog w) A (pyIter (.ref I)) Q E s
noncomputable def SimI (C : St) (e : Expr) (f : List V → Option (List V)) : Prop :=
  ∀ (d : Dyn) (A : Around) (s : Shared) (σ : List V) (Q : Value → Shared → Prop) (E : Value → Shared → Prop), Room C.room A → Inv C d σ s.heap → (match f σ with
    | none => False
    | some vs => ∀ I o h0 h tk, s.heap.StaysIn h0 → h0.get? I = none → h0.StaysIn h → h.get? I = some o → Yields prog w (Xw C d) d.Xp I h0 vs o → SelfIter prog w I o → Q (.ref I) { s with heap := h, toks := tk }) →
    wpAny (model prog w) A (eval e d.env) (fun x s₁ => wpAny (model prog w) A (pyIter x) Q E s₁) E s
end

theorem Yields.iter {Xs Xv : Addr → Prop} {I : Addr} {h0 : Heap} {vs : List V} {o : Obj} (Y : Yields prog w Xs Xv I h0 vs o) : IterObj o := by
  cases vs <;> exact Y.1

theorem Yields.to {Xs Xv Xs' Xv' : Addr → Prop} {I : Addr} {h0 : Heap} (h1 : ∀ b o, h0.get? b = some o → ¬ Xs b → ¬ Xs' b) (h2 : ∀ b o, h0.get? b = some o → ¬ Xv b → ¬ Xv' b) : ∀ {vs : List V} {o : Obj}, Yields prog w Xs Xv I h0 vs o → Yields prog w Xs' Xv' I h0 vs o
  | [], o, Y => ⟨Y.1, fun A s Q E hh hI hk hQ => Y.2 A s Q E hh hI (fun b o' n x e => hk b o' n (h1 b o' e x) e) hQ⟩
  | v :: r, o, Y => ⟨Y.1, fun A s Q E hh hI hk hQ => Y.2 A s Q E hh hI (fun b o' n x e => hk b o' n (h1 b o' e x) e) fun x h' o' tk k e i y =>
      hQ x h' o' tk k e (Is.to (fun a o ho n => ⟨h2 a o ho n, ho⟩) i) (Yields.to h1 h2 y)⟩

theorem Yields.walks {Xs Xv : Addr → Prop} {I : Addr} {h0 : Heap} {fp : List Addr} {n : Nat} {P : Nat → Value → Prop} {St : Nat → Heap → Prop} {vs : List V} (W : ∀ A : Around, A.handled = none → Walks prog w A I fp [I] n P St)
    (hfp : ∀ b ∈ fp, b = I ∨ (¬ Xs b ∧ ∃ o, h0.get? b = some o)) (hP : ∀ j v x, vs[j]? = some v → P j x → Is Xv h0 v x) (hlen : vs.length = n) (hI : ∀ i h, St i h → ∃ o, h.get? I = some o ∧ IterObj o) :
    ∀ (k i : Nat) (o : Obj), i + k = n → IterObj o → (∀ h, h.get? I = some o → (∀ b o', b ≠ I → ¬ Xs b → h0.get? b = some o' → h.get? b = some o') → St i h) → Yields prog w Xs Xv I h0 (vs.drop i) o
  | 0, i, o, hi, io, hst => by
    rw [List.drop_eq_nil_of_le (by omega)]
    refine ⟨io, fun A s Q E hh he hk hQ => ?_⟩
    have st := hst s.heap he hk
    have : i = n := by omega
    subst this
    exact (W A hh).done s Q E st fun h' tk k => hQ h' tk fun b o' nb e => k b o' (by simpa using nb) e
  | k + 1, i, o, hi, io, hst => by
    have hlt : i < vs.length := by omega
    rw [List.drop_eq_getElem_cons hlt]
    refine ⟨io, fun A s Q E hh he hk hQ => ?_⟩
    have st := hst s.heap he hk
    refine (W A hh).item i s Q E (by omega) st fun x h' tk px st' kk => ?_
    obtain ⟨o', e', io'⟩ := hI _ _ st'
    refine hQ x h' o' tk (fun b o' nb e => kk b o' (by simpa using nb) e) e' (hP i _ x (List.getElem?_eq_getElem hlt) px) ?_
    refine Yields.walks W hfp hP hlen hI k (i + 1) o' (by omega) io' fun h2 e2 k2 => ?_
    refine (W A hh).frame (i + 1) h' h2 st' fun b hb ob eb => ?_
    rcases hfp b hb with q | ⟨q1, ob', q2⟩
    · subst q; rw [e'] at eb; cases eb; exact e2
    · by_cases q : b = I
      · subst q; rw [e'] at eb; cases eb; exact e2
      · have := kk b ob' (by simpa using q) (hk b ob' q q1 q2)
        rw [this] at eb; cases eb
        exact k2 b _ q q1 q2

/- sources -/
theorem push_get_new {h : Heap} {o : Obj} (hf : o.isFreed = false) : (h.push o).get? h.objs.size = some o := Heap.get?_push_size _ hf
theorem fresh_none {h : Heap} : h.get? h.objs.size = none := by
  cases e : h.get? h.objs.size with
  | none => rfl
  | some o => exact absurd (Heap.lt_size e) (Nat.lt_irrefl _)

theorem SimI.list {e : Expr} {f : List V → Option V} (H : SimE prog w C e f) : SimI prog w C e (fun σ => match f σ with
    | some (.list vs) => some vs
    | _ => none) := by
  intro d A s σ Q E rm I W
  dsimp only at W
  cases e1 : f σ with
  | none => rw [e1] at W; exact W.elim
  | some v =>
    rw [e1] at W
    refine H.run rm I e1 fun x h tk k hx I1 => ?_
    cases v <;> try exact W.elim
    rename_i vs
    dsimp only at W
    simp only [Is] at hx
    obtain ⟨a, items, rfl, hXa, hl, hz, hi⟩ := hx
    refine wpAny_pyIter_list (s := { s with heap := h, toks := tk }) hl.isList ?_
    have hne : a ≠ h.objs.size := by
      rintro rfl
      obtain ⟨_, e⟩ := hl
      rw [fresh_none] at e; cases e
    obtain ⟨ep, hl'⟩ := id hl
    refine W h.objs.size { cls := .type "list_iterator", data := .fields #[.ref a, .int 0 0] } h _ tk k fresh_none (stays_push _) (push_get_new rfl) ?_ (fun A s Q E e h => wpAny_pyIter_listiter ⟨_, e, rfl, rfl⟩ h)
    have := Yields.walks (prog := prog) (w := w) (Xs := Xw C d) (Xv := d.Xp) (I := h.objs.size) (h0 := h) (vs := vs) (n := items.toArray.size) (fun A hh => Walks.list (prog := prog) (w := w) hh h.objs.size a hne items.toArray) ?_ ?_ (by rw [List.size_toArray]; exact hi.length) ?_ items.toArray.size 0
      { cls := .type "list_iterator", data := .fields #[.ref a, .int 0 0] } (by omega) (IterObj.of rfl rfl (by decide) (by decide) (by decide)) ?_
    · rwa [List.drop_zero] at this
    · intro b hb
      rcases List.mem_cons.mp hb with q | q
      · exact .inl q
      · rw [List.mem_singleton.mp q]
        exact .inr ⟨fun q => hXa (Xw_Xp q), _, hl'⟩
    · intro j v x hv px
      obtain ⟨y, hy, iy⟩ := hi.get hv
      have : items.toArray[j]? = some x := px
      rw [List.getElem?_toArray, hy] at this
      cases this
      exact iy
    · rintro i h2 ⟨⟨o, ho, hc, hd⟩, _⟩
      exact ⟨o, ho, IterObj.of hc hd (by decide) (by decide) (by decide)⟩
    · intro h2 e2 k2
      refine ⟨⟨_, e2, rfl, rfl⟩, hl.isList.at fun o eo => k2 a o hne (fun q => hXa (Xw_Xp q)) eo⟩

theorem call_range {A : Around} {s : Shared} {a b : Int} {t u : Tok} {Q : Value → Shared → Prop} {E : Value → Shared → Prop}
    (h : ∀ t v h' tk, s.heap.StaysIn h' → IsRange h' s.heap.objs.size a b 1 t u v → h'.objs.size = s.heap.objs.size + 1 → Q (.ref s.heap.objs.size) { s with heap := h', toks := tk }) : wpAny (model prog w) A (PySem.call (.type "range") [.int a t, .int b u]) Q E s :=
  call_range_2 (h t s.toks _ _ (stays_push _) (Heap.get?_push_size _ rfl) (Heap.size_push ..))

end
end Mine

/- B11 -/

namespace Mine
section
variable {prog : Program} {w : World} {C : St}

noncomputable def rangeL (a : Int) : Nat → List V
  | 0 => []
  | n + 1 => .int a :: rangeL (a + 1) n
theorem rangeL_length (a : Int) : ∀ n, (rangeL a n).length = n
  | 0 => rfl
  | n + 1 => by
    show (rangeL (a + 1) n).length + 1 = n + 1
    rw [rangeL_length (a + 1) n]
theorem rangeL_get : ∀ (n : Nat) (a : Int) (j : Nat) (v : V), (rangeL a n)[j]? = some v → v = .int (a + j)
  | 0, a, j, v, h => by simp [rangeL] at h
  | n + 1, a, 0, v, h => by simp [rangeL] at h; rw [← h]; simp
  | n + 1, a, j + 1, v, h => by
    simp only [rangeL, List.getElem?_cons_succ] at h
    rw [rangeL_get n (a + 1) j v h]
    congr 1
    push_cast
    omega

noncomputable def rangeV : List V → Option (List V)
  | [.int b] => match decide (-4096 ≤ b) && decide (b ≤ 4096) with
    | true => some (rangeL 0 b.toNat)
    | false => none
  | [.int a, .int b] => match (decide (-4096 ≤ a) && decide (a ≤ 4096)) && (decide (-4096 ≤ b) && decide (b ≤ 4096)) with
    | true => some (rangeL a (b - a).toNat)
    | false => none
  | _ => none

theorem yields_range {d : Dyn} {A : Around} {s : Shared} {Q : Value → Shared → Prop} {E : Value → Shared → Prop} {a b : Int} {t u v : Tok} {r : Addr} (hr : IsRange s.heap r a b 1 t u v) (ha : -4096 ≤ a) (hb : b ≤ 4096) (hba : -4096 ≤ b) (haa : a ≤ 4096 + 4096)
    (h : ∀ I o h0 h tk, s.heap.StaysIn h0 → h0.get? I = none → h0.StaysIn h → h.get? I = some o → Yields prog w (Xw C d) d.Xp I h0 (rangeL a (b - a).toNat) o → SelfIter prog w I o → Q (.ref I) { s with heap := h, toks := tk }) : wpAny (model prog w) A (pyIter (.ref r)) Q E s := by
  refine wpAny_pyIter_range hr (small_one (by omega) (by omega) (by omega) (by omega)) ?_
  have hn : Builtin.Range.rangeSize a b 1 = (((b - a).toNat : Nat) : Int) := by
    rw [rangeSize_one]
    split <;> omega
  rw [hn]
  refine h s.heap.objs.size { cls := .type "range_iterator", data := .fields #[rawInt a, rawInt (((b - a).toNat : Nat) : Int), rawInt 1] } s.heap _ s.toks stays_refl fresh_none (stays_push _) (push_get_new rfl) ?_ (fun A s Q E e h => wpAny_pyIter_rangeiter e h)
  have := Yields.walks (prog := prog) (w := w) (Xs := Xw C d) (Xv := d.Xp) (I := s.heap.objs.size) (h0 := s.heap) (vs := rangeL a (b - a).toNat) (n := (b - a).toNat) (fun A hh => Walks.range (prog := prog) (w := w) hh s.heap.objs.size a 1 (b - a).toNat) ?_ ?_ (rangeL_length _ _) ?_ (b - a).toNat 0
      { cls := .type "range_iterator", data := .fields #[rawInt a, rawInt (((b - a).toNat : Nat) : Int), rawInt 1] } (by omega) (IterObj.of rfl rfl (by decide) (by decide) (by decide)) ?_
  · rwa [List.drop_zero] at this
  · intro b hb
    exact .inl (List.mem_singleton.mp hb)
  · rintro j v x hv ⟨t, rfl⟩
    rw [rangeL_get _ _ _ _ hv]
    simp only [Is]
    exact ⟨t, by rw [Int.mul_one]⟩
  · intro i h2 st
    have st' : h2.get? s.heap.objs.size = some _ := st
    exact ⟨_, st', IterObj.of rfl rfl (by decide) (by decide) (by decide)⟩
  · intro h2 e2 k2
    show h2.get? _ = some _
    rw [e2]
    simp

theorem SimI.range {e : Expr} {r : List Expr} {p pos : Pos} {fa : List V → Option (List V)} (ha : SimL prog w C (e :: r) fa)
    (hk : (C.scope.names.lookup ("range" : Str) == some .globalImplicit) = true := by decide +kernel)
    (he : plainStar e := by intro _ _; rfl) (hpl : ∀ env, (backTo pos (starEach r env)).any (·.1) = false := by intro _; rfl) (hce : ∀ env, eval (.Call (.Name ("range" : Str) p) (e :: r) [] pos) env = (do callWith pos (← eval (.Name ("range" : Str) p) env) [] (backTo pos (starEach (e :: r) env)) (backToKw pos (keywordEach [] env))) := by intro _; rfl) :
    SimI prog w C (.Call (.Name ("range" : Str) p) (e :: r) [] pos) (fun σ => one2 (fa σ) rangeV) := by
  intro d A s σ Q E rm I W
  dsimp only at W
  cases e0 : one2 (fa σ) rangeV with
  | none => rw [e0] at W; exact W.elim
  | some vs =>
    rw [e0] at W
    dsimp only at W
    obtain ⟨as, e1, e2⟩ := one2_some e0
    refine Call_ ?_ (hce _)
    refine eval_bi (v := .type "range") I (by decide +kernel) hk (by decide +kernel) ?_
    refine callWith_type1 ?_ (he _ _) (hpl _)
    refine ha.run rm I e1 fun xs h tk kk hx I1 => ?_
    unfold rangeV at e2
    split at e2
    · rename_i b
      split at e2
      · rename_i q
        cases e2
        rw [Bool.and_eq_true, decide_eq_true_eq, decide_eq_true_eq] at q
        · obtain ⟨x, rfl, hq⟩ := isAll1 hx
          simp only [Is] at hq
          obtain ⟨t, rfl⟩ := hq
          refine call_range_1 ?_
          refine yields_range (C := C) (d := d) (s := { s with heap := h.push _, toks := _ }) (a := 0) (b := b) (Heap.get?_push_size _ rfl) (by omega) q.2 q.1 (by omega) fun I o h0 h2 tk2 k0 n0 k1 hI Y S => ?_
          rw [Int.sub_zero] at Y
          exact W I o h0 h2 tk2 (stays_trans kk (stays_trans (stays_push _) k0)) n0 k1 hI Y S
      · cases e2
    · rename_i a b
      split at e2
      · rename_i q
        cases e2
        simp only [Bool.and_eq_true, decide_eq_true_eq] at q
        · obtain ⟨x, y, rfl, hq, hy⟩ := isAll2 hx
          simp only [Is] at hq hy
          obtain ⟨t, rfl⟩ := hq
          obtain ⟨u, rfl⟩ := hy
          refine call_range_2 ?_
          refine yields_range (C := C) (d := d) (s := { s with heap := h.push _, toks := _ }) (a := a) (b := b) (Heap.get?_push_size _ rfl) q.1.1 q.2.2 q.2.1 (by omega) fun I o h0 h2 tk2 k0 n0 k1 hI Y S => ?_
          exact W I o h0 h2 tk2 (stays_trans kk (stays_trans (stays_push _) k0)) n0 k1 hI Y S
      · cases e2
    · cases e2

theorem SimI.reversed {e : Expr} {p pos : Pos} {f : List V → Option V} (H : SimE prog w C e f)
    (hk : (C.scope.names.lookup ("reversed" : Str) == some .globalImplicit) = true := by decide +kernel)
    (he : plainStar e := by intro _ _; rfl) (hce : ∀ env, eval (.Call (.Name ("reversed" : Str) p) [e] [] pos) env = (do callWith pos (← eval (.Name ("reversed" : Str) p) env) [] (backTo pos (starEach [e] env)) (backToKw pos (keywordEach [] env))) := by intro _; rfl) :
    SimI prog w C (.Call (.Name ("reversed" : Str) p) [e] [] pos) (fun σ => match f σ with
      | some (.list vs) => some vs.reverse
      | _ => none) := by
  intro d A s σ Q E rm I W
  dsimp only at W
  cases e1 : f σ with
  | none => rw [e1] at W; exact W.elim
  | some v =>
    rw [e1] at W
    cases v <;> try exact W.elim
    rename_i vs
    dsimp only at W
    refine Call_ ?_ (hce _)
    refine eval_bi (v := .type "reversed") I (by decide +kernel) hk (by decide +kernel) ?_
    refine callWith_type1 ?_ (he _ _) rfl
    rw [he]
    refine spliced_cons ?_
    refine H.run rm I e1 fun x h tk k hx I1 => ?_
    refine spliced_nil ?_
    simp only [Is] at hx
    obtain ⟨a, items, rfl, hXa, hl, hz, hi⟩ := hx
    refine call_reversed_list (s := { s with heap := h, toks := tk }) hl.isList ?_
    have hne : a ≠ h.objs.size := by
      rintro rfl
      obtain ⟨_, e⟩ := hl
      rw [fresh_none] at e; cases e
    obtain ⟨ep, hl'⟩ := id hl
    have hI : (h.push (revObj a ((items.toArray.size : Int) - 1))).get? h.objs.size = some (revObj a ((items.toArray.size : Int) - 1)) := push_get_new rfl
    refine wpAny_pyIter_revIter (s := { s with heap := h.push _, toks := tk }) ⟨_, hI, rfl, rfl⟩ ?_
    refine W h.objs.size (revObj a ((items.toArray.size : Int) - 1)) h _ tk k fresh_none (stays_push _) hI ?_ (fun A s Q E e h => wpAny_pyIter_revIter ⟨_, e, rfl, rfl⟩ h)
    have := Yields.walks (prog := prog) (w := w) (Xs := Xw C d) (Xv := d.Xp) (I := h.objs.size) (h0 := h) (vs := vs.reverse) (n := items.toArray.size) (fun A hh => Walks.listRev (prog := prog) (w := w) hh h.objs.size a hne items.toArray) ?_ ?_ (by rw [List.size_toArray, List.length_reverse]; exact hi.length) ?_ items.toArray.size 0
      (revObj a ((items.toArray.size : Int) - 1)) (by omega) (IterObj.of rfl rfl (by decide) (by decide) (by decide)) ?_
    · rwa [List.drop_zero] at this
    · intro b hb
      rcases List.mem_cons.mp hb with q | q
      · exact .inl q
      · rw [List.mem_singleton.mp q]
        exact .inr ⟨fun q => hXa (Xw_Xp q), _, hl'⟩
    · intro j v x hv px
      have hj : j < vs.reverse.length := (List.getElem?_eq_some_iff.mp hv).1
      rw [List.length_reverse] at hj
      rw [List.getElem?_reverse hj] at hv
      obtain ⟨y, hy, iy⟩ := hi.get hv
      have : items.toArray[items.toArray.size - 1 - j]? = some x := px
      rw [List.getElem?_toArray, List.size_toArray, ← hi.length, Nat.sub_right_comm] at this
      rw [show vs.length - 1 - j = vs.length - j - 1 by omega, this] at hy
      cases hy
      exact iy
    · rintro i h2 ⟨_, ⟨o, ho, hc, hd⟩, _⟩
      exact ⟨o, ho, IterObj.of hc hd (by decide) (by decide) (by decide)⟩
    · intro h2 e2 k2
      refine ⟨Nat.zero_le _, ⟨_, e2, rfl, ?_⟩, hl.isList.at fun o eo => k2 a o hne (fun q => hXa (Xw_Xp q)) eo⟩
      simp [revObj]

/-- the keys of the frame's own dict, while it is left as it is -/
noncomputable def keysAt (σ : List V) (i : Nat) : Option (List V) := match σ[i]? with
  | some (.mdict ks _) => some (ks.map .int)
  | _ => none
theorem SimI.keys {x : Str} {pos : Pos} (i : Nat) (hx : C.names[i]? = some x) (hm : C.mode = 2) (hp : plainName x = true := by decide +kernel) : SimI prog w C (.Name x pos) (fun σ => keysAt σ i) := by
  intro d A s σ Q E rm I W
  dsimp only at W
  unfold keysAt at W
  cases hv : σ[i]? with
  | none => rw [hv] at W; exact W.elim
  | some v =>
    rw [hv] at W
    cases v <;> try exact W.elim
    rename_i ks vs
    dsimp only at W
    obtain ⟨m, hn, H⟩ := I.vars
    rcases H i x _ hx hv with q | ⟨val, hh, a, kvs, hma, rfl, hD, hks, hi⟩
    · cases q
    · refine wpAny_Name (loadName_holds I hn hh (plainName_c hp) ?_) (plainName_d hp)
      obtain ⟨ep, hd⟩ := hD.at prog w
      refine wpAny_pyIter_dict hD.1 hd ?_
      have hne : a ≠ s.heap.objs.size := Nat.ne_of_lt hd.lt_size
      have hXw : ¬ Xw C d a := fun q => by
        rcases q with q | q
        · exact I.mx a hma q
        · rw [hm] at q; exact absurd q.1 (by decide)
      have hgo : ∃ o, s.heap.get? a = some o := by obtain ⟨o, _, ho, _⟩ := id hd; exact ⟨o, ho⟩
      refine W s.heap.objs.size { cls := .type "dict_keyiterator", data := .fields #[.ref a, .int 0 0, .int kvs.length 0, .int ep 0] } s.heap _ s.toks stays_refl fresh_none (stays_push _) (push_get_new rfl) ?_ (fun A s Q E e h => wpAny_pyIter_keyiter ⟨_, e, rfl, rfl⟩ h)
      have := Yields.walks (prog := prog) (w := w) (Xs := Xw C d) (Xv := d.Xp) (I := s.heap.objs.size) (h0 := s.heap) (vs := ks.map .int) (n := kvs.length) (fun A hh => Walks.dictKeys (prog := prog) (w := w) (knd := intKind prog w) hh s.heap.objs.size a hne kvs ep) ?_ ?_ (by rw [List.length_map, ← hks, List.length_map]) ?_ kvs.length 0
        { cls := .type "dict_keyiterator", data := .fields #[.ref a, .int 0 0, .int kvs.length 0, .int ep 0] } (by omega) (IterObj.of rfl rfl (by decide) (by decide) (by decide)) ?_
      · rwa [List.drop_zero] at this
      · intro b hb
        rcases List.mem_cons.mp hb with q | q
        · exact .inl q
        · rw [List.mem_singleton.mp q]
          exact .inr ⟨hXw, hgo⟩
      · rintro j v x' hv' ⟨k, y, hy, hk⟩
        rw [← hks, List.map_map, List.getElem?_map, hy] at hv'
        cases hv'
        obtain ⟨t, rfl⟩ := Value.isInt_shape hk
        simp only [Is, Function.comp]
        exact ⟨t, rfl⟩
      · rintro i h2 ⟨⟨o, ho, hc, hd⟩, _⟩
        exact ⟨o, ho, IterObj.of hc hd (by decide) (by decide) (by decide)⟩
      · intro h2 e2 k2
        exact ⟨⟨_, e2, rfl, rfl⟩, hd.at' fun o eo => k2 a o hne hXw eo⟩

end
end Mine

/- B12 -/

namespace Mine
section
variable {prog : Program} {w : World} {C : St}

noncomputable def forR (i : Nat) (fb : List V → R) : List V → List V → R
  | [], σ => .next σ
  | v :: r, σ => seqR (fb (σ.set i v)) (forR i fb r)

theorem SimS.for {x : Str} {p pos : Pos} {it : Expr} {b : List Stmt} {fi : List V → Option (List V)} {fb : List V → R} (i : Nat) (hi : SimI prog w C it fi) (hb : SimB prog w C b fb) (hx : C.names[i]? = some x) (hk : storeOK C x = true := by decide +kernel)
    (hs : ∀ env x, foldedSetIterable it env x = pure x := by intro _ _; rfl) :
    SimS prog w C (.For (.Name x p) it b [] pos) (fun σ => match fi σ with
      | some vs => forR i fb vs σ
      | none => .bad) := by
  intro d A s σ Q E rm I W
  dsimp only at W
  refine wpAny_For (hi d A s σ _ E rm I ?_) (hs _)
  cases e1 : fi σ with
  | none => rw [e1] at W; exact W.elim
  | some vs =>
    rw [e1] at W
    dsimp only at W ⊢
    intro J o h0 h tk k0 n0 k1 hJ Y _
    have hJx : ¬ d.Xp J := fun x => by
      obtain ⟨o', e⟩ := I.xin J x
      have := k0 _ _ e
      rw [n0] at this; cases this
    have hJw : ¬ Xw C d J := fun x => hJx (Xw_Xp x)
    have hJb : d.base.get? J = none := by
      cases e : d.base.get? J with
      | none => rfl
      | some o' => have := k0 _ _ (I.stays _ _ e); rw [n0] at this; cases this
    have sJ : s.heap.get? J = none := by
      cases e : s.heap.get? J with
      | none => rfl
      | some o' => have := k0 _ _ e; rw [n0] at this; cases this
    have hJL : J ≠ d.env.locals := fun e => hJx (e ▸ .inl I.lx)
    have hJm : d.ma ≠ some J := fun e => hJx (.inr e)
    refine codeAny_forLoop (fun n s' => ∃ σ h tk r o, s' = { s with heap := h, toks := tk } ∧ n = r.length ∧ h.get? J = some o ∧ Yields prog w (Xw C d) d.Xp J h0 r o ∧ (∀ b o', b ≠ J → ¬ Xw C d b → h0.get? b = some o' → h.get? b = some o') ∧
      KeepBut (Xw C d) s.heap h ∧ Inv C d σ h ∧ Wants C d Q s (forR i fb r σ)) ?_ vs.length
      ⟨σ, h, tk, vs, o, rfl, rfl, hJ, Y, fun b o' nb _ e => k1 _ _ e, KeepBut.of (stays_trans k0 k1), I.mono (stays_trans k0 k1), W⟩
    rintro n s' ⟨σ, h, tk, r, o, rfl, rfl, hJ, Y, kb, ks, I, W⟩
    have io := Y.iter
    cases r with
    | nil =>
      refine Y.2 A _ _ _ rm.1 hJ kb fun h' tk' k' => ?_
      refine wpAny_execs_nil ?_
      exact W h' tk' (fun b ob nb eb => k' b ob (fun q => by subst q; rw [sJ] at eb; cases eb) (ks b ob nb eb)) (I.change k' hJ io.2 hJb hJL hJm (.inr io.1) fun q => absurd q hJx)
    | cons v r =>
      refine Y.2 A _ _ _ rm.1 hJ kb fun x h' o' tk' k' hJ' ix Y' => ?_
      have I' : Inv C d σ h' := I.change k' hJ io.2 hJb hJL hJm (.inr io.1) fun q => absurd q hJx
      have ix' : Is d.Xp h' v x := ix.to fun a oa ea na => ⟨na, k' a oa (fun q => by subst q; rw [n0] at ea; cases ea) (kb a oa (fun q => by subst q; rw [n0] at ea; cases ea) (fun q => na (Xw_Xp q)) ea)⟩
      refine wpAny_assign_Name (Inv.store (s := { s with heap := h', toks := tk' }) I' hx hk (Val.of ix') fun h2 tk2 k2 I2 => ?_)
      refine hb d A { s with heap := h2, toks := tk2 } (σ.set i v) _ _ rm I2 ?_
      have kk : KeepBut (Xw C d) s.heap h2 := fun b ob nb eb => k2 b ob (fun q => nb (.inl q)) (k' b ob (fun q => by subst q; rw [sJ] at eb; cases eb) (ks b ob nb eb))
      unfold forR at W
      cases e2 : fb (σ.set i v) with
      | bad => rw [e2] at W; exact W.elim
      | next σ' =>
        rw [e2] at W
        intro h3 tk3 k3 I3
        refine ⟨r.length, Nat.lt_succ_self _, σ', h3, tk3, r, o', rfl, rfl, k3 _ _ hJw (k2 _ _ (fun q => hJw (.inl q)) hJ'), Y', ?_, kk.trans k3, I3, W⟩
        intro b ob nb xb eb
        exact k3 _ _ xb (k2 _ _ (fun q => xb (.inl q)) (k' _ _ nb (kb _ _ nb xb eb)))
      | ret v =>
        rw [e2] at W
        intro x3 h3 tk3 k3 b3 i3
        exact W x3 h3 tk3 (kk.trans k3) b3 i3

end
end Mine

/- B13 -/

namespace Mine
section
variable {prog : Program} {w : World} {C : St}

/- the closure of a comprehension -/
noncomputable def clF (cells : List (Str × Addr)) : List (Str × NameKind) → List (Str × Addr) → List (Str × Addr)
  | [], acc => acc
  | (n, k) :: r, acc => if k == .free then (match cells.lookup n with
      | some c => clF cells r ((n, c) :: acc)
      | none => clF cells r acc) else clF cells r acc
theorem clF_sound (cells : List (Str × Addr)) : ∀ (names : List (Str × NameKind)) (acc : List (Str × Addr)) (z : Str) (c : Addr), (clF cells names acc).lookup z = some c → acc.lookup z = some c ∨ ((z, NameKind.free) ∈ names ∧ cells.lookup z = some c)
  | [], acc, z, c, h => .inl h
  | (n, k) :: r, acc, z, c, h => by
    unfold clF at h
    split at h
    · rename_i hk
      have hk : k = .free := by cases k <;> first | rfl | cases hk
      subst hk
      split at h
      · rename_i c' hc'
        rcases clF_sound cells r _ z c h with q | ⟨q1, q2⟩
        · rw [lookup_cons_eq] at q
          split at q
          · rename_i e
            cases q
            subst e
            exact .inr ⟨List.mem_cons_self, hc'⟩
          · exact .inl q
        · exact .inr ⟨List.mem_cons_of_mem _ q1, q2⟩
      · exact (clF_sound cells r _ z c h).imp id fun ⟨q1, q2⟩ => ⟨List.mem_cons_of_mem _ q1, q2⟩
    · exact (clF_sound cells r _ z c h).imp id fun ⟨q1, q2⟩ => ⟨List.mem_cons_of_mem _ q1, q2⟩
theorem clF_has (cells : List (Str × Addr)) : ∀ (names : List (Str × NameKind)) (acc : List (Str × Addr)) (z : Str) (c : Addr), cells.lookup z = some c → ((z, NameKind.free) ∈ names ∨ acc.lookup z = some c) → (clF cells names acc).lookup z = some c
  | [], acc, z, c, hz, h => by
    rcases h with h | h
    · cases h
    · exact h
  | (n, k) :: r, acc, z, c, hz, h => by
    unfold clF
    by_cases hk : k = .free
    · subst hk
      simp only [beq_self_eq_true, if_true]
      cases hn : cells.lookup n with
      | none =>
        refine clF_has cells r acc z c hz ?_
        rcases h with h | h
        · rcases List.mem_cons.mp h with q | q
          · cases q; rw [hz] at hn; cases hn
          · exact .inl q
        · exact .inr h
      | some c' =>
        refine clF_has cells r _ z c hz ?_
        rcases h with h | h
        · rcases List.mem_cons.mp h with q | q
          · cases q
            rw [hz] at hn; cases hn
            exact .inr (by rw [lookup_cons_eq, if_pos rfl])
          · exact .inl q
        · right
          rw [lookup_cons_eq]
          split
          · rename_i e; subst e; rw [hz] at hn; cases hn; rfl
          · exact h
    · have hk' : (k == NameKind.free) = false := by cases k <;> first | rfl | exact absurd rfl hk
      rw [if_neg (by rw [hk']; exact Bool.false_ne_true)]
      refine clF_has cells r acc z c hz ?_
      rcases h with h | h
      · rcases List.mem_cons.mp h with q | q
        · cases q; exact absurd rfl hk
        · exact .inl q
      · exact .inr h
theorem closure_eq {scope : Scope} {env : Env} (h : ∀ n, (n, NameKind.free) ∈ scope.names → ∃ c, env.cells.lookup n = some c) : closureFor scope env = pure (clF env.cells scope.names []) := by
  unfold closureFor
  have key : ∀ (names : List (Str × NameKind)) (acc : List (Str × Addr)), (∀ n, (n, NameKind.free) ∈ names → ∃ c, env.cells.lookup n = some c) →
      (forIn names acc (fun x r => do
        if x.2 == NameKind.free then do
          let a ← cellOf env x.1
          pure (ForInStep.yield ((x.1, a) :: r))
        else pure (ForInStep.yield r)) : Sem (List (Str × Addr))) = pure (clF env.cells names acc) := by
    intro names
    induction names with
    | nil => intro acc _; rw [List.forIn_nil]; rfl
    | cons x r ih =>
      intro acc hh
      obtain ⟨n, k⟩ := x
      rw [List.forIn_cons]
      unfold clF
      by_cases hk : k = .free
      · subst hk
        obtain ⟨c, hc⟩ := hh n List.mem_cons_self
        simp only [beq_self_eq_true, if_true, cellOf, hc, pure_bind]
        exact ih _ fun m hm => hh m (List.mem_cons_of_mem _ hm)
      · have hk' : (k == NameKind.free) = false := by cases k <;> first | rfl | exact absurd rfl hk
        simp only [hk', Bool.false_eq_true, if_false, pure_bind]
        exact ih _ fun m hm => hh m (List.mem_cons_of_mem _ hm)
  have := key scope.names [] h
  rw [← this]
  first
    | rfl
    | simp

end
end Mine

/- B14 -/

namespace Mine
section
variable {prog : Program} {w : World} {C : St}

noncomputable def relabelS (scope sc : Scope) : Scope := { scope with names := scope.names.map fun (n, k) => if (k == .free && sc.kind == .function && sc.names.lookup n == some .cell) then (n, .cell) else (n, k) }
theorem relabel_eq {scope : Scope} {env : Env} {sc : Scope} (h : env.scope = sc) : relabel scope env = relabelS scope sc := by subst h; rfl

section
variable (prog : Program) (w : World)
noncomputable def SimTs (C : St) (ts : List Expr) (f : List V → Option Bool) : Prop :=
  ∀ (d : Dyn) (A : Around) (s : Shared) (σ : List V) (Q : Bool → Shared → Prop) (E : Value → Shared → Prop), Room C.room A → Inv C d σ s.heap → WantsB Q s (f σ) →
    wpAny (model prog w) A (forIn ts true fun c r => if r = true then do let ok ← isTrue c d.env (eval c d.env); pure (ForInStep.yield ok) else pure (ForInStep.yield r)) Q E s
end
theorem SimTs.nil : SimTs prog w C [] (fun _ => some true) := by
  intro d A s σ Q E rm I W
  rw [List.forIn_nil]
  exact wpAny_pure (W s.heap s.toks stays_refl)
theorem SimTs.one {t : Expr} {f : List V → Option Bool} (H : SimT prog w C t f) : SimTs prog w C [t] f := by
  intro d A s σ Q E rm I W
  obtain ⟨v, e, W⟩ := W.get
  rw [List.forIn_cons]
  simp only [if_true]
  refine wpAny_bind (wpAny_bind (H.run rm I e fun h tk k I1 => wpAny_pure ?_))
  show wpAny _ _ (forIn [] v _) _ _ _
  rw [List.forIn_nil]
  exact wpAny_pure (W h tk k)

noncomputable def compL (ft : List V → Option Bool) (fe : List V → Option V) (cs : List V) : List V → Option (List V)
  | [] => some []
  | v :: r => match ft (v :: cs) with
    | some true => bin2 (fe (v :: cs)) (compL ft fe cs r) consL
    | some false => compL ft fe cs r
    | none => none
noncomputable def capV : V → V
  | .mlist _ => .unb
  | .mdict _ _ => .unb
  | v => v
noncomputable def capAt : List V → Nat → V
  | v :: _, 0 => capV v
  | _ :: r, n + 1 => capAt r n
  | [], _ => .unb
noncomputable def caps (σ : List V) (js : List Nat) : List V := js.map (capAt σ)
theorem capAt_some : ∀ {σ : List V} {j : Nat} {v : V}, capAt σ j = v → v ≠ .unb → σ[j]? = some v ∧ capV v = v
  | u :: r, 0, v, h, n => by
    have h : capV u = v := h
    have : u = v := by cases u <;> first | exact h | (exact absurd h.symm n)
    subst this
    exact ⟨rfl, h⟩
  | _ :: r, j + 1, v, h, n => by simpa using capAt_some (σ := r) (j := j) h n
  | [], j, v, h, n => absurd h.symm n

noncomputable def bstr (a b : Option Str) : Bool := a == b
structure CompOK (C C' : St) (scope : Scope) (x : Str) (js : List Nat) : Prop where
  sc : C'.scope = relabelS scope C.scope
  kind : scope.kind = .function
  names : C'.names = x :: js.map (fun j => C.names.getD j x)
  nd : C'.names.Nodup
  room : C'.room = C.room
  mode : C'.mode = 0
  sx : storeOK C' x = true
  locals : ∀ y ∈ scope.names, y.2 = .local → scope.names.lookup y.1 = some .local
  free : ∀ y, (y, NameKind.free) ∈ scope.names → y ∈ C.own
  own : ∀ y ∈ C'.own, (y, NameKind.cell) ∈ scope.names ∧ C'.scope.names.lookup y = some .cell
  caps : ∀ j ∈ js, ∃ y, C.names[j]? = some y ∧ y ∈ C.own ∧ (y, NameKind.free) ∈ scope.names ∧ (y, NameKind.cell) ∉ scope.names ∧ (C'.scope.names.lookup y = some .cell ∨ C'.scope.names.lookup y = some .free)

theorem compL_cons {ft : List V → Option Bool} {fe : List V → Option V} {cs : List V} {v : V} {r l : List V} (h : compL ft fe cs (v :: r) = some l) :
    (ft (v :: cs) = some false ∧ compL ft fe cs r = some l) ∨ ∃ y l', ft (v :: cs) = some true ∧ fe (v :: cs) = some y ∧ compL ft fe cs r = some l' ∧ l = y :: l' := by
  unfold compL at h
  cases e : ft (v :: cs) with
  | none => rw [e] at h; cases h
  | some b =>
    rw [e] at h
    cases b with
    | false => exact .inl ⟨rfl, h⟩
    | true =>
      obtain ⟨y, l', e1, e2, e3⟩ := bin2_some h
      cases e3
      exact .inr ⟨y, l', rfl, e1, e2, rfl⟩
theorem compL_length {ft : List V → Option Bool} {fe : List V → Option V} {cs : List V} : ∀ {vs l : List V}, compL ft fe cs vs = some l → l.length ≤ vs.length
  | [], l, h => by cases h; exact Nat.le_refl _
  | v :: r, l, h => by
    rcases compL_cons h with ⟨_, h'⟩ | ⟨y, l', _, _, h', rfl⟩
    · exact Nat.le_succ_of_le (compL_length h')
    · exact Nat.succ_le_succ (compL_length h')

theorem SimE.comp {elt iter : Expr} {x : Str} {px : Pos} {ifs : List Expr} {scope : Scope} {pos : Pos} {fi : List V → Option (List V)} {ft : List V → Option Bool} {fe : List V → Option V} (C' : St) (js : List Nat) (hi : SimI prog w C iter fi) (ht : SimTs prog w C' ifs ft) (he : SimE prog w C' elt fe)
    (ok : CompOK C C' scope x js) (hs : ∀ env x, foldedSetIterable iter env x = pure x := by intro _ _; rfl) :
    SimE prog w C (.ListComp elt [⟨.Name x px, iter, ifs, 0⟩] scope pos) (fun σ => match fi σ with
      | some vs => one2 (compL ft fe (caps σ js) vs) okL
      | none => none) := by
  intro d A s σ Q E rm I W
  obtain ⟨v, e0, W⟩ := W.get
  dsimp only at e0
  cases e1 : fi σ with
  | none => rw [e1] at e0; cases e0
  | some vs =>
    rw [e1] at e0
    dsimp only at e0
    obtain ⟨tot, e2, e3⟩ := one2_some e0
    obtain ⟨rfl, hz⟩ := okL_some e3
    have lk : ∀ n, (n, NameKind.free) ∈ scope.names → ∃ c, d.env.cells.lookup n = some c := fun n hn => by
      obtain ⟨_, c, a, _⟩ := I.own n (ok.free n hn)
      exact ⟨c, a⟩
    rw [eval_ListComp]
    refine wpAny_comprehension_free (use := none) rfl (hs _) (closure_eq lk) ok.kind ok.locals ?_
    refine hi d A s σ _ E rm I ?_
    rw [e1]
    intro J o h0 h tk k0 n0 k1 hJ Y S
    have hJx : ¬ d.Xp J := fun x => by
      obtain ⟨o', e⟩ := I.xin J x
      have := k0 _ _ e
      rw [n0] at this; cases this
    refine wpAny_newObj_type ?_
    dsimp only
    generalize hH1 : h.push { cls := .type "list", dict := none, data := .seq ([] : List Value).toArray } = H1
    have sz1 : H1.objs.size = h.objs.size + 1 := by rw [← hH1, Heap.size_push]
    simp only [newFunctionEnv, Option.isSome_some, if_true]
    refine wpAny_bind (wpAny_alloc ?_)
    refine wpAny_bind (wpAny_layCells _ (fun name kind cells => by cases kind <;> simp) _ _ _ _ ?_)
    dsimp only
    generalize hcl : clF d.env.cells scope.names [] = cl
    have cl1 : ∀ z c, cl.lookup z = some c → d.env.cells.lookup z = some c ∧ c < (H1.push { cls := .type "dict", data := .dict #[] }).objs.size := fun z c e => by
      rw [← hcl] at e
      rcases clF_sound _ _ _ _ _ e with q | ⟨q1, q2⟩
      · cases q
      · refine ⟨q2, ?_⟩
        obtain ⟨_, c', a, _, _, v₀, f⟩ := I.own z (ok.free z q1)
        rw [a] at q2; cases q2
        obtain ⟨oc, hoc, _⟩ := f
        have h1 := Heap.lt_size (k1 _ _ (k0 _ _ hoc))
        rw [Heap.size_push, sz1]
        exact Nat.lt_succ_of_lt (Nat.lt_succ_of_lt h1)
    obtain ⟨c1, c2, c3, c4⟩ := cellsFrom_inv scope.names (H1.push { cls := .type "dict", data := .dict #[] }).objs.size cl (fun z c e => (cl1 z c e).2) (fun z y c e e' => I.inj z y c (cl1 z c e).1 (cl1 y c e').1)
    have sz2 : (H1.push { cls := .type "dict", data := .dict #[] }).objs.size = h.objs.size + 2 := by rw [Heap.size_push, sz1]
    generalize hcs : cellsFrom (H1.push { cls := .type "dict", data := .dict #[] }).objs.size scope.names cl = cs at c1 c2 c3 c4 ⊢
    generalize hH : pushCells (H1.push { cls := .type "dict", data := .dict #[] }) scope.names = H
    have hHs : H.objs.size = h.objs.size + 2 + cellCount scope.names := by rw [← hH, pushCells_size, sz2]
    have hold : h.StaysIn H := fun b o e => hH ▸ pushCells_keeps _ _ _ _ (Heap.get?_push_of_some _ (hH1 ▸ Heap.get?_push_of_some _ e))
    have hfr : ∀ a, h.objs.size ≤ a → h.get? a = none := fun a ha => by
      cases e : h.get? a with
      | none => rfl
      | some o' => exact absurd (Heap.lt_size e) (Nat.not_lt.mpr ha)
    have hfr0 : ∀ a, h.objs.size ≤ a → h0.get? a = none := fun a ha => by
      cases e : h0.get? a with
      | none => rfl
      | some o' => have := k1 _ _ e; rw [hfr a ha] at this; cases this
    rw [List.forIn_nil]
    refine wpAny_bind (wpAny_pure (wpAny_pure ?_))
    -- the frame of the comprehension
    let d' : Dyn := ⟨{ scope := relabel scope d.env, locals := H1.objs.size, globals := d.env.globals, cells := cs, qual := d.env.qual, func := none, code := d.env.code, frame := d.env.frame, builtins := d.env.builtins }, (fun a => d.Xp a ∨ (h.objs.size ≤ a ∧ a < H.objs.size)), none, h0, d.D⟩
    have hrs : d'.env.scope = C'.scope := (relabel_eq I.scope).trans ok.sc.symm
    have new_of : ∀ b o, h.get? b = some o → ¬ (h.objs.size ≤ b ∧ b < H.objs.size) := fun b o e q => by
      have := hfr b q.1; rw [e] at this; cases this
    have cellNew : ∀ c : Nat, h.objs.size + 2 ≤ c → c < H.objs.size → H.IsCell c none := fun c p q => by
      rw [← hH]
      exact pushCells_cell scope.names _ c (by rw [sz2]; exact p) (by rw [sz2, ← hHs]; exact q)
    have Xeq : ∀ b, d'.Xp b → d'.X b := fun b q => Or.elim q id (fun q => by cases q)
    have toX : ∀ b o, h0.get? b = some o → ¬ d.Xp b → ¬ d'.Xp b := fun b o e n q => by
      rcases Xeq b q with q | q
      · exact n q
      · exact new_of b o (k1 _ _ e) q
    have I0 : ∀ u, u = V.unb → Inv C' d' (u :: caps σ js) H := fun u hu => {
      scope := hrs
      kind := by rw [← hrs]; exact ok.kind
      globals := I.globals
      builtins := I.builtins
      gf := I.gf.keeps (stays_trans I.stays k0)
      stays := stays_trans k1 hold
      xin := fun a xa => by
        rcases Xeq a xa with xa | xa
        · obtain ⟨o', e⟩ := I.xin a xa; exact ⟨o', hold _ _ (k1 _ _ (k0 _ _ e))⟩
        · obtain ⟨xa1, xa2⟩ := xa
          have xa1 : (h.objs.size : Nat) ≤ a := xa1
          by_cases q1 : a = h.objs.size
          · subst q1
            exact ⟨_, hH ▸ pushCells_keeps _ _ _ _ (Heap.get?_push_of_some _ (hH1 ▸ push_get_new rfl))⟩
          · by_cases q2 : a = H1.objs.size
            · subst q2
              exact ⟨_, hH ▸ pushCells_keeps _ _ _ _ (push_get_new rfl)⟩
            · have q3 : h.objs.size + 1 ≤ a := Nat.lt_of_le_of_ne xa1 (Ne.symm q1)
              rw [sz1] at q2
              obtain ⟨oc, hoc, _⟩ := cellNew a (Nat.lt_of_le_of_ne q3 (Ne.symm q2)) xa2
              exact ⟨oc, hoc⟩
      lx := .inr ⟨by show h.objs.size ≤ H1.objs.size; rw [sz1]; exact Nat.le_succ _, by show H1.objs.size < H.objs.size; rw [hHs, sz1]; exact Nat.lt_of_lt_of_le (Nat.lt_succ_self _) (Nat.le_add_right _ _)⟩
      lb := hfr0 _ (by show h.objs.size ≤ H1.objs.size; rw [sz1]; exact Nat.le_succ _)
      mb := fun a e => nomatch e
      mx := fun a e => nomatch e
      m0 := fun _ => rfl
      own := fun y hy => by
        obtain ⟨hm, hl⟩ := ok.own y hy
        obtain ⟨c, hc, hle⟩ := c4 y hm
        have hlt := (c1 y c hc).1
        rw [sz2] at hle hlt
        rw [← hHs] at hlt
        refine ⟨by show d'.env.scope.names.lookup y = _; rw [hrs]; exact hl, c, hc, .inr ⟨Nat.le_trans (Nat.le_add_right _ 2) hle, hlt⟩, hfr0 c (Nat.le_trans (Nat.le_add_right _ 2) hle), none, cellNew c hle hlt⟩
      inj := c2
      ndup := ok.nd
      vars := by
        obtain ⟨m, hn, HV⟩ := I.vars
        refine ⟨_, hH ▸ ((Heap.Ns.new H1 (.type "dict")).keeps (pushCells_keeps _ _)), fun i y v hy hv => ?_⟩
        cases i with
        | zero =>
          cases hv
          exact .inl hu
        | succ i =>
          rw [ok.names, List.getElem?_cons_succ] at hy
          rw [List.getElem?_cons_succ] at hv
          unfold caps at hv
          rw [List.getElem?_map] at hy hv
          cases hj : js[i]? with
          | none => rw [hj] at hy; cases hy
          | some j =>
            rw [hj] at hy hv
            obtain ⟨y', hy', hown, hfree, hncell, hkind⟩ := ok.caps j (List.mem_of_getElem? hj)
            have hyy : y = y' := by
              simp only [Option.map_some, Option.some.injEq] at hy
              rw [← hy, List.getD_eq_getElem?_getD, hy']
              rfl
            subst hyy
            by_cases hu : v = .unb
            · exact .inl hu
            · simp only [Option.map_some, Option.some.injEq] at hv
              obtain ⟨g1, g2⟩ := capAt_some hv hu
              rcases HV j y v hy' g1 with q | ⟨val, hh, hval⟩
              · exact absurd q hu
              · refine .inr ⟨val, ?_, ?_⟩
                · obtain ⟨qk, cc, qc, _⟩ := I.own y hown
                  rcases hh with ⟨a1, _⟩ | ⟨c, _, a2, a3⟩
                  · rw [a1] at qk; cases qk
                  · refine .inr ⟨c, ?_, ?_, a3.keeps (stays_trans k0 (stays_trans k1 hold))⟩
                    · show d'.env.scope.names.lookup y = _ ∨ d'.env.scope.names.lookup y = _
                      rw [hrs]; exact hkind
                    · show cs.lookup y = some c
                      rw [c3 y hncell, ← hcl]
                      exact clF_has _ _ _ _ _ a2 (.inl hfree)
                · have hIs : Is d.Xp s.heap v val := by
                    cases v <;> first | exact hval | (simp [capV] at g2)
                  exact Val.of (hIs.to fun a oa ea na => ⟨toX a oa (k0 _ _ ea) na, hold _ _ (k1 _ _ (k0 _ _ ea))⟩) }
    have hJo : J < h.objs.size := Heap.lt_size hJ
    have hJX : ¬ d'.Xp J := fun q => by
      rcases Xeq J q with q | q
      · exact hJx q
      · exact absurd hJo (Nat.not_lt.mpr q.1)
    have hJL : J ≠ d'.env.locals := fun e => by
      have e : J = H1.objs.size := e
      rw [e, sz1] at hJo
      exact absurd hJo (Nat.not_lt.mpr (Nat.le_succ _))
    have hDJ : h.objs.size ≠ J := Nat.ne_of_gt hJo
    have hDL : h.objs.size ≠ d'.env.locals := by
      show h.objs.size ≠ H1.objs.size
      rw [sz1]; exact Nat.ne_of_lt (Nat.lt_succ_self _)
    have hDX : d'.X h.objs.size := .inr ⟨Nat.le_refl _, by rw [hHs]; exact Nat.lt_of_lt_of_le (Nat.lt_succ_of_lt (Nat.lt_succ_self _)) (Nat.le_add_right _ _)⟩
    have hDloc : ¬ Loc C' d' h.objs.size := fun q => by
      rcases q with q | ⟨y, hy, q⟩
      · exact hDL q
      · obtain ⟨hm, _⟩ := ok.own y hy
        obtain ⟨c, hc, hle⟩ := c4 y hm
        have q : cs.lookup y = some h.objs.size := q
        rw [hc] at q; cases q
        rw [sz2] at hle
        exact absurd hle (Nat.not_le.mpr (Nat.lt_succ_of_lt (Nat.lt_succ_self _)))
    have hJloc : ¬ Loc C' d' J := fun q => hJX (.inl (Loc.x (I0 _ rfl) q))
    have rm' : Room C'.room A := by rw [ok.room]; exact rm
    have loop : codeAny (model prog w) A (.compLoop (.ListComp elt [⟨.Name x px, iter, ifs, 0⟩] scope pos) 0 (.ref J) (.ref h.objs.size) d'.env)
        (compPost (model prog w) A E none Q (.ref h.objs.size) H1.objs.size) { s with heap := H, toks := tk } := by
      refine codeAny_compLoop_tests (fun n s' => ∃ (hh : Heap) (tk' : Nat) (r : List V) (o : Obj) (u : V) (ys : Array Value) (done rest : List V), s' = { s with heap := hh, toks := tk' } ∧ n = r.length ∧ hh.get? J = some o ∧ Yields prog w (Xw C d) d.Xp J h0 r o ∧ Inv C' d' (u :: caps σ js) hh ∧ hh.PlainList h.objs.size ys ∧
        IsAll d'.Xp hh done ys.toList ∧ compL ft fe (caps σ js) r = some rest ∧ done ++ rest = tot) ?_ vs.length
        ⟨H, tk, vs, o, .unb, #[], [], tot, rfl, rfl, hold _ _ hJ, Y, I0 _ rfl, ⟨0, hH ▸ pushCells_keeps _ _ _ _ (Heap.get?_push_of_some _ (hH1 ▸ push_get_new rfl))⟩, by simp only [IsAll], e2, rfl⟩
      rintro n s' ⟨hh, tk', r, o, u, ys, done, rest, rfl, rfl, hJ, Y, I, hacc, hys, hr, htot⟩
      have io := Y.iter
      have kb : ∀ b o', b ≠ J → ¬ Xw C d b → h0.get? b = some o' → hh.get? b = some o' := fun b o' _ _ e => I.stays b o' e
      cases r with
      | nil =>
        refine Y.2 A _ _ _ rm.1 hJ kb fun h2 tk2 k2 => ?_
        cases hr
        rw [List.append_nil] at htot
        subst htot
        have I2 := I.change k2 hJ io.2 n0 hJL (fun e => by cases e) (.inr io.1) fun q => absurd q hJX
        obtain ⟨m2, hn2, _⟩ := I2.vars
        refine ⟨m2, hn2, fun h3 hs3 => W _ h3 tk2 ?_ ?_⟩
        · intro b ob eb
          refine hs3.extBut b ob ?_ (I2.stays b ob (k0 _ _ eb))
          rintro rfl
          have := k0 _ _ eb
          rw [hfr0 _ (by rw [sz1]; exact Nat.le_succ _)] at this
          cases this
        · simp only [Is]
          refine ⟨h.objs.size, ys.toList, rfl, fun q => ?_, ?_, ?_, ?_⟩
          · obtain ⟨o', e⟩ := (‹Inv C d σ s.heap›).xin _ q
            have := k1 _ _ (k0 _ _ e)
            rw [hfr _ (Nat.le_refl _)] at this; cases this
          · exact (hacc.at fun ob eb => hs3.extBut _ ob hDL (k2 _ _ hDJ eb))
          · rw [← hys.length]; exact hz
          · refine IsAll.toV (fun a oa ea va na => ?_) hys
            have hne : a ≠ J := fun q => by subst q; rw [hJ] at ea; cases ea; exact io.1 va
            refine ⟨fun q => na (.inl (.inl q)), hs3.extBut _ _ (fun q => na ?_) (k2 _ _ hne ea)⟩
            subst q
            exact .inl (I2.lx)
      | cons v r =>
        refine Y.2 A _ _ _ rm.1 hJ kb fun xv h2 o2 tk2 k2 hJ2 ix Y2 => ?_
        have I2 := I.change k2 hJ io.2 n0 hJL (fun e => by cases e) (.inr io.1) fun q => absurd q hJX
        have ix2 : Is d'.Xp h2 v xv := ix.to fun a oa ea na => ⟨toX a oa ea na, I2.stays _ _ ea⟩
        have hys2 : IsAll d'.Xp h2 done ys.toList := IsAll.toV (fun a oa ea va na => ⟨na, k2 _ _ (fun q => by subst q; rw [hJ] at ea; cases ea; exact io.1 va) ea⟩) hys
        have hacc2 := hacc.at (h' := h2) fun ob eb => k2 _ _ hDJ eb
        refine wpAny_assign_Name (Inv.storeL (i := 0) (s := { s with heap := h2, toks := tk2 }) I2 (by rw [ok.names]; rfl) ok.sx (Val.of ix2) fun h3 tk3 k3 I3 => ?_)
        have I3 : Inv C' d' (v :: caps σ js) h3 := I3
        have hJ3 := k3 _ _ hJloc hJ2
        have hacc3 := hacc2.at (h' := h3) fun ob eb => k3 _ _ hDloc eb
        have hys3 : IsAll d'.Xp h3 done ys.toList := hys2.keepBut (k3.weaken fun b l => .inl (Loc.x I2 l))
        rcases compL_cons hr with ⟨q1, q2⟩ | ⟨y, l', q1, q2, q3, rfl⟩
        · refine ht d' A { s with heap := h3, toks := tk3 } (v :: caps σ js) _ _ rm' I3 ?_
          rw [q1]
          intro h4 tk4 k4
          simp only [Bool.false_eq_true, if_false]
          exact ⟨r.length, Nat.lt_succ_self _, h4, tk4, r, o2, v, ys, done, rest, rfl, rfl, k4 _ _ hJ3, Y2, I3.mono k4, hacc3.at fun ob eb => k4 _ _ eb, hys3.mono k4, q2, htot⟩
        · refine ht d' A { s with heap := h3, toks := tk3 } (v :: caps σ js) _ _ rm' I3 ?_
          rw [q1]
          intro h4 tk4 k4
          simp only [if_true]
          refine he.run (s := { s with heap := h4, toks := tk4 }) rm' (I3.mono k4) q2 fun yv h5 tk5 k5 hy I5 => ?_
          have hacc5 := hacc3.at (h' := h5) fun ob eb => k5 _ _ (k4 _ _ eb)
          have hlen : ys.size ≤ sizeLine := by
            have h1 : ys.toList.length = done.length := hys3.length.symm
            have h2 : done.length ≤ tot.length := by rw [← htot, List.length_append]; exact Nat.le_add_right _ _
            rw [Array.length_toList] at h1
            rw [h1]
            exact Nat.le_trans h2 (Nat.le_trans hz sizeLine_ge)
          refine wpAny_list_append_plain (hsz := hlen) hacc5 fun h6 hl6 hs6 => ?_
          obtain ⟨n5, hn5⟩ := id hacc5
          obtain ⟨n6, hn6⟩ := id hl6
          refine ⟨r.length, Nat.lt_succ_self _, h6, tk5, r, o2, v, ys.push yv, done ++ [y], l', rfl, rfl, hs6.extBut _ _ (Ne.symm hDJ) (k5 _ _ (k4 _ _ hJ3)), Y2,
            I5.change (fun b ob nb eb => hs6.extBut b ob nb eb) hn5 (fun v e => by cases e) (hfr0 _ (Nat.le_refl _)) hDL (fun e => by cases e) (.inl hDX) (fun _ => ⟨_, hn6⟩), hl6, ?_, q3, ?_⟩
          · rw [Array.toList_push]
            have kk : KeepBut d'.Xp h5 h6 := fun b ob nb eb => hs6.extBut b ob (fun q => nb (by subst q; exact .inl hDX)) eb
            exact IsAll.append ((hys3.mono (stays_trans k4 k5)).keepBut kk) (by simp only [IsAll, and_true]; exact hy.keepBut kk)
          · rw [List.append_assoc]; exact htot
    exact codeAny_compStart_list loop (S A _ _ _ (hold _ _ hJ) loop)

end
end Mine

/- B15 -/

namespace Mine
section
variable {prog : Program} {w : World} {C : St}

/- several targets -/
noncomputable def setAll : List Nat → List V → List V → Option (List V)
  | [], [], σ => some σ
  | i :: is, v :: vs, σ => setAll is vs (σ.set i v)
  | _, _, _ => none

inductive Stores (C : St) (d : Dyn) : List (Value → Sem Unit) → List Nat → Prop where
  | nil : Stores C d [] []
  | cons {f : Value → Sem Unit} {fs : List (Value → Sem Unit)} {i : Nat} {is : List Nat} {x : Str} : C.names[i]? = some x → storeOK C x = true →
      (∀ {M : Model} {A : Around} {s : Shared} {v : Value} {Q : Unit → Shared → Prop} {E : Value → Shared → Prop}, wpAny M A (storeName d.env x v) Q E s → wpAny M A (f v) Q E s) → Stores C d fs is → Stores C d (f :: fs) (i :: is)

theorem store_allV {M : Model} {A : Around} {E : Value → Shared → Prop} {d : Dyn} {fs : List (Value → Sem Unit)} {is : List Nat} (S : Stores C d fs is) : ∀ {vs : List V} {vals : List Value} {σ σ' : List V} {s : Shared} {Q : Unit → Shared → Prop}, Inv C d σ s.heap → ValAll d s.heap vs vals → setAll is vs σ = some σ' →
    (∀ h tk, KeepBut d.X s.heap h → Inv C d σ' h → Q () { s with heap := h, toks := tk }) → wpAny M A (assignInOrder fs vals) Q E s := by
  induction S with
  | nil =>
    intro vs vals σ σ' s Q I hi e h
    cases vs with
    | nil => cases e; exact wpAny_pure (h s.heap s.toks KeepBut.refl I)
    | cons _ _ => cases e
  | cons hx hk hf S ih =>
    intro vs vals σ σ' s Q I hi e h
    cases vs with
    | nil => cases e
    | cons v vs =>
      cases vals with
      | nil => exact hi.elim
      | cons val vals =>
        refine wpAny_bind (wpAny_holding (hf (Inv.store I hx hk hi.1 fun h' tk' k' I' => ?_)))
        exact ih (s := { s with heap := h', toks := tk' }) I' (hi.2.keepX k' I.mx) e fun h2 tk2 k2 I2 => h h2 tk2 (k'.trans k2) I2

noncomputable def tupR (is : List Nat) (σ : List V) (o : Option V) : R := match o with
  | some (.tup vs) => (match setAll is vs σ with
    | some σ' => .next σ'
    | none => .bad)
  | _ => .bad
noncomputable def tupRS (is : List Nat) (σ : List V) (o : Option V) : R := match o with
  | some (.tup vs) => (match setAll is.reverse vs.reverse σ with
    | some σ' => .next σ'
    | none => .bad)
  | _ => .bad
theorem setAll_len : ∀ {is : List Nat} {vs σ σ' : List V}, setAll is vs σ = some σ' → vs.length = is.length
  | [], [], _, _, _ => rfl
  | _ :: is, _ :: vs, _, _, h => by simp only [List.length_cons, setAll_len (is := is) h]
  | [], _ :: _, _, _, h => by cases h
  | _ :: _, [], _, _, h => by cases h

theorem extBut_stays {h h' : Heap} (e : Heap.ExtBut h.objs.size h h') : h.StaysIn h' := fun b o eo => e b o (Nat.ne_of_lt (Heap.lt_size eo)) eo

theorem SimS.tup {elts : List Expr} {k : Nat} {tp pos : Pos} {e : Expr} {f : List V → Option V} (is : List Nat) (H : SimE prog w C e f)
    (hst : ∀ d : Dyn, d.env.scope = C.scope → Stores C d ((assignEach elts d.env).map (·.2)) is) (hstar : ∀ env, (assignEach elts env).findIdx? (·.1) = none := by intro _; rfl)
    (hs : ∀ env, swapsWithSole [.Tuple elts k tp] e pos.line env = pure false := by intro _; rfl)
    (hw : ∀ env, env.scope = C.scope → swappedStores [.Tuple elts k tp] e env = pure none) :
    SimS prog w C (.Assign [.Tuple elts k tp] e pos) (fun σ => tupR is σ (f σ)) := by
  intro d A s σ Q E rm I W
  dsimp only at W
  cases e1 : f σ with
  | none => rw [e1] at W; exact W.elim
  | some v =>
    rw [e1] at W
    refine Assign_Tuple (H.run rm I e1 fun y h tk kk hy I1 => ?_) (hs _) (hw _ I.scope)
    cases v <;> try exact W.elim
    rename_i vs
    unfold tupR at W
    dsimp only at W
    cases e2 : setAll is vs σ with
    | none => rw [e2] at W; exact W.elim
    | some σ' =>
      rw [e2] at W
      simp only [Is] at hy
      obtain ⟨a, items, rfl, hXa, ht, hi⟩ := hy
      have S := hst d I.scope
      have hlen : (assignEach elts d.env).length = items.toArray.size := by
        rw [List.size_toArray, ← hi.length, setAll_len e2]
        have : ∀ {fs : List (Value → Sem Unit)} {is : List Nat}, Stores C d fs is → fs.length = is.length := by
          intro fs is S
          induction S with
          | nil => rfl
          | cons _ _ _ _ ih => simp only [List.length_cons, ih]
        rw [← this S, List.length_map]
      refine assign_Tuple_tuple (s := { s with heap := h, toks := tk }) rm.1 ht hlen (hstar _) fun h' e' => ?_
      have st := extBut_stays e'
      refine store_allV (s := { s with heap := h', toks := tk }) S (I1.mono st) ?_ e2 fun h2 tk2 k2 I2 => ?_
      · exact ValAll.of (hi.mono st)
      · exact W h2 tk2 ((KeepBut.of (stays_trans kk st)).trans (k2.weaken fun _ => .inl)) I2

theorem SimS.tupS {elts : List Expr} {k : Nat} {tp pos : Pos} {e : Expr} {f : List V → Option V} {names : List Str} (is : List Nat) (H : SimE prog w C e f)
    (hst : ∀ d : Dyn, d.env.scope = C.scope → Stores C d (names.reverse.map fun n => bindName d.env n) is.reverse)
    (hlen : names.length = is.length)
    (hs : ∀ env, swapsWithSole [.Tuple elts k tp] e pos.line env = pure false := by intro _; rfl)
    (hw : ∀ env, env.scope = C.scope → swappedStores [.Tuple elts k tp] e env = pure (some names)) :
    SimS prog w C (.Assign [.Tuple elts k tp] e pos) (fun σ => tupRS is σ (f σ)) := by
  intro d A s σ Q E rm I W
  dsimp only at W
  cases e1 : f σ with
  | none => rw [e1] at W; exact W.elim
  | some v =>
    rw [e1] at W
    refine Assign_Tuple_swapped (H.run rm I e1 fun y h tk kk hy I1 => ?_) (hs _) (hw _ I.scope)
    cases v <;> try exact W.elim
    rename_i vs
    unfold tupRS at W
    dsimp only at W
    cases e2 : setAll is.reverse vs.reverse σ with
    | none => rw [e2] at W; exact W.elim
    | some σ' =>
      rw [e2] at W
      simp only [Is] at hy
      obtain ⟨a, items, rfl, hXa, ht, hi⟩ := hy
      have S := hst d I.scope
      have hl : names.length = items.toArray.size := by
        rw [List.size_toArray, ← hi.length, hlen]
        have := setAll_len e2
        simpa using this.symm
      rw [hl]
      refine unpackItems_tuple (s := { s with heap := h, toks := tk }) rm.1 ht fun h' e' => ?_
      have st := extBut_stays e'
      refine store_allV (s := { s with heap := h', toks := tk }) S (I1.mono st) ?_ e2 fun h2 tk2 k2 I2 => ?_
      · exact ValAll.of (hi.mono st).reverse
      · exact W h2 tk2 ((KeepBut.of (stays_trans kk st)).trans (k2.weaken fun _ => .inl)) I2

/- a call for its effect alone: here it hands back None -/
theorem SimS.exprNone {e : Expr} {pos : Pos} {f : List V → Option V} (H : SimE prog w C e f) (hi : ∀ env : Env, env.scope.kind = .function → interactive env = false) (hs : ∀ env, swapsWith e none pos.line env = pure false := by intro _; rfl) :
    SimS prog w C (.Expr e pos) (fun σ => match f σ with
      | some .none => .next σ
      | _ => .bad) := by
  intro d A s σ Q E rm I W
  dsimp only at W
  cases e1 : f σ with
  | none => rw [e1] at W; exact W.elim
  | some v =>
    rw [e1] at W
    refine wpAny_Expr (H.run rm I e1 fun y h tk kk hy I1 => ?_) (hi _ (by rw [I.scope]; exact I.kind)) (hs _)
    cases v <;> try exact W.elim
    simp only [Is] at hy
    subst hy
    exact W h tk (KeepBut.of kk) I1

end
end Mine

/- B16 -/

namespace Mine
section
variable {prog : Program} {w : World} {C : St}

/- an item of the frame's own list or dict -/
noncomputable def idxM : Option V → V → Option V
  | some (.mlist vs), .int k => match decide (-4096 ≤ k) && decide (k ≤ 4096) with
    | true => idxL vs k
    | false => none
  | some (.mdict ks vs), .int k => lookD ks vs k
  | _, _ => none

section
variable {A : Around} {E : Value → Shared → Prop} {s : Shared} {X : Addr → Prop}
theorem item_list {value slice : Expr} {l : Addr} {xs : List Value} {vs : List V} {k : Int} {u : Tok} {c : V} {Q : Value → Shared → Prop} (hl : s.heap.PlainList l xs.toArray) (hz : xs.length ≤ 4096) (hi : IsAll X s.heap vs xs) (e : idxL vs k = some c) (q : -4096 ≤ k ∧ k ≤ 4096)
    (h : ∀ z tk, Is X s.heap c z → Q z { s with toks := tk }) (hs : ∀ o i, subscripted slice false o i = operate [o, i] (getItem o i)) : wpAny (model prog w) A (subscriptTail value slice (.ref l) (.int k u)) Q E s := by
  have hsz : xs.toArray.size = vs.length := by rw [List.size_toArray, hi.length]
  unfold idxL at e
  refine tailI hl.isList.typeIs slot_list_getitem.lookup ?_ hs
  split at e
  · rename_i q1
    have q1 := of_decide_eq_true q1
    split at e
    · rename_i q2
      have q2 := of_decide_eq_true q2
      obtain ⟨z, hz1, hz2⟩ := hi.get e
      exact wpAny_getItem_list_neg hl.isList q1 (by rw [hsz]; exact q2) (by omega) (by rw [hsz]; simpa using hz1) (h z s.toks hz2)
    · cases e
  · rename_i q1
    have q1 := of_decide_eq_false q1
    obtain ⟨z, hz1, hz2⟩ := hi.get e
    exact wpAny_getItem_list hl.isList (by omega) (by omega) (by simpa using hz1) (h z s.toks hz2)
theorem item_dict {value slice : Expr} {l : Addr} {kvs : List (Int × Value)} {ks : List Int} {vs : List V} {k : Int} {u : Tok} {c : V} {Q : Value → Shared → Prop} (hl : IsD s.heap l kvs) (hk : kvs.map (·.1) = ks) (hi : IsAll X s.heap vs (kvs.map (·.2))) (e : lookD ks vs k = some c)
    (h : ∀ z tk, Is X s.heap c z → Q z { s with toks := tk }) (hs : ∀ o i, subscripted slice false o i = operate [o, i] (getItem o i)) : wpAny (model prog w) A (subscriptTail value slice (.ref l) (.int k u)) Q E s := by
  obtain ⟨z, hz1, hz2⟩ := lookD_find e hk hi
  obtain ⟨ep, hD⟩ := hl.at prog w
  refine tailI hD.dictOf.typeIs slot_dict_getitem.lookup ?_ hs
  refine wpAny_getItem_of (knd := intKind prog w) (k := k) (by simp [intKind, Value.isInt]) hD.dictOf.mapOf (v := z) ?_ (h z _ hz2)
  unfold valueAt
  have : (fun kv : Int × Value => decide (kv.1 = k)) = fun p => p.1 == k := by funext p; by_cases hp : p.1 = k <;> simp [hp]
  rw [this, hz1]
  rfl
end

theorem SimE.itemM {x : Str} {p : Pos} {ix : Expr} {pos : Pos} {fi : List V → Option V} (i : Nat) (hi : SimE prog w C ix fi) (hx : C.names[i]? = some x) (hp : plainName x = true := by decide +kernel)
    (hs : ∀ o j, subscripted ix false o j = operate [o, j] (getItem o j) := by intro _ _; rfl) :
    SimE prog w C (.Subscript (.Name x p) ix pos) (fun σ => one2 (fi σ) (idxM σ[i]?)) := by
  intro d A s σ Q E rm I W
  obtain ⟨v, e, W⟩ := W.get
  dsimp only at e
  obtain ⟨b, e1, e2⟩ := one2_some e
  refine Subscript_ ?_
  obtain ⟨m, hn, HV⟩ := I.vars
  unfold idxM at e2
  split at e2
  · rename_i vs k hv
    rcases HV i x _ hx hv with q | ⟨val, hh, a, items, hma, rfl, hl, hz, hit⟩
    · cases q
    · refine wpAny_Name (loadName_holds I hn hh (plainName_c hp) ?_) (plainName_d hp)
      refine hi.run rm I e1 fun y h tk kk hy I1 => ?_
      simp only [Is] at hy
      obtain ⟨u, rfl⟩ := hy
      split at e2
      · rename_i q
        rw [Bool.and_eq_true, decide_eq_true_eq, decide_eq_true_eq] at q
        exact item_list (s := { s with heap := h, toks := tk }) (hl.at fun o eo => kk _ _ eo) hz (hit.mono kk) e2 q (fun z tk3 hz3 => W z h tk3 kk hz3) hs
      · cases e2
  · rename_i ks vs k hv
    rcases HV i x _ hx hv with q | ⟨val, hh, a, kvs, hma, rfl, hl, hk, hit⟩
    · cases q
    · refine wpAny_Name (loadName_holds I hn hh (plainName_c hp) ?_) (plainName_d hp)
      refine hi.run rm I e1 fun y h tk kk hy I1 => ?_
      simp only [Is] at hy
      obtain ⟨u, rfl⟩ := hy
      exact item_dict (s := { s with heap := h, toks := tk }) (hl.keep fun o eo => kk _ _ eo) hk (hit.mono kk) e2 (fun z tk3 hz3 => W z h tk3 kk hz3) hs
  · cases e2

/- the change of the frame's own list or dict -/
noncomputable def dropM : List V → List V
  | [] => []
  | .mlist _ :: r => .unb :: dropM r
  | .mdict _ _ :: r => .unb :: dropM r
  | v :: r => v :: dropM r
theorem dropM_get : ∀ {σ : List V} {j : Nat} {v : V}, (dropM σ)[j]? = some v → v = .unb ∨ (σ[j]? = some v ∧ capV v = v)
  | [], j, v, h => by simp [dropM] at h
  | u :: r, 0, v, h => by
    cases u <;> simp [dropM] at h <;> subst h <;> simp [capV]
  | u :: r, j + 1, v, h => by
    have : (dropM r)[j]? = some v := by cases u <;> simpa [dropM] using h
    simpa using dropM_get this

theorem Inv.mutateE {d : Dyn} {σ : List V} {h h' : Heap} {a : Addr} {i : Nat} {x : Str} {v₀ v' : V} {o0 : Obj} (I : Inv C d σ h) (hm : d.ma = some a) (hs : ∀ b o, b ≠ a → h.get? b = some o → h'.get? b = some o) (hx : C.names[i]? = some x) (hv : σ[i]? = some v₀) (hb : v₀ ≠ .unb) (hr : ∀ val, Val d h val v₀ → val = .ref a)
    (ho : h.get? a = some o0) (hc : NotCell o0) (hv' : Val d h' (.ref a) v') (he : ∃ o, h'.get? a = some o) : Inv C d ((dropM σ).set i v') h' := by
  have hX := I.mx a hm
  have hXp : ∀ b o, h.get? b = some o → ¬ d.Xp b → ¬ d.Xp b ∧ h'.get? b = some o := fun b o e n => ⟨n, hs b o (fun q => n (.inr (q ▸ hm))) e⟩
  have cell : ∀ c v, h.IsCell c v → h'.IsCell c v := fun c v ⟨o, e, hd⟩ => ⟨o, hs c o (fun q => by
    subst q
    rw [ho] at e; cases e; exact hc v hd) e, hd⟩
  have hL : d.env.locals ≠ a := fun e => hX (e ▸ I.lx)
  refine { I with stays := ?_, xin := ?_, own := ?_, vars := ?_ }
  · intro b o e
    exact hs b o (fun q => by rw [q, I.mb a hm] at e; cases e) (I.stays b o e)
  · intro b xb
    by_cases q : b = a
    · subst q; exact he
    · obtain ⟨o, e⟩ := I.xin b xb; exact ⟨o, hs b o q e⟩
  · intro y hy
    obtain ⟨q, c, b, b', e, v₀, f⟩ := I.own y hy
    exact ⟨q, c, b, b', e, v₀, cell _ _ f⟩
  · obtain ⟨m, hn, H⟩ := I.vars
    refine ⟨m, hn.at' fun o e => hs _ o hL e, fun j y u hj hu => ?_⟩
    rcases getElem?_set_some hu with ⟨rfl, rfl⟩ | ⟨hne, hu'⟩
    · rw [hx] at hj; cases hj
      rcases H j x v₀ hx hv with q | ⟨val, hh, hval⟩
      · exact absurd q hb
      · rw [hr val hval] at hh
        exact .inr ⟨_, hh.imp id fun ⟨c, a, b, e⟩ => ⟨c, a, b, cell _ _ e⟩, hv'⟩
    · rcases dropM_get hu' with q | ⟨q1, q2⟩
      · exact .inl q
      · refine (H j y u hj q1).imp id fun ⟨val, hh, hval⟩ => ⟨val, hh.imp id fun ⟨c, a, b, e⟩ => ⟨c, a, b, cell _ _ e⟩, ?_⟩
        have hIs : Is d.Xp h u val := by
          cases u <;> first | exact hval | (simp [capV] at q2)
        exact Val.of (hIs.to hXp)


theorem setItem_plain {A : Around} {E : Value → Shared → Prop} {s : Shared} {l : Addr} {items : Array Value} {k : Int} {t : Tok} {v : Value} {Q : Unit → Shared → Prop} (hl : s.heap.PlainList l items)
    (h0 : 0 ≤ k) (hfit : k < 2 ^ 63) (hn : k < items.size)
    (hQ : ∀ h', h'.PlainList l (items.setIfInBounds k.toNat v) → Heap.SameBut l s.heap h' → Q () { s with heap := h' }) :
    wpAny (model prog w) A (setItem (.ref l) (.int k t) v) Q E s := by
  obtain ⟨ne, ho⟩ := id hl
  have hT := hl.isList.typeIs
  unfold setItem
  refine wpAny_holding ?_
  refine wpAny_bind (wpAny_sequenceKey hT (by decide) ?_)
  refine wpAny_bind (wpAny_callSpecial?_slot (name := Str.ofString "__setitem__") hT slot_list_setitem (wpAny_call_entry slot_list_setitem hT entry_list_setitem ?_ (args_list_setitem _ _ _)))
  show wpAny _ _ (Builtin.List.listSubscript? (.int k t) >>= _) _ _ s
  refine wpAny_bind (wpAny_listSubscript_int (fitsIndex_of h0 hfit) ?_)
  obtain ⟨j, rfl⟩ := Int.eq_ofNat_of_zero_le h0
  have hj : j < items.size := by omega
  show wpAny _ _ ((seqItemAt l j >>= fun r => pure (r.map (j, ·))) >>= _) _ _ s
  refine wpAny_bind (wpAny_bind (wpAny_seqItemAt ho rfl (wpAny_pure ?_)))
  rw [Array.getElem?_eq_getElem hj]
  show wpAny _ _ (setSeqItemAt l j v >>= _) _ _ s
  have hfin : (s.heap.update l (Obj.mapSeq (·.setIfInBounds j v))).PlainList l (items.setIfInBounds j v) := by
    refine ⟨_, Heap.get?_update_self _ ho rfl⟩
  refine wpAny_bind (wpAny_setSeqItemAt ho rfl ?_)
  first
    | exact wpAny_bind (wpAny_pure (wpAny_pure ⟨.none, rfl, wpAny_pure (hQ _ hfin (Heap.SameBut.update ..))⟩))
    | exact wpAny_pure ⟨.none, rfl, wpAny_pure (hQ _ hfin (Heap.SameBut.update ..))⟩

noncomputable def storeM (σ : List V) (i : Nat) (k v : V) : R := match σ[i]?, k with
  | some (.mlist vs), .int k => (match decide (0 ≤ k) && decide (k < vs.length) with
    | true => .next ((dropM σ).set i (.mlist (vs.set k.toNat v)))
    | false => .bad)
  | some (.mdict ks vs), .int k => (match ks.contains k || Nat.ble 4096 ks.length with
    | false => .next ((dropM σ).set i (.mdict (ks ++ [k]) (vs ++ [v])))
    | true => .bad)
  | _, _ => .bad

theorem IsD.notSys {h : Heap} {a : Addr} {kvs : List (Int × Value)} (x : IsD h a kvs) : (a == sysModules) = false := x.1

theorem SimS.setM {x : Str} {p ps pos : Pos} {ix e : Expr} {fi fe : List V → Option V} (i : Nat) (hm : C.mode = 1) (hi : SimE prog w C ix fi) (he : SimE prog w C e fe) (hx : C.names[i]? = some x) (hp : plainName x = true := by decide +kernel)
    (hs : ∀ env, swapsWith e (some (.Subscript (.Name x p) ix ps)) pos.line env = pure false := by intro _; rfl) :
    SimS prog w C (.Assign [.Subscript (.Name x p) ix ps] e pos) (fun σ => match fe σ with
      | some v => (match fi σ with
        | some k => storeM σ i k v
        | none => .bad)
      | none => .bad) := by
  intro d A s σ Q E rm I W
  dsimp only at W
  cases e1 : fe σ with
  | none => rw [e1] at W; exact W.elim
  | some v =>
    cases e2 : fi σ with
    | none => rw [e1, e2] at W; exact W.elim
    | some k =>
      rw [e1, e2] at W
      dsimp only at W
      refine wpAny_Assign_Subscript ?_ (hs _)
      refine he.run rm I e1 fun y h tk kk hy I1 => ?_
      obtain ⟨m, hn, HV⟩ := I1.vars
      unfold storeM at W
      split at W
      · rename_i vs k hv
        split at W
        · rename_i q
          rw [Bool.and_eq_true, decide_eq_true_eq, decide_eq_true_eq] at q
          rcases HV i x _ hx hv with qq | ⟨val, hh, a, items, hma, rfl, hl, hz, hit⟩
          · cases qq
          · refine wpAny_Name (loadName_holds (s := { s with heap := h, toks := tk }) I1 hn hh (plainName_c hp) ?_) (plainName_d hp)
            refine hi.run (s := { s with heap := h, toks := tk }) rm I1 e2 fun z h2 tk2 k2 hz2 I2 => ?_
            simp only [Is] at hz2
            obtain ⟨u, rfl⟩ := hz2
            have hl2 := hl.at (h' := h2) fun o eo => k2 _ _ eo
            have hlen := hit.length
            obtain ⟨n0, ho2⟩ := id hl2
            refine setItem_plain (s := { s with heap := h2, toks := tk2 }) hl2 q.1 (by omega) (by rw [List.size_toArray, ← hlen]; exact q.2) fun h3 hl3 hs3 => ?_
            have hXa : d.Xp a := .inr hma
            have kb : KeepBut (Xw C d) h2 h3 := fun b o nb eb => hs3.extBut b o (fun q => nb (.inr ⟨hm, q ▸ hma⟩)) eb
            have kp : KeepBut d.Xp h2 h3 := fun b o nb eb => hs3.extBut b o (fun q => nb (q ▸ hXa)) eb
            obtain ⟨n3, ho3⟩ := id hl3
            refine W h3 tk2 ((KeepBut.of (stays_trans kk k2)).trans kb) ?_
            refine I2.mutateE hma (fun b o nb eb => hs3.extBut b o nb eb) hx hv (by intro q; cases q) (fun val hval => ?_) ho2 (fun v e => by cases e) ?_ ⟨_, ho3⟩
            · obtain ⟨a', _, hma', rfl, _⟩ := hval
              rw [hma] at hma'; cases hma'; rfl
            · refine ⟨a, items.set k.toNat y, hma, rfl, ?_, ?_, ?_⟩
              · have : (items.set k.toNat y).toArray = items.toArray.setIfInBounds k.toNat y := by simp
                rw [this]; exact hl3
              · rw [List.length_set]; exact hz
              · exact IsAll.set ((hy.mono k2).keepBut kp) _ ((hit.mono k2).keepBut kp)
        · exact W.elim
      · rename_i ks vs k hv
        split at W
        · rename_i q
          rw [Bool.or_eq_false_iff] at q
          rcases HV i x _ hx hv with qq | ⟨val, hh, a, kvs, hma, rfl, hl, hks, hit⟩
          · cases qq
          · refine wpAny_Name (loadName_holds (s := { s with heap := h, toks := tk }) I1 hn hh (plainName_c hp) ?_) (plainName_d hp)
            refine hi.run (s := { s with heap := h, toks := tk }) rm I1 e2 fun z h2 tk2 k2 hz2 I2 => ?_
            simp only [Is] at hz2
            obtain ⟨u, rfl⟩ := hz2
            have hl2 := hl.keep (h' := h2) fun o eo => k2 _ _ eo
            obtain ⟨ep, hD⟩ := hl2.at prog w
            have hkl : kvs.length < 4096 := by
              have h2 : ks.length = kvs.length := by rw [← hks, List.length_map]
              have := q.2
              rw [h2] at this
              by_cases hc : 4096 ≤ kvs.length
              · rw [Nat.ble_eq_true_of_le hc] at this; cases this
              · omega
            have habs : stored kvs k y = kvs ++ [(k, y)] := by
              unfold stored
              have : (kvs.any fun kv => decide (kv.1 = k)) = false := by
                rw [List.any_eq_false]
                intro kv hkv
                have h1 := q.1
                rw [← hks] at h1
                intro hq
                have hq := of_decide_eq_true hq
                have : k ∈ kvs.map (·.1) := List.mem_map.mpr ⟨kv, hkv, hq⟩
                rw [List.contains_iff_mem.mpr this] at h1
                cases h1
              rw [if_neg (by rw [this]; exact Bool.false_ne_true)]
            refine wpAny_setItem_pairs (knd := intKind prog w) (k := k) (s := { s with heap := h2, toks := tk2 }) (by simp [intKind, Value.isInt]) hD.dictOf (fun h3 hl3 hs3 => ?_) (Nat.le_trans (Nat.le_of_lt hkl) sizeLine_ge)
            rw [habs] at hl3
            obtain ⟨ep3, hd3⟩ := hl3.dictAt
            obtain ⟨o3, es3, ho3, _⟩ := id hd3
            obtain ⟨o2, es2, ho2, hc2, hd2, _⟩ := id hD
            have hXa : d.Xp a := .inr hma
            have kb : KeepBut (Xw C d) h2 h3 := fun b o nb eb => hs3.extBut b o (fun q => nb (.inr ⟨hm, q ▸ hma⟩)) eb
            have kp : KeepBut d.Xp h2 h3 := fun b o nb eb => hs3.extBut b o (fun q => nb (q ▸ hXa)) eb
            refine W h3 _ ((KeepBut.of (stays_trans kk k2)).trans kb) ?_
            refine I2.mutateE hma (fun b o nb eb => hs3.extBut b o nb eb) hx hv (by intro q; cases q) (fun val hval => ?_) ho2 (fun v e => by rw [hd2] at e; cases e) ?_ ⟨_, ho3⟩
            · obtain ⟨a', _, hma', rfl, _⟩ := hval
              rw [hma] at hma'; cases hma'; rfl
            · refine ⟨a, kvs ++ [(k, y)], hma, rfl, ⟨hl.1, prog, w, ep3, hd3⟩, ?_, ?_⟩
              · rw [List.map_append, hks]; rfl
              · rw [List.map_append]
                exact IsAll.append ((hit.mono k2).keepBut kp) (by simp only [IsAll, List.map_cons, List.map_nil, and_true]; exact (hy.mono k2).keepBut kp)
        · exact W.elim
      · exact W.elim

end
end Mine

/- B17 -/

namespace Mine
section
variable {prog : Program} {w : World} {C : St}

noncomputable def appendM (σ : List V) (i : Nat) (v : V) : R := match σ[i]? with
  | some (.mlist vs) => (match Nat.ble vs.length 4095 with
    | true => .next ((dropM σ).set i (.mlist (vs ++ [v])))
    | false => .bad)
  | _ => .bad

theorem SimS.append {x : Str} {p ap pos ps : Pos} {e : Expr} {fe : List V → Option V} {pl : Env → Sem Bool} (i : Nat) (hm : C.mode = 1) (he : SimE prog w C e fe) (hx : C.names[i]? = some x) (hp : plainName x = true := by decide +kernel)
    (hi : ∀ env : Env, env.scope.kind = .function → interactive env = false)
    (hpe : plainStar e := by intro _ _; rfl)
    (hs : ∀ env, swapsWith (.Call (.Attribute (.Name x p) ("append" : Str) ap) [e] [] pos) none ps.line env = pure false := by intro _; rfl)
    (hce : ∀ env, eval (.Call (.Attribute (.Name x p) ("append" : Str) ap) [e] [] pos) env = (do
      let ov ← eval (.Name x p) env
      standAt ap.atName
      let (f, first) ← holding [ov] (getMethod ov ("append" : Str) (pl env))
      callWith pos f first (backTo pos (starEach [e] env)) []) := by intro _; rfl) :
    SimS prog w C (.Expr (.Call (.Attribute (.Name x p) ("append" : Str) ap) [e] [] pos) ps) (fun σ => match fe σ with
      | some v => appendM σ i v
      | none => .bad) := by
  intro d A s σ Q E rm I W
  dsimp only at W
  cases e1 : fe σ with
  | none => rw [e1] at W; exact W.elim
  | some v =>
    rw [e1] at W
    dsimp only at W
    refine wpAny_Expr ?_ (hi _ (by rw [I.scope]; exact I.kind)) (hs _)
    refine MethodCall_ ?_ (hce _)
    obtain ⟨m, hn, HV⟩ := I.vars
    unfold appendM at W
    split at W
    · rename_i vs hv
      split at W
      · rename_i q
        have q := Nat.le_of_ble_eq_true q
        rcases HV i x _ hx hv with qq | ⟨val, hh, a, items, hma, rfl, hl, hz, hit⟩
        · cases qq
        · refine wpAny_Name (loadName_holds I hn hh (plainName_c hp) ?_) (plainName_d hp)
          obtain ⟨n0, ho⟩ := id hl
          refine getMethod_list_append ho rfl rfl ?_
          refine callWith_method1 ?_ (hpe _ _) rfl
          rw [hpe]
          refine spliced_cons ?_
          refine he.run rm I e1 fun y h tk kk hy I1 => ?_
          refine spliced_nil ?_
          have ho1 := kk _ _ ho
          have hlen := hit.length
          refine append_at (s := { s with heap := h, toks := tk }) ho1 (fun h3 hs3 ho3 => ?_) (by rw [List.size_toArray]; exact Nat.le_trans hz sizeLine_ge)
          have hXa : d.Xp a := .inr hma
          have kb : KeepBut (Xw C d) h h3 := fun b o nb eb => hs3.extBut b o (fun q => nb (.inr ⟨hm, q ▸ hma⟩)) eb
          have kp : KeepBut d.Xp h h3 := fun b o nb eb => hs3.extBut b o (fun q => nb (q ▸ hXa)) eb
          refine W h3 tk ((KeepBut.of kk).trans kb) ?_
          refine I1.mutateE hma (fun b o nb eb => hs3.extBut b o nb eb) hx hv (by intro q; cases q) (fun val hval => ?_) ho1 (fun v e => by cases e) ?_ ⟨_, ho3⟩
          · obtain ⟨a', _, hma', rfl, _⟩ := hval
            rw [hma] at hma'; cases hma'; rfl
          · refine ⟨a, items ++ [y], hma, rfl, ⟨n0 + 1, ?_⟩, ?_, ?_⟩
            · have : (items ++ [y]).toArray = items.toArray.push y := by simp
              rw [this]; exact ho3
            · rw [List.length_append, ← hlen]; exact Nat.succ_le_succ q
            · exact IsAll.append ((hit.mono kk).keepBut kp) (by simp only [IsAll, and_true]; exact hy.keepBut kp)
      · exact W.elim
    · exact W.elim

/- from here on the frame's own list is left as it is -/
noncomputable def frz (σ : List V) (i : Nat) : Option (List V) := match σ[i]? with
  | some (.mlist vs) => some ((dropM σ).set i (.list vs))
  | some (.mdict ks vs) => some ((dropM σ).set i (.dict ks vs))
  | _ => none
noncomputable def retR (o : Option (List V)) (g : List V → R) : R := match o with
  | some σ => (match g σ with
    | .ret v => .ret v
    | _ => .bad)
  | none => .bad
noncomputable def St.at (C : St) (m : Nat) : St := { C with mode := m }

theorem Inv.freeze {d : Dyn} {σ σ' : List V} {h : Heap} {i : Nat} {x : Str} (I : Inv C d σ h) (hx : C.names[i]? = some x) (e : frz σ i = some σ') : Inv (C.at 0) { d with ma := none } σ' h := by
  have wk : ∀ {v : V} {val : Value}, Is d.Xp h v val → Is (Dyn.Xp { d with ma := none }) h v val := fun H => H.weaken fun a q => by
    rcases q with q | q
    · exact .inl q
    · cases q
  have wka : ∀ {v : List V} {val : List Value}, IsAll d.Xp h v val → IsAll (Dyn.Xp { d with ma := none }) h v val := fun H => IsAll.to (fun a _ ho n => ⟨fun q => n (Or.elim q .inl fun q => nomatch q), ho⟩) H
  have hn1 : ∀ a, d.ma = some a → ¬ Dyn.Xp { d with ma := none } a := fun a ha q => by
    rcases q with q | q
    · exact I.mx a ha q
    · cases q
  obtain ⟨m, hn, H⟩ := I.vars
  have key : ∀ u, (∀ val, Val d h val (match σ[i]? with | some v => v | none => .unb) → Val { d with ma := none } h val u) → (∃ v, σ[i]? = some v ∧ v ≠ .unb) → σ' = (dropM σ).set i u → Inv (C.at 0) { d with ma := none } σ' h := by
    intro u hu ⟨v, hv, hvu⟩ hσ
    exact {
      scope := I.scope
      kind := I.kind
      globals := I.globals
      builtins := I.builtins
      gf := I.gf
      stays := I.stays
      xin := fun a xa => I.xin a (xa.imp id fun q => by cases q)
      lx := I.lx
      lb := I.lb
      mb := fun a e => nomatch e
      mx := fun a e => nomatch e
      m0 := fun _ => rfl
      own := I.own
      inj := I.inj
      ndup := I.ndup
      vars := ⟨m, hn, fun j y w' hj hw => by
        rw [hσ] at hw
        rcases getElem?_set_some hw with ⟨rfl, rfl⟩ | ⟨hne, hu'⟩
        · rw [hv] at hu
          refine (H j y v hj hv).elim (fun q => absurd q hvu) fun ⟨val, hh, hval⟩ => .inr ⟨val, hh, hu val hval⟩
        · rcases dropM_get hu' with q | ⟨q1, q2⟩
          · exact .inl q
          · refine (H j y w' hj q1).imp id fun ⟨val, hh, hval⟩ => ⟨val, hh, ?_⟩
            have hIs : Is d.Xp h w' val := by
              cases w' <;> first | exact hval | (simp [capV] at q2)
            exact Val.of (wk hIs)⟩ }
  unfold frz at e
  split at e
  · rename_i vs hv
    cases e
    refine key (.list vs) ?_ ⟨_, hv, by intro q; cases q⟩ rfl
    rw [hv]
    rintro val ⟨a, items, hma, rfl, hl, hz, hit⟩
    refine Val.of ?_
    simp only [Is]
    exact ⟨a, items, rfl, hn1 a hma, hl, hz, wka hit⟩
  · rename_i ks vs hv
    cases e
    refine key (.dict ks vs) ?_ ⟨_, hv, by intro q; cases q⟩ rfl
    rw [hv]
    rintro val ⟨a, kvs, hma, rfl, hD, hks, hit⟩
    refine Val.of ?_
    simp only [Is]
    exact ⟨a, kvs, rfl, hn1 a hma, hD, hks, wka hit⟩
  · cases e

theorem SimB.freeze {b : List Stmt} {g : List V → R} {x : Str} (i : Nat) (hb : SimB prog w (C.at 0) b g) (hx : C.names[i]? = some x) : SimB prog w C b (fun σ => retR (frz σ i) g) := by
  intro d A s σ Q E rm I W
  dsimp only at W
  cases e1 : frz σ i with
  | none => rw [e1] at W; exact W.elim
  | some σ' =>
    rw [e1] at W
    unfold retR at W
    dsimp only at W
    refine hb { d with ma := none } A s σ' Q E rm (I.freeze hx e1) ?_
    cases e2 : g σ' with
    | bad => rw [e2] at W; exact W.elim
    | next _ => rw [e2] at W; exact W.elim
    | ret v =>
      rw [e2] at W
      intro y h tk k b i
      exact W y h tk (k.weaken fun b q => by
        rcases q with q | q
        · exact .inl q
        · exact absurd q.1 (show ¬ (0 : Nat) = 1 by decide)) b i

/- a statement that makes the frame's own list -/
section
variable (prog : Program) (w : World)
noncomputable def SimF (C : St) (st : Stmt) (f : List V → Option (List V)) : Prop :=
  ∀ (d : Dyn) (A : Around) (s : Shared) (σ : List V) (Q : Flow → Shared → Prop) (E : Value → Shared → Prop), Room C.room A → d.ma = none → Inv C d σ s.heap → (match f σ with
    | none => False
    | some σ' => ∀ a h tk, s.heap.get? a = none → KeepBut d.X s.heap h → Inv (C.at 1) { d with ma := some a } σ' h → Q .next { s with heap := h, toks := tk }) → wpAny (model prog w) A (exec st d.env) Q E s
end
theorem SimB.thaw {st : Stmt} {b : List Stmt} {f : List V → Option (List V)} {g : List V → R} (h0 : C.mode = 0) (hF : SimF prog w C st f) (hb : SimB prog w (C.at 1) b g) : SimB prog w C (st :: b) (fun σ => retR (f σ) g) := by
  intro d A s σ Q E rm I W
  dsimp only at W
  cases e1 : f σ with
  | none => rw [e1] at W; exact W.elim
  | some σ' =>
    rw [e1] at W
    unfold retR at W
    dsimp only at W
    refine wpAny_execs_cons (hF d A s σ _ E rm (I.m0 h0) I ?_)
    rw [e1]
    intro a h tk ha k I1
    refine hb { d with ma := some a } A { s with heap := h, toks := tk } σ' Q E rm I1 ?_
    cases e2 : g σ' with
    | bad => rw [e2] at W; exact W.elim
    | next _ => rw [e2] at W; exact W.elim
    | ret v =>
      rw [e2] at W
      intro y h2 tk2 k2 b2 i2
      refine W y h2 tk2 (fun b o nb eb => k2 b o (fun q => ?_) (k b o (fun q => nb (.inl q)) eb)) b2 i2
      rcases q with q | ⟨_, q⟩
      · exact nb (.inl q)
      · cases q; rw [ha] at eb; cases eb

/- a new list or dict as a value -/
section
variable (prog : Program) (w : World)
noncomputable def SimEF (C : St) (e : Expr) (f : List V → Option V) : Prop :=
  ∀ (d : Dyn) (A : Around) (s : Shared) (σ : List V) (Q : Value → Shared → Prop) (E : Value → Shared → Prop), Room C.room A → d.ma = none → Inv C d σ s.heap → (match f σ with
    | none => False
    | some v => ∀ a h tk, s.heap.StaysIn h → s.heap.get? a = none → (∃ o, h.get? a = some o) → Val { d with ma := some a } h (.ref a) v → Q (.ref a) { s with heap := h, toks := tk }) → wpAny (model prog w) A (eval e d.env) Q E s
end

theorem Inv.thaw {d : Dyn} {σ : List V} {s h : Heap} {a : Addr} (I : Inv C d σ s) (hm : d.ma = none) (k : s.StaysIn h) (ha : s.get? a = none) (he : ∃ o, h.get? a = some o) : Inv (C.at 1) { d with ma := some a } σ h := by
  have hXp : ∀ b o, s.get? b = some o → ¬ d.Xp b → ¬ Dyn.Xp { d with ma := some a } b ∧ h.get? b = some o := fun b o e n => ⟨fun q => (Or.elim q (fun q => n (.inl q)) fun q => by
      cases q
      rw [ha] at e
      cases e), k _ _ e⟩
  exact {
    scope := I.scope
    kind := I.kind
    globals := I.globals
    builtins := I.builtins
    gf := I.gf
    stays := stays_trans I.stays k
    xin := fun b xb => by
      rcases xb with q | q
      · obtain ⟨o, e⟩ := I.xin b (.inl q); exact ⟨o, k _ _ e⟩
      · cases q; exact he
    lx := I.lx
    lb := I.lb
    mb := fun b e => by
      cases e
      cases eb : d.base.get? a with
      | none => rfl
      | some o => have := I.stays _ _ eb; rw [ha] at this; cases this
    mx := fun b e q => by
      cases e
      obtain ⟨o, e⟩ := I.xin a (.inl q)
      rw [ha] at e; cases e
    m0 := fun e => absurd e (show ¬ (1 : Nat) = 0 by decide)
    own := fun x hx => let ⟨q, c, a, b, e, v₀, f⟩ := I.own x hx; ⟨q, c, a, b, e, v₀, f.keeps k⟩
    inj := I.inj
    ndup := I.ndup
    vars := let ⟨m, n, H⟩ := I.vars; ⟨m, n.keeps k, fun i x v a b => (H i x v a b).imp id fun ⟨val, hh, hv⟩ => ⟨val, hh.keeps k, hv.to (fun a e => by rw [hm] at e; cases e) hXp⟩⟩ }

theorem SimF.assign {x : Str} {p pos : Pos} {e : Expr} {f : List V → Option V} (i : Nat) (H : SimEF prog w C e f) (hx : C.names[i]? = some x) (hk : storeOK C x = true := by decide +kernel)
    (hs : ∀ env, swapsWith e (some (.Name x p)) pos.line env = pure false := by intro _; rfl) : SimF prog w C (.Assign [.Name x p] e pos) (fun σ => match f σ with
      | some v => some (σ.set i v)
      | none => none) := by
  intro d A s σ Q E rm hm I W
  dsimp only at W
  cases e1 : f σ with
  | none => rw [e1] at W; exact W.elim
  | some v =>
    rw [e1] at W
    dsimp only at W
    refine wpAny_Assign_Name (H d A s σ _ E rm hm I ?_) (hs _)
    rw [e1]
    intro a h tk k ha he hv
    have I1 := I.thaw hm k ha he
    exact Inv.store (d := { d with ma := some a }) (s := { s with heap := h, toks := tk }) I1 hx hk hv fun h' tk' k' I' => W a h' tk' ha ((KeepBut.of k).trans k') I'

theorem SimEF.list {es : List Expr} {pos : Pos} {f : List V → Option (List V)} (H : SimL prog w C es f) : SimEF prog w C (.List es pos) (fun σ => match f σ with
    | some vs => (match Nat.ble vs.length 4096 with
      | true => some (.mlist vs)
      | false => none)
    | none => none) := by
  intro d A s σ Q E rm hm I W
  dsimp only at W
  cases e1 : f σ with
  | none => rw [e1] at W; exact W.elim
  | some vs =>
    rw [e1] at W
    dsimp only at W
    cases q : Nat.ble vs.length 4096 with
    | false => rw [q] at W; exact W.elim
    | true =>
      rw [q] at W
      dsimp only at W
      have q := Nat.le_of_ble_eq_true q
      refine List_ (H.run rm I e1 fun xs h tk k hx I1 => ?_)
      have hz' : xs.length ≤ 4096 := hx.length ▸ q
      have hsn : s.heap.get? h.objs.size = none := by
        cases e : s.heap.get? h.objs.size with
        | none => rfl
        | some o => have := k _ _ e; rw [fresh_none] at this; cases this
      refine wpAny_newObj_type (W _ _ tk (stays_trans k (stays_push _)) hsn ⟨_, push_get_new rfl⟩ ?_) ?_
      · refine ⟨_, xs, rfl, rfl, ⟨0, push_get_new rfl⟩, hz', ?_⟩
        refine IsAll.to (fun b o e n => ⟨fun q => ?_, Heap.get?_push_of_some _ e⟩) hx
        rcases q with q | q
        · exact n (.inl q)
        · cases q; rw [fresh_none] at e; cases e
      · show xs.toArray.size ≤ sizeLine
        rw [List.size_toArray]
        exact Nat.le_trans hz' sizeLine_ge

theorem SimEF.rep {l r : Expr} {pos : Pos} {fl fr : List V → Option V} (hl : SimE prog w C l fl) (hr : SimE prog w C r fr) : SimEF prog w C (.BinOp l .Mult r pos) (fun σ => match bin2 (fl σ) (fr σ) (opV .Mult) with
    | some (.list vs) => some (.mlist vs)
    | _ => none) := by
  intro d A s σ Q E rm hm I W
  dsimp only at W
  cases e1 : bin2 (fl σ) (fr σ) (opV .Mult) with
  | none => rw [e1] at W; exact W.elim
  | some v =>
    rw [e1] at W
    cases v <;> try exact W.elim
    rename_i vs
    dsimp only at W
    obtain ⟨a, b, e2, e3, e4⟩ := bin2_some e1
    refine wpAny_BinOp ?_
    refine hl.run rm I e2 fun x h tk k hx I1 => ?_
    refine hr.run (s := { s with heap := h, toks := tk }) rm I1 e3 fun y h2 tk2 k2 hy I2 => ?_
    rcases mulV_some e4 with ⟨us, n, rfl, rfl, e6⟩ | ⟨p, q, rfl, rfl, e6⟩
    · obtain ⟨q1, q2, e6⟩ := repL_some e6
      obtain ⟨e5, hz⟩ := okL_some e6
      cases e5
      have hx := hx.mono k2
      simp only [Is] at hx hy
      obtain ⟨l, xs, rfl, _, ⟨kk, hl⟩, hzl, hi⟩ := hx
      obtain ⟨u, rfl⟩ := hy
      have hl2 : (List.replicate n.toNat xs).flatten.length ≤ 4096 := by rw [← (rep_is hi n.toNat).length]; exact hz
      have hb : xs.length * n.toNat ≤ 2 ^ 24 := by
        rw [← hi.length, ← rep_length]
        exact Nat.le_trans hz (by decide)
      have hsn : s.heap.get? h2.objs.size = none := by
        cases e : s.heap.get? h2.objs.size with
        | none => rfl
        | some o => have := k2 _ _ (k _ _ e); rw [fresh_none] at this; cases this
      refine mul_list_raw (s := { s with heap := h2, toks := tk2 }) hl (by omega) (by omega) hb ?_
      refine W _ _ tk2 (stays_trans k (stays_trans k2 (stays_push _))) hsn ⟨_, push_get_new rfl⟩ ?_
      refine ⟨_, (List.replicate n.toNat xs).flatten, rfl, rfl, ⟨0, push_get_new rfl⟩, hl2, ?_⟩
      refine IsAll.to (fun b o e n => ⟨fun q => ?_, Heap.get?_push_of_some _ e⟩) (rep_is hi n.toNat)
      rcases q with q | q
      · exact n (.inl q)
      · cases q; rw [fresh_none] at e; cases e
    · unfold mulI at e6
      split at e6 <;> cases e6

theorem SimEF.dict {pos : Pos} : SimEF prog w C (.Dict [] [] pos) (fun _ => some (.mdict [] [])) := by
  intro d A s σ Q E rm hm I W
  dsimp only at W
  rw [eval_Dict_empty]
  refine wpAny_bind (wpAny_standAt ?_)
  unfold newDict
  refine wpAny_newObj_type (W _ _ s.toks (stays_push _) fresh_none ⟨_, push_get_new rfl⟩ ?_)
  refine ⟨_, [], rfl, rfl, ⟨?_, prog, w, 0, ?_⟩, rfl, by simp only [IsAll, List.map_nil]⟩
  · have := modules_low (I.gf.nolimit.keeps I.stays)
    have hne : s.heap.objs.size ≠ sysModules := Nat.ne_of_gt this
    simpa using hne
  · exact ⟨_, #[], push_get_new rfl, ⟨rfl, rfl, rfl⟩, rfl, (by intro e he; simp at he), Pairs.nil, List.nodup_nil⟩

end
end Mine

/- B18 -/

namespace Mine
section
variable {prog : Program} {w : World} {C : St}

section
variable (prog : Program) (w : World)
noncomputable def SimLF (C : St) (es : List Expr) (f : List V → Option (List V)) : Prop :=
  ∀ (pos : Pos) (d : Dyn) (A : Around) (s : Shared) (σ : List V) (Q : List Value → Shared → Prop) (E : Value → Shared → Prop), Room C.room A → d.ma = none → Inv C d σ s.heap → (match f σ with
    | none => False
    | some vs => ∀ a xs h tk, s.heap.StaysIn h → s.heap.get? a = none → (∃ o, h.get? a = some o) → ValAll { d with ma := some a } h vs xs → Q xs { s with heap := h, toks := tk }) →
    wpAny (model prog w) A (spliced (backTo pos (starEach es d.env))) Q E s
end
theorem SimLF.here {e : Expr} {r : List Expr} {f : List V → Option V} {g : List V → Option (List V)} (he : SimEF prog w C e f) (hr : SimL prog w (C.at 1) r g) (hs : plainStar e := by intro _ _; rfl) : SimLF prog w C (e :: r) (fun σ => bin2 (f σ) (g σ) consL) := by
  intro pos d A s σ Q E rm hm I W
  dsimp only at W
  cases q : bin2 (f σ) (g σ) consL with
  | none => rw [q] at W; exact W.elim
  | some vs =>
    rw [q] at W
    dsimp only at W
    obtain ⟨v, us, e1, e2, e3⟩ := bin2_some q
    cases e3
    rw [hs]
    refine spliced_cons ?_
    refine he d A s σ _ E rm hm I ?_
    rw [e1]
    intro a h tk k ha hx hv
    have I1 := I.thaw hm k ha hx
    refine hr.run (d := { d with ma := some a }) (s := { s with heap := h, toks := tk }) rm I1 e2 fun xs h2 tk2 k2 hxs I2 => ?_
    obtain ⟨o, eo⟩ := hx
    exact W a (.ref a :: xs) h2 tk2 (stays_trans k k2) ha ⟨o, k2 _ _ eo⟩ ⟨hv.mono k2, ValAll.of hxs⟩
theorem SimLF.there {e : Expr} {r : List Expr} {f : List V → Option V} {g : List V → Option (List V)} (he : SimE prog w C e f) (hr : SimLF prog w C r g) (hs : plainStar e := by intro _ _; rfl) : SimLF prog w C (e :: r) (fun σ => bin2 (f σ) (g σ) consL) := by
  intro pos d A s σ Q E rm hm I W
  dsimp only at W
  cases q : bin2 (f σ) (g σ) consL with
  | none => rw [q] at W; exact W.elim
  | some vs =>
    rw [q] at W
    dsimp only at W
    obtain ⟨v, us, e1, e2, e3⟩ := bin2_some q
    cases e3
    rw [hs]
    refine spliced_cons ?_
    refine he.run rm I e1 fun x h tk k hx I1 => ?_
    refine hr pos d A { s with heap := h, toks := tk } σ _ E rm hm I1 ?_
    rw [e2]
    intro a xs h2 tk2 k2 ha ho hxs
    refine W a (x :: xs) h2 tk2 (stays_trans k k2) ?_ ho ⟨?_, hxs⟩
    · cases e : s.heap.get? a with
      | none => rfl
      | some o => have := k _ _ e; rw [ha] at this; cases this
    · refine Val.of (hx.to fun b o e n => ⟨fun q => ?_, k2 _ _ e⟩)
      rcases q with q | q
      · exact n (.inl q)
      · cases q; rw [ha] at e; cases e

theorem Stores.len {d : Dyn} {fs : List (Value → Sem Unit)} {is : List Nat} (S : Stores C d fs is) : fs.length = is.length := by
  induction S with
  | nil => rfl
  | cons _ _ _ _ ih => simp only [List.length_cons, ih]

theorem fresh_of_stays {h h' : Heap} {a : Addr} (k : h.StaysIn h') (ha : h'.get? a = none) : h.get? a = none := by
  cases e : h.get? a with
  | none => rfl
  | some o => have := k _ _ e; rw [ha] at this; cases this

theorem SimF.tup {elts es : List Expr} {k k' : Nat} {tp vp pos : Pos} {f : List V → Option (List V)} (is : List Nat) (H : SimLF prog w C es f)
    (hst : ∀ d : Dyn, d.env.scope = C.scope → Stores (C.at 1) d ((assignEach elts d.env).map (·.2)) is) (hstar : ∀ env, (assignEach elts env).findIdx? (·.1) = none := by intro _; rfl) (hn : Nat.ble is.length 64 = true := by rfl)
    (hs : ∀ env, swapsWithSole [.Tuple elts k tp] (.Tuple es k' vp) pos.line env = pure false := by intro _; rfl)
    (hw : ∀ env, env.scope = C.scope → swappedStores [.Tuple elts k tp] (.Tuple es k' vp) env = pure none) :
    SimF prog w C (.Assign [.Tuple elts k tp] (.Tuple es k' vp) pos) (fun σ => match f σ with
      | some vs => setAll is vs σ
      | none => none) := by
  intro d A s σ Q E rm hm I W
  dsimp only at W
  cases e1 : f σ with
  | none => rw [e1] at W; exact W.elim
  | some vs =>
    rw [e1] at W
    dsimp only at W
    cases e2 : setAll is vs σ with
    | none => rw [e2] at W; exact W.elim
    | some σ' =>
      rw [e2] at W
      dsimp only at W
      refine Assign_Tuple (Tuple_ (H _ d A s σ _ E rm hm I ?_)) (hs _) (hw _ I.scope)
      rw [e1]
      intro a xs h tk kk ha ho hxs
      have I1 := I.thaw hm kk ha ho
      have S := hst { d with ma := some a } I.scope
      have hl : xs.length = is.length := by rw [← hxs.length, setAll_len e2]
      refine wpAny_newObj_type ?_ ?_
      · have st0 := stays_push (h := h) { cls := .type "tuple", data := .seq xs.toArray }
        have ht : IsTup (h.push { cls := .type "tuple", data := .seq xs.toArray }) h.objs.size xs.toArray := ⟨_, push_get_new rfl, rfl, 0, rfl⟩
        have hlen : (assignEach elts d.env).length = xs.toArray.size := by
          rw [List.size_toArray, hl, ← S.len, List.length_map]
        refine assign_Tuple_tuple (s := { s with heap := h.push _, toks := tk }) rm.1 ht hlen (hstar _) fun h' e' => ?_
        have st := extBut_stays e'
        refine store_allV (d := { d with ma := some a }) (s := { s with heap := h', toks := tk }) S (I1.mono (stays_trans st0 st)) (hxs.mono (stays_trans st0 st)) e2 fun h2 tk2 k2 I2 => ?_
        exact W a h2 tk2 ha ((KeepBut.of (stays_trans kk (stays_trans st0 st))).trans k2) I2
      · show xs.toArray.size ≤ sizeLine
        rw [List.size_toArray, hl]
        exact Nat.le_trans (Nat.le_of_ble_eq_true hn) (Nat.le_trans (by decide) sizeLine_ge)

theorem SimF.tupS {elts es : List Expr} {k k' : Nat} {tp vp pos : Pos} {f : List V → Option (List V)} {names : List Str} (is : List Nat) (H : SimLF prog w C es f)
    (hst : ∀ d : Dyn, d.env.scope = C.scope → Stores (C.at 1) d (names.reverse.map fun n => bindName d.env n) is.reverse)
    (hlen : names.length = is.length) (hn : Nat.ble is.length 64 = true := by rfl)
    (hs : ∀ env, swapsWithSole [.Tuple elts k tp] (.Tuple es k' vp) pos.line env = pure false := by intro _; rfl)
    (hw : ∀ env, env.scope = C.scope → swappedStores [.Tuple elts k tp] (.Tuple es k' vp) env = pure (some names)) :
    SimF prog w C (.Assign [.Tuple elts k tp] (.Tuple es k' vp) pos) (fun σ => match f σ with
      | some vs => setAll is.reverse vs.reverse σ
      | none => none) := by
  intro d A s σ Q E rm hm I W
  dsimp only at W
  cases e1 : f σ with
  | none => rw [e1] at W; exact W.elim
  | some vs =>
    rw [e1] at W
    dsimp only at W
    cases e2 : setAll is.reverse vs.reverse σ with
    | none => rw [e2] at W; exact W.elim
    | some σ' =>
      rw [e2] at W
      dsimp only at W
      refine Assign_Tuple_swapped (Tuple_ (H _ d A s σ _ E rm hm I ?_)) (hs _) (hw _ I.scope)
      rw [e1]
      intro a xs h tk kk ha ho hxs
      have I1 := I.thaw hm kk ha ho
      have S := hst { d with ma := some a } I.scope
      have hl : xs.length = is.length := by
        rw [← hxs.length]
        have := setAll_len e2
        simpa using this
      refine wpAny_newObj_type ?_ ?_
      · have st0 := stays_push (h := h) { cls := .type "tuple", data := .seq xs.toArray }
        have ht : IsTup (h.push { cls := .type "tuple", data := .seq xs.toArray }) h.objs.size xs.toArray := ⟨_, push_get_new rfl, rfl, 0, rfl⟩
        have hl2 : names.length = xs.toArray.size := by rw [List.size_toArray, hl, hlen]
        rw [hl2]
        refine unpackItems_tuple (s := { s with heap := h.push _, toks := tk }) rm.1 ht fun h' e' => ?_
        have st := extBut_stays e'
        refine store_allV (d := { d with ma := some a }) (s := { s with heap := h', toks := tk }) S (I1.mono (stays_trans st0 st)) ((hxs.mono (stays_trans st0 st)).reverse) e2 fun h2 tk2 k2 I2 => ?_
        exact W a h2 tk2 ha ((KeepBut.of (stays_trans kk (stays_trans st0 st))).trans k2) I2
      · show xs.toArray.size ≤ sizeLine
        rw [List.size_toArray, hl]
        exact Nat.le_trans (Nat.le_of_ble_eq_true hn) (Nat.le_trans (by decide) sizeLine_ge)

/- a statement that leaves the frame's own dict alone -/
theorem SimS.quiet {st : Stmt} {f : List V → R} (hm : C.mode = 1) (H : SimS prog w (C.at 2) st f) : SimS prog w C st f := by
  have to : ∀ {d : Dyn} {σ : List V} {h : Heap}, Inv C d σ h → Inv (C.at 2) d σ h := fun I => { scope := I.scope, kind := I.kind, globals := I.globals, builtins := I.builtins, gf := I.gf, stays := I.stays, xin := I.xin, lx := I.lx, lb := I.lb, mb := I.mb, mx := I.mx, m0 := (fun e => absurd e (show ¬ (2 : Nat) = 0 by decide)), own := I.own, inj := I.inj, ndup := I.ndup, vars := I.vars }
  have fro : ∀ {d : Dyn} {σ : List V} {h : Heap}, Inv (C.at 2) d σ h → Inv C d σ h := fun I => { scope := I.scope, kind := I.kind, globals := I.globals, builtins := I.builtins, gf := I.gf, stays := I.stays, xin := I.xin, lx := I.lx, lb := I.lb, mb := I.mb, mx := I.mx, m0 := (fun e => by rw [hm] at e; cases e), own := I.own, inj := I.inj, ndup := I.ndup, vars := I.vars }
  intro d A s σ Q E rm I W
  refine H d A s σ Q E rm (to I) ?_
  have wk : ∀ b, Xw (C.at 2) d b → Xw C d b := fun b q => by
    rcases q with q | q
    · exact .inl q
    · exact absurd q.1 (show ¬ (2 : Nat) = 1 by decide)
  cases e : f σ with
  | bad => rw [e] at W; exact W
  | next σ' => rw [e] at W; exact fun h tk k I' => W h tk (k.weaken wk) (fro I')
  | ret v => rw [e] at W; exact fun x h tk k b i => W x h tk (k.weaken wk) b i

end
end Mine

/- B19 -/

namespace Mine
section
variable {prog : Program} {w : World} {C : St}

section
variable {A : Around} {E : Value → Shared → Prop} {s : Shared}
theorem lri_no_len : typeLookup (.type "list_reverseiterator") "__len__" = pure none := by rw [typeLookup_type, builtinLookup_eq_fast]; kernel_rfl
theorem lri_hint : typeLookup (.type "list_reverseiterator") "__length_hint__" = pure (some (.builtin "list_reverseiterator.__length_hint__")) := by rw [typeLookup_type, builtinLookup_eq_fast]; kernel_rfl
theorem hint_rev {I : Addr} {Q : Bool → Shared → Prop} (hT : s.TypeIs (.ref I) "list_reverseiterator") (h : Q false s) : wpAny (model prog w) A (Builtin.List.listLengthHint (.ref I)) Q E s := by
  unfold Builtin.List.listLengthHint
  refine wpAny_bind (wpAny_specialOf hT lri_no_len ?_)
  show wpAny _ A (specialOf (Value.ref I) (Str.ofString "__length_hint__") >>= _) _ _ _
  refine wpAny_bind (wpAny_specialOf hT lri_hint ?_)
  generalize hid : ("list_reverseiterator.__length_hint__" : String) = id0
  wp_delta
  rw [show splitId id0 = some ("list_reverseiterator", "__length_hint__") from by subst hid; decide +kernel]
  subst hid
  refine wpAny_bind (wpAny_isInstance (T := "list_reverseiterator") (b := true) hT (by rw [isSubtype_type]; kernel_rfl) ?_)
  refine wpAny_ite_split (fun hab => absurd hab (by decide)) (fun _ => ?_)
  refine wpAny_ite_split (fun _ => ?_) (fun hab => absurd (by decide +kernel) hab)
  refine wpAny_ite_split (fun hab => absurd hab (by decide +kernel)) (fun _ => ?_)
  exact wpAny_pure h

theorem call_list_rev {I l : Addr} {items : List Value} {Q : Value → Shared → Prop} (hh : A.handled = none) (hz : items.length ≤ 4096) (hit : s.heap.IsRevIter I l ((items.length : Int) - 1)) (hl : s.heap.IsList l items.toArray) (hne : l ≠ I)
    (h : ∀ h' tk c', (∀ b o, b ≠ I → s.heap.get? b = some o → h'.get? b = some o) → h'.get? s.heap.objs.size = some { cls := .type "list", data := .seq items.reverse.toArray c' } → Q (.ref s.heap.objs.size) { s with heap := h', toks := tk }) :
    wpAny (model prog w) A (PySem.call (.type "list") [.ref I]) Q E s := by
  have hIlt : I < s.heap.objs.size := by obtain ⟨o, e, _⟩ := hit; exact Heap.lt_size e
  have hllt : l < s.heap.objs.size := by obtain ⟨o, e, _⟩ := hl; exact Heap.lt_size e
  refine callType_codes (Q₁ := fun obj s₁ => obj = .ref s.heap.objs.size ∧ s₁ = { s with heap := s.heap.push { cls := .type "list", data := .seq #[] } }) F.called_list (F.typeCall_list_1 _) F.entry_list_init
    (code_list_new _ ⟨rfl, rfl⟩) fun obj s₁ h₁ => ?_
  obtain ⟨rfl, rfl⟩ := h₁
  have hS : (s.heap.push { cls := .type "list", data := .seq #[] }).get? s.heap.objs.size = some { cls := .type "list", data := .seq #[] } := Heap.get?_push_size _ rfl
  refine ⟨⟨_, hS, rfl⟩, F.args_list_init_2 _ _, ?_⟩
  show wpAny _ _ (do let old ← Builtin.List.listItems (.ref s.heap.objs.size); Builtin.List.listUpdate (.ref s.heap.objs.size) (fun _ => #[]); letGo old.toList.reverse; Builtin.List.listExtendWith (.ref s.heap.objs.size) (.ref I) .none) _ _ _
  refine wpAny_bind ?_
  unfold Builtin.List.listItems
  refine wpAny_bind (wpAny_seqItems hS rfl (wpAny_pure ?_))
  show wpAny _ _ (updateSeq s.heap.objs.size (fun _ => #[]) >>= fun _ => letGo (#[] : Array Value).toList.reverse >>= fun _ => Builtin.List.listExtendWith (.ref s.heap.objs.size) (.ref I) .none) _ _ _
  refine wpAny_bind (wpAny_updateSeq hS rfl ?_)
  have hS₂ := Heap.get?_update_self (Obj.mapSeq (fun _ => (#[] : Array Value))) hS rfl
  have oth : ∀ b o, s.heap.get? b = some o → ((s.heap.push { cls := .type "list", data := .seq #[] }).update s.heap.objs.size (Obj.mapSeq (fun _ => (#[] : Array Value)))).get? b = some o :=
    fun b o e => (Heap.get?_update_other _ _ (Nat.ne_of_gt (Heap.lt_size e))).trans (Heap.get?_push_of_some _ e)
  refine wpAny_bind (wpAny_letGo ?_)
  have hS₃ : ((s.heap.push { cls := .type "list", data := .seq #[] }).update s.heap.objs.size (Obj.mapSeq (fun _ => (#[] : Array Value)))).get? s.heap.objs.size = some { cls := .type "list", data := .seq #[] 0 } := by
    rw [hS₂]; rfl
  generalize (s.heap.push { cls := .type "list", data := .seq #[] }).update s.heap.objs.size (Obj.mapSeq (fun _ => (#[] : Array Value))) = H at oth hS₃
  have hitH : H.IsRevIter I l ((items.length : Int) - 1) := hit.at fun o e => oth _ _ e
  have hlH : H.IsList l items.toArray := hl.at fun o e => oth _ _ e
  unfold Builtin.List.listExtendWith
  refine wpAny_bind (wpAny_typeOf (T := "list_reverseiterator") hitH.typeIs ?_)
  have hSI : s.heap.objs.size ≠ I := Nat.ne_of_gt hIlt
  have h1 : Builtin.List.listSameRef (.ref s.heap.objs.size) (.ref I) = false := by simp [Builtin.List.listSameRef, hSI]
  have h2 : (Value.type "list_reverseiterator" == Value.type "list") = false := by decide
  have h3 : (Value.type "list_reverseiterator" == Value.type "tuple") = false := by decide
  simp only [h1, h2, h3, Bool.or_false, Bool.false_eq_true, if_false]
  refine wpAny_bind (wpAny_pyIter_revIter hitH ?_)
  refine wpAny_bind (wpAny_holding (hint_rev hitH.typeIs ?_))
  refine wpAny_ite_split (fun hab => absurd hab (by decide +kernel)) (fun _ => ?_)
  have W := (Walks.listRev (prog := prog) (w := w) (A := A.in1.in1) hh I l hne items.toArray).toS
  have hSf : s.heap.objs.size ∉ [I, l] := fun hm => by
    rcases List.mem_cons.mp hm with e | e
    · exact hSI e
    · exact Nat.ne_of_gt hllt (List.mem_singleton.mp e)
  refine wpAny_pure ⟨plainId_quiet F.plain_extend_loop _, codeAny_extend_loopS W (by rw [List.size_toArray]; exact Nat.le_trans hz sizeLine_ge) s.heap.objs.size hSf .none items.toArray.size 0 _ #[] 0 rfl (Nat.zero_le _) ⟨Nat.zero_le _, ?_, hlH⟩ hS₃ (ItemsOf.nil _) fun s' acc' c' hm hS' hacc => ?_⟩
  · have : ((items.toArray.size : Int) - 1 - ((0 : Nat) : Int)) = (items.length : Int) - 1 := by simp
    rw [this]; exact hitH
  · rw [Moved.eq_with hm]
    refine ⟨rfl, h s'.heap s'.toks c' (fun b o nb e => hm.heap b o (fun hmem => ?_) (oth b o e)) ?_⟩
    · rcases List.mem_cons.mp hmem with e' | hmem
      · exact absurd (Heap.lt_size e) (by rw [e']; exact Nat.lt_irrefl _)
      · exact nb (List.mem_singleton.mp hmem)
    · have hacc' : acc' = items.reverse.toArray := by
        apply Array.ext'
        apply List.ext_getElem?
        intro j
        rw [show items.reverse.toArray.toList = items.reverse from rfl]
        by_cases hj : j < items.length
        · rw [List.getElem?_reverse hj]
          have hs : j < acc'.size := by rw [hacc.1]; simpa using hj
          have := hacc.2 j acc'[j] (Array.getElem?_eq_getElem hs)
          have e2 : acc'.toList[j]? = some acc'[j] := by rw [Array.getElem?_toList]; exact Array.getElem?_eq_getElem hs
          rw [e2, ← this]
          simp [Nat.sub_right_comm]
        · have hs : acc'.toList.length ≤ j := by rw [Array.length_toList, hacc.1]; simp; omega
          rw [List.getElem?_eq_none hs, List.getElem?_eq_none (by rw [List.length_reverse]; omega)]
      rw [hacc'] at hS'
      exact hS'
end

theorem SimE.listRev {e : Expr} {p p2 pos pos2 : Pos} {f : List V → Option V} (H : SimE prog w C e f)
    (hk : (C.scope.names.lookup ("reversed" : Str) == some .globalImplicit) = true := by decide +kernel) (hk2 : (C.scope.names.lookup ("list" : Str) == some .globalImplicit) = true := by decide +kernel)
    (he : plainStar e := by intro _ _; rfl) (he2 : plainStar (.Call (.Name ("reversed" : Str) p) [e] [] pos) := by intro _ _; rfl)
    (hce : ∀ env, eval (.Call (.Name ("reversed" : Str) p) [e] [] pos) env = (do callWith pos (← eval (.Name ("reversed" : Str) p) env) [] (backTo pos (starEach [e] env)) (backToKw pos (keywordEach [] env))) := by intro _; rfl)
    (hce2 : ∀ env, eval (.Call (.Name ("list" : Str) p2) [.Call (.Name ("reversed" : Str) p) [e] [] pos] [] pos2) env = (do callWith pos2 (← eval (.Name ("list" : Str) p2) env) [] (backTo pos2 (starEach [.Call (.Name ("reversed" : Str) p) [e] [] pos] env)) (backToKw pos2 (keywordEach [] env))) := by intro _; rfl) :
    SimE prog w C (.Call (.Name ("list" : Str) p2) [.Call (.Name ("reversed" : Str) p) [e] [] pos] [] pos2) (fun σ => match f σ with
      | some (.list vs) => some (.list vs.reverse)
      | _ => none) := by
  intro d A s σ Q E rm I W
  dsimp only at W
  cases e1 : f σ with
  | none => rw [e1] at W; exact W.elim
  | some v =>
    rw [e1] at W
    cases v <;> try exact W.elim
    rename_i vs
    dsimp only at W
    refine Call_ ?_ (hce2 _)
    refine eval_bi (v := .type "list") I (by decide +kernel) hk2 (by decide +kernel) ?_
    refine callWith_type1 ?_ (he2 _ _) rfl
    rw [he2]
    refine spliced_cons ?_
    refine Call_ ?_ (hce _)
    refine eval_bi (v := .type "reversed") I (by decide +kernel) hk (by decide +kernel) ?_
    refine callWith_type1 ?_ (he _ _) rfl
    rw [he]
    refine spliced_cons ?_
    refine H.run rm I e1 fun x h tk k hx I1 => ?_
    refine spliced_nil ?_
    simp only [Is] at hx
    obtain ⟨a, items, rfl, hXa, hl, hz, hi⟩ := hx
    refine call_reversed_list (s := { s with heap := h, toks := tk }) hl.isList ?_
    refine spliced_nil ?_
    have hne : a ≠ h.objs.size := by
      rintro rfl
      obtain ⟨_, e⟩ := hl
      rw [fresh_none] at e; cases e
    refine call_list_rev (s := { s with heap := h.push _, toks := tk }) (items := items) (l := a) rm.1 hz ⟨_, push_get_new rfl, rfl, by simp [revObj]⟩ (hl.isList.push _) hne fun h' tk' c' hk' hn => ?_
    have st : h.StaysIn h' := fun b o e => hk' b o (Nat.ne_of_lt (Heap.lt_size e)) (Heap.get?_push_of_some _ e)
    refine W _ h' tk' (stays_trans k st) ?_
    simp only [Is]
    refine ⟨_, items.reverse, rfl, fun q => ?_, ⟨c', hn⟩, by rw [List.length_reverse]; exact hz, hi.reverse.mono st⟩
    obtain ⟨o, e⟩ := I1.xin _ q
    have := Heap.lt_size e
    have h2 : h.objs.size < (h.push (revObj a ((items.toArray.size : Int) - 1))).objs.size := by rw [Heap.size_push]; exact Nat.lt_succ_self _
    exact absurd (Nat.lt_trans this h2) (Nat.lt_irrefl _)

end
end Mine

/- B20 -/

namespace Mine
section
variable {prog : Program} {w : World} {C : St}

noncomputable def enumL (fe : List V → Option V) : Int → List V → Option (List V)
  | _, [] => some []
  | i, v :: r => bin2 (fe [.int i, v]) (enumL fe (i + 1) r) consL

structure CompOK2 (C C' : St) (scope : Scope) (xi xv : Str) : Prop where
  sc : C'.scope = relabelS scope C.scope
  kind : scope.kind = .function
  names : C'.names = [xi, xv]
  nd : C'.names.Nodup
  room : C'.room = C.room
  mode : C'.mode = 0
  si : storeOK C' xi = true
  sv : storeOK C' xv = true
  own : C'.own = []
  locals : ∀ y ∈ scope.names, y.2 = .local → scope.names.lookup y.1 = some .local
  free : ∀ y ∈ scope.names, y.2 ≠ .free
  cell : ∀ y ∈ scope.names, y.2 ≠ .cell

theorem SimE.compEnum {elt e : Expr} {xi xv : Str} {pi pv tp p2 cp pos : Pos} {x1 : Nat} {scope : Scope} {f fe : List V → Option V} (C' : St) (Hl : SimE prog w C e f) (Hel : SimE prog w C' elt fe) (ok : CompOK2 C C' scope xi xv)
    (hk : (C.scope.names.lookup ("enumerate" : Str) == some .globalImplicit) = true := by decide +kernel)
    (hpe : plainStar e := by intro _ _; rfl) (hce : ∀ env, eval (.Call (.Name ("enumerate" : Str) p2) [e] [] cp) env = (do callWith cp (← eval (.Name ("enumerate" : Str) p2) env) [] (backTo cp (starEach [e] env)) (backToKw cp (keywordEach [] env))) := by intro _; rfl)
    (hs : ∀ env x, foldedSetIterable (.Call (.Name ("enumerate" : Str) p2) [e] [] cp) env x = pure x := by intro _ _; rfl) :
    SimE prog w C (.ListComp elt [⟨.Tuple [.Name xi pi, .Name xv pv] x1 tp, .Call (.Name ("enumerate" : Str) p2) [e] [] cp, [], 0⟩] scope pos) (fun σ => match f σ with
      | some (.list vs) => one2 (enumL fe 0 vs) okL
      | _ => none) := by
  intro d A s σ Q E rm I W
  obtain ⟨v, e0, W⟩ := W.get
  dsimp only at e0
  cases e1 : f σ with
  | none => rw [e1] at e0; cases e0
  | some v₀ =>
    rw [e1] at e0
    cases v₀ <;> try (cases e0; done)
    rename_i vs
    dsimp only at e0
    obtain ⟨tot, e2, e3⟩ := one2_some e0
    obtain ⟨rfl, hz⟩ := okL_some e3
    rw [eval_ListComp]
    have lk : ∀ n, (n, NameKind.free) ∈ scope.names → ∃ c, d.env.cells.lookup n = some c := fun n hn => absurd rfl (ok.free _ hn)
    refine wpAny_comprehension_free (use := none) rfl (hs _) (closure_eq lk) ok.kind ok.locals ?_
    refine Call_ ?_ (hce _)
    refine eval_bi (v := .type "enumerate") I (by decide +kernel) hk (by decide +kernel) ?_
    refine callWith_type1 ?_ (hpe _ _) rfl
    rw [hpe]
    refine spliced_cons ?_
    refine Hl.run rm I e1 fun x h0 tk k0 hx I1 => ?_
    refine spliced_nil ?_
    simp only [Is] at hx
    obtain ⟨l, items, rfl, hXl, hl, hzl, hi⟩ := hx
    refine call_enumerate_list (s := { s with heap := h0, toks := tk }) hl.isList fun h hE hIt hsz hkeep => ?_
    refine wpAny_pyIter_enum hE ?_
    dsimp only at hE hIt hsz hkeep
    refine wpAny_newObj_type ?_
    dsimp only
    generalize hH1 : h.push { cls := .type "list", dict := none, data := .seq ([] : List Value).toArray } = H1
    have sz1 : H1.objs.size = h0.objs.size + 3 := by rw [← hH1, Heap.size_push, hsz]
    refine wpAny_newFunctionEnv ok.cell (by intro x hx; cases hx) (fun H hns hsb => ?_) ok.kind
    dsimp only at hns hsb ⊢
    have hlt : l < h0.objs.size := by obtain ⟨n, e⟩ := hl; exact Heap.lt_size e
    have fresh0 : ∀ a, h0.objs.size ≤ a → h0.get? a = none := fun a ha => by
      cases e : h0.get? a with
      | none => rfl
      | some o' => exact absurd (Heap.lt_size e) (Nat.not_lt.mpr ha)
    have below : ∀ b o, h.get? b = some o → b ≠ H1.objs.size := fun b o e q => by
      have := Heap.lt_size e
      rw [q, sz1, hsz] at this
      exact absurd this (Nat.not_lt.mpr (Nat.le_succ _))
    have hold : h.StaysIn H := fun b o e => hsb.extBut b o (below b o e) (Heap.get?_push_of_some _ (hH1 ▸ Heap.get?_push_of_some _ e))
    have hold0 : h0.StaysIn H := stays_trans hkeep hold
    have hD : H.get? h.objs.size = some { cls := .type "list", data := .seq #[] } := hsb.extBut _ _ (by rw [sz1, hsz]; exact Nat.ne_of_lt (Nat.lt_succ_self _)) (Heap.get?_push_of_some _ (hH1 ▸ push_get_new rfl))
    let d' : Dyn := ⟨{ newEnv scope H1.objs.size d.env.globals (clF d.env.cells scope.names []) d.env.qual none .none (some d.env) builtinsNs with scope := relabel scope d.env }, (fun a => d.Xp a ∨ a = h.objs.size ∨ a = H1.objs.size), none, h0, d.D⟩
    have hrs : d'.env.scope = C'.scope := (relabel_eq I.scope).trans ok.sc.symm
    have hdX : ∀ a, d.Xp a → a < h0.objs.size := fun a xa => by
      obtain ⟨o, e⟩ := I1.xin a xa; exact Heap.lt_size e
    have Xeq : ∀ b, d'.Xp b → d'.X b := fun b q => Or.elim q id (fun q => by cases q)
    have toX : ∀ b o, h0.get? b = some o → ¬ d.Xp b → ¬ d'.Xp b := fun b o e n q => by
      have hb := Heap.lt_size e
      rcases Xeq b q with q | q | q
      · exact n q
      · rw [q, hsz] at hb; exact absurd hb (Nat.not_lt.mpr (Nat.le_add_right _ _))
      · rw [q, sz1] at hb; exact absurd hb (Nat.not_lt.mpr (Nat.le_add_right _ _))
    have clnone : ∀ z c, (clF d.env.cells scope.names []).lookup z = some c → False := fun z c e => by
      rcases clF_sound _ _ _ _ _ e with q | ⟨q1, _⟩
      · cases q
      · exact ok.free _ q1 rfl
    have I0 : Inv C' d' [.unb, .unb] H := {
      scope := hrs
      kind := by rw [← hrs]; exact ok.kind
      globals := I.globals
      builtins := I.builtins
      gf := I.gf.keeps (stays_trans I.stays k0)
      stays := hold0
      xin := fun a xa => by
        rcases Xeq a xa with xa | xa | xa
        · obtain ⟨o', e⟩ := I1.xin a xa; exact ⟨o', hold0 _ _ e⟩
        · subst xa; exact ⟨_, hD⟩
        · subst xa; obtain ⟨o, _, _, e, _⟩ := hns; exact ⟨o, e⟩
      lx := .inr (.inr rfl)
      lb := fresh0 _ (by show h0.objs.size ≤ H1.objs.size; rw [sz1]; exact Nat.le_add_right _ _)
      mb := fun a e => nomatch e
      mx := fun a e => nomatch e
      m0 := fun _ => rfl
      own := fun y hy => by rw [ok.own] at hy; cases hy
      inj := fun z y c e _ => absurd e fun e => clnone z c e
      ndup := ok.nd
      vars := ⟨_, hns, fun i y v hy hv => by
        match i, hv with
        | 0, hv => cases hv; exact .inl rfl
        | 1, hv => cases hv; exact .inl rfl
        | n + 2, hv => simp at hv⟩ }
    have rm' : Room C'.room A := by rw [ok.room]; exact rm
    have hJE : (h0.objs.size + 1 : Nat) ≠ h0.objs.size := Nat.succ_ne_self _
    have hEL : (h0.objs.size + 1 : Nat) ≠ H1.objs.size := by rw [sz1]; omega
    have hJL : (h0.objs.size : Nat) ≠ H1.objs.size := by rw [sz1]; omega
    have hED : (h0.objs.size + 1 : Nat) ≠ h.objs.size := by rw [hsz]; omega
    have hJD : (h0.objs.size : Nat) ≠ h.objs.size := by rw [hsz]; omega
    have hDL : (h.objs.size : Nat) ≠ H1.objs.size := by rw [sz1, hsz]; omega
    have nX : ∀ b, b = h0.objs.size ∨ b = h0.objs.size + 1 → ¬ d'.Xp b := fun b hb q => by
      rcases Xeq b q with q | q | q
      · have := hdX b q
        rcases hb with hb | hb
        · rw [hb] at this; exact Nat.lt_irrefl _ this
        · rw [hb] at this; exact absurd this (Nat.not_lt.mpr (Nat.le_succ _))
      · rcases hb with hb | hb
        · exact hJD (hb.symm.trans q)
        · exact hED (hb.symm.trans q)
      · rcases hb with hb | hb
        · exact hJL (hb.symm.trans q)
        · exact hEL (hb.symm.trans q)
    have loc_d : ∀ b, Loc C' d' b → b = H1.objs.size := fun b q => by
      rcases q with q | ⟨y, hy, _⟩
      · exact q
      · rw [ok.own] at hy; cases hy
    have loop : codeAny (model prog w) A (.compLoop (.ListComp elt [⟨.Tuple [.Name xi pi, .Name xv pv] x1 tp, .Call (.Name ("enumerate" : Str) p2) [e] [] cp, [], 0⟩] scope pos) 0 (.ref (h0.objs.size + 1)) (.ref h.objs.size) d'.env)
        (compPost (model prog w) A E none Q (.ref h.objs.size) H1.objs.size) { s with heap := H, toks := tk + ([] : List (Str × Value)).length } := by
      refine PyProof.Rows.LCp.codeAny_compLoop_pair (fun n s' => ∃ (hh : Heap) (tk' : Nat) (i : Nat) (old : Value) (u1 u2 : V) (ys : Array Value) (done rest : List V), s' = { s with heap := hh, toks := tk' } ∧ n + i = vs.length ∧ IsEnum hh (h0.objs.size + 1) h0.objs.size (i : Int) old ∧ hh.IsListIter h0.objs.size l i ∧ Inv C' d' [u1, u2] hh ∧ hh.PlainList h.objs.size ys ∧
        IsAll d'.Xp hh done ys.toList ∧ enumL fe (i : Int) (vs.drop i) = some rest ∧ done ++ rest = tot) ?_ vs.length
        ⟨H, _, 0, _, .unb, .unb, #[], [], tot, rfl, rfl, hold _ _ hE, hIt.at fun o e => hold _ _ e, I0, ⟨0, hD⟩, by simp only [IsAll], e2, rfl⟩
      rintro n s' ⟨hh, tk', i, old, u1, u2, ys, done, rest, rfl, hn, hE, hIt, I, hacc, hys, hr, htot⟩
      have hlh : hh.IsList l items.toArray := hl.isList.at fun o e => I.stays _ _ e
      have ioE : IterObj { cls := .type "enumerate", dict := none, data := .fields #[.none, .bool false, .ref h0.objs.size, rawInt (i : Int), .none, old], slots := #[] } := IterObj.of rfl rfl (by decide) (by decide) (by decide)
      by_cases hlt2 : i < vs.length
      · have hv : items.toArray[i]? = some (items[i]'(by rw [← hi.length]; exact hlt2)) := by simp
        obtain ⟨xval, hxv, hxi⟩ := (hi.get (List.getElem?_eq_getElem hlt2))
        have hv : items.toArray[i]? = some xval := by rw [List.getElem?_toArray]; exact hxv
        rw [List.drop_eq_getElem_cons hlt2] at hr
        unfold enumL at hr
        obtain ⟨y, l', q2, q3, q4⟩ := bin2_some hr
        cases q4
        have hEh : (h0.objs.size + 1 : Nat) < hh.objs.size := Heap.lt_size hE
        refine wpAny_pyNext_enum_item (s := { s with heap := hh, toks := tk' }) hE hIt hlh hv hJE fun h2 heo hit2 ht2 hz2 hk2 => ?_
        dsimp only at heo ht2 hz2 hk2
        refine wpAny_letOwnedTupleGo_enum heo fun h3 he3 hs3 => ?_
        dsimp only at hs3
        have k23 : ∀ b o, ¬ (b = h0.objs.size ∨ b = h0.objs.size + 1) → hh.get? b = some o → h3.get? b = some o := fun b o nb eb =>
          hs3.extBut b o (fun q => nb (.inr q)) (hk2 b o (fun q => nb (.inr q)) (fun q => nb (.inl q)) eb)
        have ht3 : IsTup h3 hh.objs.size #[.int (i : Int) tk', xval] := ⟨_, hs3.extBut _ _ (Nat.ne_of_gt hEh) ht2, rfl, _, rfl⟩
        have hit3 : h3.IsListIter h0.objs.size l (i + 1) := hit2.at fun o e => hs3.extBut _ _ (Ne.symm hJE) e
        have I3 : Inv C' d' [u1, u2] h3 := I.changeS k23 fun b hb => ⟨by
            rcases hb with hb | hb
            · rw [hb]; exact fresh0 _ (Nat.le_refl _)
            · rw [hb]; exact fresh0 _ (Nat.le_succ _), fun q => nX b hb (.inl (q ▸ I.lx)), (fun q => by cases q), (fun o eo => by
            rcases hb with hb | hb
            · subst hb
              obtain ⟨o', e', hc', hd'⟩ := hIt
              rw [eo] at e'; cases e'
              have := IterObj.of hc' hd' (by decide) (by decide) (by decide)
              exact ⟨this.2, .inr this.1⟩
            · subst hb
              rw [hE] at eo; cases eo
              exact ⟨ioE.2, .inr ioE.1⟩), fun q => absurd q (nX b hb)⟩
        have hx3 : Is d'.Xp h3 vs[i] xval := hxi.to fun a oa ea na => ⟨toX a oa ea na, I3.stays _ _ ea⟩
        have hys3 : IsAll d'.Xp h3 done ys.toList := IsAll.toV (fun a oa ea va na => ⟨na, k23 _ _ (fun hb => by
          rcases hb with hb | hb
          · subst hb
            obtain ⟨o', e', hc', hd'⟩ := hIt
            rw [ea] at e'; cases e'
            exact (IterObj.of hc' hd' (by decide) (by decide) (by decide)).1 va
          · subst hb
            rw [hE] at ea; cases ea
            exact ioE.1 va) ea⟩) hys
        have hacc3 := hacc.at (h' := h3) fun ob eb => k23 _ _ (fun hb => by
          rcases hb with hb | hb
          · exact hJD hb.symm
          · exact hED hb.symm) eb
        refine assign_Tuple_tuple (s := { s with heap := h3, toks := tk' + 1 }) rm.1 ht3 rfl rfl fun h4 e4 => ?_
        have st4 := extBut_stays e4
        have S : Stores C' d' ((assignEach [.Name xi pi, .Name xv pv] d'.env).map (·.2)) [0, 1] :=
          .cons (x := xi) (by rw [ok.names]; rfl) ok.si (fun hh => wpAny_assign_Name hh) (.cons (x := xv) (by rw [ok.names]; rfl) ok.sv (fun hh => wpAny_assign_Name hh) .nil)
        -- the two stores touch the frame's own place alone
        show wpAny _ _ (assignInOrder [assign (.Name xi pi) d'.env, assign (.Name xv pv) d'.env] [.int (i : Int) tk', xval]) _ _ _
        refine wpAny_bind (wpAny_holding (wpAny_assign_Name (Inv.storeL (i := 0) (v := .int i) (s := { s with heap := h4, toks := _ }) (I3.mono st4) (by rw [ok.names]; rfl) ok.si (Val.of is_int) fun h5 tk5 k5 I5 => ?_)))
        refine wpAny_bind (wpAny_holding (wpAny_assign_Name (Inv.storeL (i := 1) (v := vs[i]) (s := { s with heap := h5, toks := tk5 }) I5 (by rw [ok.names]; rfl) ok.sv (Val.of ((hx3.mono st4).keepBut (k5.weaken fun b l => .inl (Loc.x I5 l)))) fun h6 tk6 k6 I6 => ?_)))
        have I6 : Inv C' d' [.int i, vs[i]] h6 := I6
        refine wpAny_pure ?_
        have k46 : ∀ b o, b ≠ H1.objs.size → h3.get? b = some o → h6.get? b = some o := fun b o nb eb => k6 b o (fun q => nb (loc_d b q)) (k5 b o (fun q => nb (loc_d b q)) (st4 b o eb))
        refine Hel.run (s := { s with heap := h6, toks := tk6 }) rm' I6 q2 fun yv h7 tk7 k7 hy I7 => ?_
        have hacc7 := hacc3.at (h' := h7) fun ob eb => k7 _ _ (k46 _ _ hDL eb)
        have hlen : ys.size ≤ sizeLine := by
          have h1 : ys.toList.length = done.length := hys.length.symm
          have h2 : done.length ≤ tot.length := by rw [← htot, List.length_append]; exact Nat.le_add_right _ _
          rw [Array.length_toList] at h1
          rw [h1]
          exact Nat.le_trans h2 (Nat.le_trans hz sizeLine_ge)
        refine wpAny_list_append_plain (hsz := hlen) hacc7 fun h8 hl8 hs8 => ?_
        obtain ⟨n7, hn7⟩ := id hacc7
        obtain ⟨n8, hn8⟩ := id hl8
        have kk8 : KeepBut d'.Xp h7 h8 := fun b ob nb eb => hs8.extBut b ob (fun q => nb (by subst q; exact .inl (.inr (.inl rfl)))) eb
        have hys6 : IsAll d'.Xp h6 done ys.toList := by
          refine IsAll.keepBut (X := d'.Xp) (h := h3) (fun b ob nb eb => k46 b ob (fun q => nb ?_) eb) hys3
          subst q; exact .inl (.inr (.inr rfl))
        refine ⟨n - 1, by omega, h8, tk7, i + 1, xval, .int i, vs[i], ys.push yv, done ++ [y], l', rfl, by omega, ?_, ?_,
          I7.change (fun b ob nb eb => hs8.extBut b ob nb eb) hn7 (fun v e => by cases e) (fresh0 _ (by rw [hsz]; exact Nat.le_add_right _ _)) hDL (fun e => by cases e) (.inl (.inr (.inl rfl))) (fun _ => ⟨_, hn8⟩), hl8, ?_, q3, ?_⟩
        · have e3' := hs8.extBut _ _ hED (k7 _ _ (k46 _ _ hEL he3))
          have : ((i + 1 : Nat) : Int) = (i : Int) + 1 := by push_cast; rfl
          rw [this]; exact e3'
        · exact hit3.at fun o e => hs8.extBut _ _ hJD (k7 _ _ (k46 _ _ hJL e))
        · rw [Array.toList_push]
          exact IsAll.append ((hys6.mono k7).keepBut kk8) (by simp only [IsAll, and_true]; exact hy.keepBut kk8)
        · rw [List.append_assoc]; exact htot
      · have hin : i = vs.length := by omega
        have hv : items.toArray[i]? = none := by rw [List.getElem?_toArray]; exact List.getElem?_eq_none (by rw [← hi.length]; omega)
        rw [List.drop_eq_nil_of_le (by omega)] at hr
        cases hr
        rw [List.append_nil] at htot
        subst htot
        refine wpAny_pyNext_enum_end (s := { s with heap := hh, toks := tk' }) rm.1 hE hIt hlh hv fun h2 he2 => ?_
        obtain ⟨oJ, eJ, hcJ, hdJ⟩ := id hIt
        have ioJ := IterObj.of hcJ hdJ (by decide) (by decide) (by decide)
        have I2 : Inv C' d' [u1, u2] h2 := I.change (b0 := h0.objs.size) (fun b o nb eb => he2 b o nb eb) eJ ioJ.2 (fresh0 _ (Nat.le_refl _)) (fun q => nX _ (.inl rfl) (.inl (q ▸ I.lx))) (fun q => by cases q) (.inr ioJ.1) fun q => absurd q (nX _ (.inl rfl))
        obtain ⟨m2, hn2, _⟩ := I2.vars
        refine ⟨m2, hn2, fun h3 hs3 => W _ h3 tk' ?_ ?_⟩
        · intro b ob eb
          have eb0 := k0 _ _ eb
          exact hs3.extBut b ob (fun q => by rw [q] at eb0; rw [fresh0 _ (by rw [sz1]; exact Nat.le_add_right _ _)] at eb0; cases eb0) (I2.stays b ob eb0)
        · simp only [Is]
          refine ⟨h.objs.size, ys.toList, rfl, fun q => ?_, ?_, ?_, ?_⟩
          · have := hdX _ q
            rw [hsz] at this
            exact absurd this (Nat.not_lt.mpr (Nat.le_add_right _ _))
          · exact (hacc.at fun ob eb => hs3.extBut _ ob hDL (he2 _ _ (Ne.symm hJD) eb))
          · rw [← hys.length]; exact hz
          · refine IsAll.toV (fun a oa ea va na => ?_) hys
            have hne : a ≠ h0.objs.size := fun q => by subst q; rw [eJ] at ea; cases ea; exact ioJ.1 va
            refine ⟨fun q => na (.inl (.inl q)), hs3.extBut _ _ (fun q => na ?_) (he2 _ _ hne ea)⟩
            subst q
            exact .inl (.inr (.inr rfl))
    exact codeAny_compStart_list loop (wpAny_pyIter_enum (s := { s with heap := H, toks := _ }) (hold _ _ hE) loop)

end
end Mine

/- B22 -/

namespace Mine
section
variable {prog : Program} {w : World} {C : St}

theorem Inv.at2 {d : Dyn} {σ : List V} {h : Heap} (I : Inv C d σ h) : Inv (C.at 2) d σ h := { scope := I.scope, kind := I.kind, globals := I.globals, builtins := I.builtins, gf := I.gf, stays := I.stays, xin := I.xin, lx := I.lx, lb := I.lb, mb := I.mb, mx := I.mx, m0 := (fun e => absurd e (show ¬ (2 : Nat) = 0 by decide)), own := I.own, inj := I.inj, ndup := I.ndup, vars := I.vars }

noncomputable def drawF (C : St) (args : List Str) (f1 f2 g : List V → R) (ip : Nat) (vs : List V) : Option (Int × List V) := match placeArgs C args vs (unbs C.names.length) with
  | some σ0 => (match f1 σ0 with
    | .next σ1 => (match f2 σ1 with
      | .next σ2 => (match g σ2 with
        | .ret (.int n) => (match σ2[ip]? with
          | some (.mlist us) => some (n, us)
          | _ => none)
        | _ => none)
      | _ => none)
    | _ => none)
  | none => none

section
variable (prog : Program) (w : World)
noncomputable def DrawSim (i k : Nat) (F : List V → Option (Int × List V)) : Prop :=
  ∀ (nm : Str) (ps : Arguments) (bd : List Stmt) (sc : Scope), fnAt i = some (nm, ps, bd, sc) → ∀ (dc : Dyn) (A : Around) (s : Shared) (af a : Addr) (vs : List V) (xs : List Value) (R : Result → Shared → Prop),
    Room k A → GF dc.D dc.base → dc.base.StaysIn s.heap → dc.base.get? a = none → dc.ma = some a → ¬ dc.X a → IsFn s.heap af nm ps bd sc → (∀ b, dc.Xp b → ∃ o, s.heap.get? b = some o) → ValAll dc s.heap vs xs →
    (match F vs with
      | none => False
      | some (n, us) => ∀ t h tk, (∀ b o, b ≠ a → s.heap.get? b = some o → h.get? b = some o) → Val dc h (.ref a) (.mlist us) → R (.ok (.ret (.int n t))) { s with heap := h, toks := tk }) → codeAny (model prog w) A (.call (.ref af) ⟨xs, []⟩) R s
end

theorem DrawSim.of {i : Nat} {nm : Str} {ps : Arguments} {st1 st2 : Stmt} {rest : List Stmt} {args : List Str} {f1 f2 g : List V → R} {xp : Str} (ip : Nat) (hf : fnAt i = some (nm, ps, st1 :: st2 :: rest, C.scope)) (h1 : SimS prog w C st1 f1) (h2 : SimS prog w C st2 f2) (h3 : SimB prog w (C.at 2) rest g)
    (hbind : ∀ (doc pm : Value) (an : Option Addr) (cdv ct : Value) (xs : List Value), xs.length = args.length → bindArgs (fnX nm nm ps (st1 :: st2 :: rest) C.scope [] .none .none doc pm an cdv ct) ⟨xs, []⟩ = pure (args.zip xs))
    (hkind : C.scope.kind = .function) (hco : C.scope.isCoroutine = false) (hgen : C.scope.isGenerator = false) (hown : ownOK C = true) (hnd : C.names.Nodup) (hargs : argsPlace C args = true) (hm : C.mode = 1) (hxp : C.names[ip]? = some xp) :
    DrawSim prog w i (C.room + 1) (drawF C args f1 f2 g ip) := by
  intro nm' ps' bd' sc' hf' dc A s af a vs xs R rm G hb hba hma hXa F hX hi W
  rw [hf] at hf'
  cases hf'
  unfold drawF at W
  cases e1 : placeArgs C args vs (unbs C.names.length) with
  | none => rw [e1] at W; exact W.elim
  | some σ0 =>
    rw [e1] at W
    dsimp only at W
    have hlen : xs.length = args.length := by
      rw [← hi.length]
      have : ∀ (as : List Str) (vs : List V) (τ σ : List V), placeArgs C as vs τ = some σ → vs.length = as.length := by
        intro as
        induction as with
        | nil => intro vs τ σ h; cases vs with
          | nil => rfl
          | cons _ _ => cases h
        | cons x as ih => intro vs τ σ h; cases vs with
          | nil => cases h
          | cons v vs => simp only [List.length_cons, ih vs _ σ h]
      exact this args vs _ σ0 e1
    obtain ⟨fo, doc, pm, an, cdv, ct, ho, hd, hcd⟩ := F
    have hide : ∀ b o, b ≠ a → s.heap.get? b = some o → (hideAll s.heap [a]).get? b = some o := fun b o n e => hideAll_get _ e (fun q => n (List.mem_singleton.mp q))
    have G' : GF dc.D (hideAll s.heap [a]) := G.keeps fun b o e => hide b o (fun q => by rw [q, hba] at e; cases e) (hb b o e)
    refine codeAny_call_function (fd := fnX nm nm ps (st1 :: st2 :: rest) C.scope [] .none .none doc pm an cdv ct) (body := st1 :: st2 :: rest) (by have := rm.2.1; omega) ho hd hco hgen rfl hcd ?_
    rw [hbind doc pm an cdv ct xs hlen]
    refine wpAny_pure ?_
    refine new_frameV (C := C) (D := dc.D) (X := dc.X) (base := hideAll s.heap [a]) (ma := some a) (vs := vs) (dc := dc) rfl hma hkind hown hnd hargs (fun e => by rw [hm] at e; cases e) G' (fun b o e => of_hideAll _ e) (fun b q => hX b (.inl q)) (fun a' e => ?_) hi e1 ?_
    · cases e
      exact ⟨hX a (.inr hma), hideAll_none _ (List.mem_singleton.mpr rfl), hXa⟩
    · intro d h' tk x1 x2 x3 x4 x5 I
      have x3 : d.ma = some a := x3
      have x4 : d.base = hideAll s.heap [a] := x4
      refine ⟨G'.nolimit.keeps (x4 ▸ I.stays), codeAny_func ?_⟩
      have rm' := Room.deeper (env := d.env) rm rm.1
      cases e2 : f1 σ0 with
      | bad => rw [e2] at W; exact W.elim
      | ret _ => rw [e2] at W; exact W.elim
      | next σ1 =>
        rw [e2] at W
        dsimp only at W
        refine wpAny_execs_cons (h1 d _ { s with heap := h', toks := tk } σ0 _ _ rm' I ?_)
        rw [e2]
        intro hh1 tk1 k1 I1
        cases e3 : f2 σ1 with
        | bad => rw [e3] at W; exact W.elim
        | ret _ => rw [e3] at W; exact W.elim
        | next σ2 =>
          rw [e3] at W
          dsimp only at W
          refine wpAny_execs_cons (h2 d _ { s with heap := hh1, toks := tk1 } σ1 _ _ rm' I1 ?_)
          rw [e3]
          intro hh2 tk2 k2 I2
          refine h3 d _ { s with heap := hh2, toks := tk2 } σ2 _ _ rm' I2.at2 ?_
          cases e4 : g σ2 with
          | bad => rw [e4] at W; exact W.elim
          | next _ => rw [e4] at W; exact W.elim
          | ret v =>
            rw [e4] at W
            cases v <;> try exact W.elim
            rename_i n
            dsimp only at W
            cases e5 : σ2[ip]? with
            | none => rw [e5] at W; exact W.elim
            | some p =>
              rw [e5] at W
              cases p <;> try exact W.elim
              rename_i us
              dsimp only at W
              intro y h3' tk3 k3 b3 i3
              simp only [Is] at i3
              obtain ⟨t, rfl⟩ := i3
              refine W t h3' tk3 (fun b o nb e => b3 b o (by rw [x4]; exact hide b o nb e)) ?_
              obtain ⟨m, hn, HV⟩ := I2.vars
              have nxw : ∀ b, ¬ d.Xp b → ¬ Xw (C.at 2) d b := fun b nb q => nb (Xw_Xp q)
              have nxa : ¬ Xw (C.at 2) d a := fun q => by
                rcases q with q | q
                · exact I2.mx a x3 q
                · exact absurd q.1 (show ¬ (2 : Nat) = 1 by decide)
              rcases HV ip xp _ hxp e5 with q | ⟨val, _, a', items, hma', rfl, hl, hz, hit⟩
              · cases q
              · rw [x3] at hma'
                cases hma'
                refine ⟨a, items, hma, rfl, hl.at fun o eo => k3 _ _ nxa eo, hz, IsAll.to (fun b o e nb => ⟨fun q => nb ?_, k3 b o (nxw b nb) e⟩) hit⟩
                rcases q with q | q
                · exact .inl (x1 b q)
                · exact .inr (x3.trans (hma.symm.trans q))

/- expressions that change the frame's own list -/
section
variable (prog : Program) (w : World)
noncomputable def SimM (C : St) (e : Expr) (f : List V → Option (V × List V)) : Prop :=
  ∀ (d : Dyn) (A : Around) (s : Shared) (σ : List V) (Q : Value → Shared → Prop) (E : Value → Shared → Prop), Room C.room A → Inv C d σ s.heap → (match f σ with
    | none => False
    | some (v, σ') => ∀ x h tk, KeepBut (Xw C d) s.heap h → Inv C d σ' h → Is d.Xp h v x → Q x { s with heap := h, toks := tk }) → wpAny (model prog w) A (eval e d.env) Q E s
end

noncomputable def drawE (F : List V → Option (Int × List V)) (fe : List V → Option V) (i : Nat) (σ : List V) : Option (V × List V) := match σ[i]? with
  | some (.mlist us) => (match fe σ with
    | some m => (match F [.mlist us, m] with
      | some (n, us') => some (.int n, (dropM σ).set i (.mlist us'))
      | none => none)
    | none => none)
  | _ => none

theorem SimM.draw {x : Str} {px p pos : Pos} {e : Expr} {fe : List V → Option V} {i k j : Nat} {nm : Str} {ps : Arguments} {bd : List Stmt} {sc : Scope} {F : List V → Option (Int × List V)} (hD : DrawSim prog w i k F) (he : SimE prog w C e fe) (hm : C.mode = 1)
    (hf : fnAt i = some (nm, ps, bd, sc)) (hx : C.names[j]? = some x) (hr : Nat.ble k C.room = true := by rfl) (hk : (C.scope.names.lookup nm == some .globalImplicit) = true := by decide +kernel) (hp : plainName nm = true := by decide +kernel) (hpx : plainName x = true := by decide +kernel)
    (he1 : plainStar (.Name x px) := by intro _ _; rfl) (he2 : plainStar e := by intro _ _; rfl) (hce : ∀ env, eval (.Call (.Name nm p) [.Name x px, e] [] pos) env = (do callWith pos (← eval (.Name nm p) env) [] (backTo pos (starEach [.Name x px, e] env)) (backToKw pos (keywordEach [] env))) := by intro _; rfl) :
    SimM prog w C (.Call (.Name nm p) [.Name x px, e] [] pos) (drawE F fe j) := by
  intro d A s σ Q E rm I W
  unfold drawE at W
  cases e1 : σ[j]? with
  | none => rw [e1] at W; exact W.elim
  | some v0 =>
    rw [e1] at W
    cases v0 <;> try exact W.elim
    rename_i us
    dsimp only at W
    cases e2 : fe σ with
    | none => rw [e2] at W; exact W.elim
    | some mv =>
      rw [e2] at W
      dsimp only at W
      cases e3 : F [.mlist us, mv] with
      | none => rw [e3] at W; exact W.elim
      | some r =>
        obtain ⟨n, us'⟩ := r
        rw [e3] at W
        dsimp only at W
        refine Call_ ?_ (hce _)
        refine eval_def I hf hk hp fun af Ff => ?_
        obtain ⟨fo, doc, pm, an, cdv, ct, ho, hd, hcd⟩ := id Ff
        refine callWith_def (o := fo) hd ?_ (he1 _ _)
        rw [he1]
        refine spliced_cons ?_
        obtain ⟨m, hn, HV⟩ := I.vars
        rcases HV j x _ hx e1 with qq | ⟨val, hh, a, items, hma, rfl, hl, hz, hit⟩
        · cases qq
        · refine wpAny_Name (loadName_holds I hn hh (plainName_c hpx) ?_) (plainName_d hpx)
          rw [he2]
          refine spliced_cons ?_
          refine he.run rm I e2 fun y h tk kk hy I1 => ?_
          refine spliced_nil ?_
          refine ⟨kk _ _ ho, wpAny_call ?_⟩
          refine hD nm ps bd sc hf d A { s with heap := h, toks := tk } af a [.mlist us, mv] _ _ (rm.le (Nat.le_of_ble_eq_true hr)) I1.gf I1.stays (I1.mb a hma) hma (I1.mx a hma) (Ff.keeps kk) I1.xin
            ⟨⟨a, items, hma, rfl, hl.at fun o eo => kk _ _ eo, hz, hit.mono kk⟩, Val.of hy, trivial⟩ ?_
          rw [e3]
          dsimp only
          intro t h2 tk2 k2 hv2
          have hl1 := hl.at (h' := h) fun o eo => kk _ _ eo
          obtain ⟨n0, ho1⟩ := id hl1
          obtain ⟨a', items', hma', e', ⟨n2, ho2⟩, _, _⟩ := id hv2
          rw [hma] at hma'; cases hma'
          refine W _ h2 tk2 (fun b o nb eb => k2 b o (fun q => nb (.inr ⟨hm, q ▸ hma⟩)) (kk b o eb)) ?_ is_int
          refine I1.mutateE hma k2 hx e1 (by intro q; cases q) (fun val hval => ?_) ho1 (fun v e => by cases e) hv2 ⟨_, ho2⟩
          obtain ⟨a', _, hma', rfl, _⟩ := hval
          rw [hma] at hma'; cases hma'; rfl

noncomputable def binM (o : Option V) (g : Option (V × List V)) (op : V → V → Option V) : Option (V × List V) := match o with
  | some a => (match g with
    | some (b, σ') => (match op a b with
      | some c => some (c, σ')
      | none => none)
    | none => none)
  | none => none

theorem SimM.item {l ix : Expr} {pos : Pos} {fl : List V → Option V} {g : List V → Option (V × List V)} (hl : SimE prog w C l fl) (hi : SimM prog w C ix g) (hs : ∀ o j, subscripted ix false o j = operate [o, j] (getItem o j) := by intro _ _; rfl) :
    SimM prog w C (.Subscript l ix pos) (fun σ => binM (fl σ) (g σ) idxV) := by
  intro d A s σ Q E rm I W
  dsimp only at W
  unfold binM at W
  cases e1 : fl σ with
  | none => rw [e1] at W; exact W.elim
  | some a =>
    rw [e1] at W
    dsimp only at W
    cases e2 : g σ with
    | none => rw [e2] at W; exact W.elim
    | some bs =>
      obtain ⟨b, σ'⟩ := bs
      rw [e2] at W
      dsimp only at W
      cases e3 : idxV a b with
      | none => rw [e3] at W; exact W.elim
      | some c =>
        rw [e3] at W
        dsimp only at W
        refine Subscript_ ?_
        refine hl.run rm I e1 fun x h tk k hx I1 => ?_
        refine hi d A { s with heap := h, toks := tk } σ _ E rm I1 ?_
        rw [e2]
        intro y h2 tk2 k2 I2 hy
        refine idxV_ok (s := { s with heap := h2, toks := tk2 }) e3 (hx.keepBut (k2.weaken fun _ => Xw_Xp)) hy (fun z tk3 hz => ?_) hs
        exact W z h2 tk3 ((KeepBut.of k).trans k2) I2 hz

theorem SimM.bin {l r : Expr} {op : Operator} {pos : Pos} {fl : List V → Option V} {g : List V → Option (V × List V)} (hl : SimE prog w C l fl) (hr : SimM prog w C r g) :
    SimM prog w C (.BinOp l op r pos) (fun σ => binM (fl σ) (g σ) (opV op)) := by
  intro d A s σ Q E rm I W
  dsimp only at W
  unfold binM at W
  cases e1 : fl σ with
  | none => rw [e1] at W; exact W.elim
  | some a =>
    rw [e1] at W
    dsimp only at W
    cases e2 : g σ with
    | none => rw [e2] at W; exact W.elim
    | some bs =>
      obtain ⟨b, σ'⟩ := bs
      rw [e2] at W
      dsimp only at W
      cases e3 : opV op a b with
      | none => rw [e3] at W; exact W.elim
      | some c =>
        rw [e3] at W
        dsimp only at W
        refine wpAny_BinOp ?_
        refine hl.run rm I e1 fun x h tk k hx I1 => ?_
        refine hr d A { s with heap := h, toks := tk } σ _ E rm I1 ?_
        rw [e2]
        intro y h2 tk2 k2 I2 hy
        refine opV_ok (s := { s with heap := h2, toks := tk2 }) e3 (hx.keepBut (k2.weaken fun _ => Xw_Xp)) hy I2.fresh fun z h3 tk3 k3 hz => ?_
        exact W z h3 tk3 (((KeepBut.of k).trans k2).trans (KeepBut.of k3)) (I2.mono k3) hz

theorem SimS.assignM {x : Str} {p pos : Pos} {e : Expr} {g : List V → Option (V × List V)} (i : Nat) (H : SimM prog w C e g) (hx : C.names[i]? = some x) (hk : storeOK C x = true := by decide +kernel)
    (hs : ∀ env, swapsWith e (some (.Name x p)) pos.line env = pure false := by intro _; rfl) : SimS prog w C (.Assign [.Name x p] e pos) (fun σ => match g σ with
      | some (v, σ') => .next (σ'.set i v)
      | none => .bad) := by
  intro d A s σ Q E rm I W
  dsimp only at W
  cases e1 : g σ with
  | none => rw [e1] at W; exact W.elim
  | some r =>
    obtain ⟨v, σ'⟩ := r
    rw [e1] at W
    dsimp only at W
    refine wpAny_Assign_Name (H d A s σ _ E rm I ?_) (hs _)
    rw [e1]
    intro y h tk k I1 hy
    exact Inv.store (s := { s with heap := h, toks := tk }) I1 hx hk (Val.of hy) fun h' tk' k' I' => W h' tk' (k.trans (k'.weaken fun _ => .inl)) I'

end
end Mine

/- B23 -/

namespace Mine
section
variable {prog : Program} {w : World} {C : St}

/- the frame of a comprehension, reckoned from its place -/
noncomputable def compSt (C : St) (scope : Scope) (x : Str) (js : List Nat) (own : List Str) : St := { scope := relabelS scope C.scope, names := x :: js.map (fun j => C.names.getD j x), own := own, room := C.room, mode := 0 }
noncomputable def isFnK : ScopeKind → Bool
  | .function => true
  | _ => false
noncomputable def hasN : List (Str × NameKind) → Str → NameKind → Bool
  | [], _, _ => false
  | (n, k) :: r, x, j => (n == x && k == j) || hasN r x j
theorem nkb {a b : NameKind} (h : (a == b) = true) : a = b := by cases a <;> cases b <;> first | rfl | cases h
theorem hasN_mem : ∀ {l : List (Str × NameKind)} {x : Str} {k : NameKind}, hasN l x k = true → (x, k) ∈ l
  | (n, k) :: r, x, j, h => by
    unfold hasN at h
    rcases (Bool.or_eq_true _ _).mp h with h | h
    · rw [Bool.and_eq_true] at h
      have h1 : n = x := by simpa using h.1
      have h2 := nkb h.2
      rw [h1, h2]; exact List.mem_cons_self
    · exact List.mem_cons_of_mem _ (hasN_mem h)
theorem not_hasN : ∀ {l : List (Str × NameKind)} {x : Str} {k : NameKind}, hasN l x k = false → (x, k) ∉ l
  | [], _, _, _, m => by cases m
  | (n, k) :: r, x, j, h, m => by
    unfold hasN at h
    rw [Bool.or_eq_false_iff] at h
    rcases List.mem_cons.mp m with e | m
    · cases e
      have h1 := h.1
      rw [Bool.and_eq_false_iff] at h1
      rcases h1 with q | q
      · rw [beq_self_eq_true] at q; cases q
      · revert q; cases k <;> intro q <;> cases q
    · exact not_hasN h.2 m
noncomputable def nodupB : List Str → Bool
  | [] => true
  | x :: r => !r.contains x && nodupB r
theorem nodupB_ok : ∀ {l : List Str}, nodupB l = true → l.Nodup
  | [], _ => List.nodup_nil
  | x :: r, h => by
    unfold nodupB at h
    rw [Bool.and_eq_true] at h
    refine List.nodup_cons.mpr ⟨fun m => ?_, nodupB_ok h.2⟩
    rw [List.contains_iff_mem.mpr m] at h
    cases h.1
noncomputable def isFn' (C : St) : Bool := isFnK C.scope.kind
theorem isFnK_ok {k : ScopeKind} (h : isFnK k = true) : k = .function := by cases k <;> first | rfl | cases h

noncomputable def localsB (l : List (Str × NameKind)) : Bool := l.all fun y => !(y.2 == .local) || (l.lookup y.1 == some .local)
theorem localsB_ok {l : List (Str × NameKind)} (h : localsB l = true) : ∀ y ∈ l, y.2 = .local → l.lookup y.1 = some .local := fun y hy e => by
  have := List.all_eq_true.mp h y hy
  rcases (Bool.or_eq_true _ _).mp this with q | q
  · rw [e] at q; cases q
  · exact nk_eq q
noncomputable def compB (C : St) (scope : Scope) (x : Str) (js : List Nat) (own : List Str) : Bool :=
  isFnK scope.kind && (nodupB (compSt C scope x js own).names && (storeOK (compSt C scope x js own) x && (localsB scope.names && ((scope.names.all fun y => !(y.2 == .free) || C.own.contains y.1) &&
    ((own.all fun y => hasN scope.names y .cell && ((compSt C scope x js own).scope.names.lookup y == some .cell)) &&
      (js.all fun j => match C.names[j]? with
        | some y => C.own.contains y && (hasN scope.names y .free && (!hasN scope.names y .cell && (((compSt C scope x js own).scope.names.lookup y == some .cell) || ((compSt C scope x js own).scope.names.lookup y == some .free))))
        | none => false))))))
theorem compB_ok {scope : Scope} {x : Str} {js : List Nat} {own : List Str} (h : compB C scope x js own = true) : CompOK C (compSt C scope x js own) scope x js := by
  unfold compB at h
  simp only [Bool.and_eq_true] at h
  obtain ⟨h1, h2, h3, h4, h5, h6, h7⟩ := h
  exact {
    sc := rfl
    kind := isFnK_ok h1
    names := rfl
    nd := nodupB_ok h2
    room := rfl
    mode := rfl
    sx := h3
    locals := localsB_ok h4
    free := fun y hy => by
      have := List.all_eq_true.mp h5 _ hy
      rcases (Bool.or_eq_true _ _).mp this with q | q
      · cases q
      · exact List.contains_iff_mem.mp q
    own := fun y hy => by
      have := List.all_eq_true.mp h6 y hy
      rw [Bool.and_eq_true] at this
      exact ⟨hasN_mem this.1, nk_eq this.2⟩
    caps := fun j hj => by
      have := List.all_eq_true.mp h7 j hj
      cases e : C.names[j]? with
      | none => rw [e] at this; cases this
      | some y =>
        rw [e] at this
        simp only [Bool.and_eq_true] at this
        obtain ⟨q1, q2, q3, q4⟩ := this
        refine ⟨y, rfl, List.contains_iff_mem.mp q1, hasN_mem q2, not_hasN (by simpa using q3), ?_⟩
        rcases (Bool.or_eq_true _ _).mp q4 with q | q
        · exact .inl (nk_eq q)
        · exact .inr (nk_eq q) }

theorem SimE.compJ {elt iter : Expr} {x : Str} {px : Pos} {ifs : List Expr} {scope : Scope} {pos : Pos} {fi : List V → Option (List V)} {ft : List V → Option Bool} {fe : List V → Option V} (js : List Nat) (own : List Str) (hi : SimI prog w C iter fi)
    (ht : SimTs prog w (compSt C scope x js own) ifs ft) (he : SimE prog w (compSt C scope x js own) elt fe) (ok : compB C scope x js own = true := by decide +kernel) (hs : ∀ env x, foldedSetIterable iter env x = pure x := by intro _ _; rfl) :
    SimE prog w C (.ListComp elt [⟨.Name x px, iter, ifs, 0⟩] scope pos) (fun σ => match fi σ with
      | some vs => one2 (compL ft fe (caps σ js) vs) okL
      | none => none) := SimE.comp (compSt C scope x js own) js hi ht he (compB_ok ok) hs

noncomputable def compSt2 (C : St) (scope : Scope) (x y : Str) : St := { scope := relabelS scope C.scope, names := [x, y], own := [], room := C.room, mode := 0 }
noncomputable def compB2 (C : St) (scope : Scope) (x y : Str) : Bool :=
  isFnK scope.kind && (nodupB [x, y] && (storeOK (compSt2 C scope x y) x && (storeOK (compSt2 C scope x y) y && (localsB scope.names && (scope.names.all fun z => !(z.2 == .free) && !(z.2 == .cell))))))
theorem compB2_ok {scope : Scope} {x y : Str} (h : compB2 C scope x y = true) : CompOK2 C (compSt2 C scope x y) scope x y := by
  unfold compB2 at h
  simp only [Bool.and_eq_true] at h
  obtain ⟨h1, h2, h3, h4, h5, h6⟩ := h
  exact {
    sc := rfl
    kind := isFnK_ok h1
    names := rfl
    nd := nodupB_ok h2
    room := rfl
    mode := rfl
    si := h3
    sv := h4
    own := rfl
    locals := localsB_ok h5
    free := fun z hz e => by
      have := List.all_eq_true.mp h6 z hz
      rw [Bool.and_eq_true, e] at this
      cases this.1
    cell := fun z hz e => by
      have := List.all_eq_true.mp h6 z hz
      rw [Bool.and_eq_true, e] at this
      cases this.2 }
theorem SimE.enumJ {elt e : Expr} {xi xv : Str} {pi pv tp p2 cp pos : Pos} {x1 : Nat} {scope : Scope} {f fe : List V → Option V} (Hl : SimE prog w C e f) (Hel : SimE prog w (compSt2 C scope xi xv) elt fe) (ok : compB2 C scope xi xv = true := by decide +kernel)
    (hk : (C.scope.names.lookup ("enumerate" : Str) == some .globalImplicit) = true := by decide +kernel)
    (hpe : plainStar e := by intro _ _; rfl) (hce : ∀ env, eval (.Call (.Name ("enumerate" : Str) p2) [e] [] cp) env = (do callWith cp (← eval (.Name ("enumerate" : Str) p2) env) [] (backTo cp (starEach [e] env)) (backToKw cp (keywordEach [] env))) := by intro _; rfl)
    (hs : ∀ env x, foldedSetIterable (.Call (.Name ("enumerate" : Str) p2) [e] [] cp) env x = pure x := by intro _ _; rfl) :
    SimE prog w C (.ListComp elt [⟨.Tuple [.Name xi pi, .Name xv pv] x1 tp, .Call (.Name ("enumerate" : Str) p2) [e] [] cp, [], 0⟩] scope pos) (fun σ => match f σ with
      | some (.list vs) => one2 (enumL fe 0 vs) okL
      | _ => none) := SimE.compEnum (compSt2 C scope xi xv) Hl Hel (compB2_ok ok) hk hpe hce hs

theorem inter_fn (env : Env) (h : env.scope.kind = .function) : interactive env = false := by
  unfold interactive
  rw [h]
  rfl

theorem len1 {xs : List Value} {n : Nat} (h : xs.length = n) (hn : n = 1) : ∃ x, xs = [x] := by
  subst hn
  exact List.length_eq_one_iff.mp h
theorem len2 {xs : List Value} {n : Nat} (h : xs.length = n) (hn : n = 2) : ∃ x y, xs = [x, y] := by
  subst hn
  cases xs with
  | nil => cases h
  | cons x r =>
    obtain ⟨y, rfl⟩ := len1 (Nat.succ.inj h) rfl
    exact ⟨x, y, rfl⟩
theorem len3 {xs : List Value} {n : Nat} (h : xs.length = n) (hn : n = 3) : ∃ x y z, xs = [x, y, z] := by
  subst hn
  cases xs with
  | nil => cases h
  | cons x r =>
    obtain ⟨y, z, rfl⟩ := len2 (Nat.succ.inj h) rfl
    exact ⟨x, y, z, rfl⟩

/- a def's frame, and all that is asked of it -/
noncomputable def fnOK (C : St) (args : List Str) : Bool := isFnK C.scope.kind && (!C.scope.isCoroutine && (!C.scope.isGenerator && (ownOK C && (nodupB C.names && argsPlace C args))))
theorem CallSim.ofB {i : Nat} {nm : Str} {ps : Arguments} {bd : List Stmt} {args : List Str} {g : List V → R} (hf : fnAt i = some (nm, ps, bd, C.scope)) (hb : SimB prog w C bd g)
    (hbind : ∀ (doc pm : Value) (an : Option Addr) (cdv ct : Value) (xs : List Value), xs.length = args.length → bindArgs (fnX nm nm ps bd C.scope [] .none .none doc pm an cdv ct) ⟨xs, []⟩ = pure (args.zip xs))
    (hm : C.mode = 0) (ok : fnOK C args = true := by decide +kernel) :
    CallSim prog w i (C.room + 1) (fun vs => bodyV g (placeArgs C args vs (unbs C.names.length))) := by
  unfold fnOK at ok
  simp only [Bool.and_eq_true, Bool.not_eq_true'] at ok
  obtain ⟨h1, h2, h3, h4, h5, h6⟩ := ok
  exact CallSim.of hf hb hbind (isFnK_ok h1) h2 h3 h4 (nodupB_ok h5) h6 hm
theorem CallSim.weaken {i k : Nat} {f f' : List V → Option V} (H : CallSim prog w i k f) (h : ∀ vs r, f' vs = some r → f vs = some r) : CallSim prog w i k f' := by
  intro nm ps bd sc hf D X A s a vs xs R rm G F hX hi W
  refine H nm ps bd sc hf D X A s a vs xs R rm G F hX hi ?_
  cases e : f' vs with
  | none => rw [e] at W; exact W.elim
  | some r => rw [h vs r e]; rw [e] at W; exact W
theorem DrawSim.ofB {i : Nat} {nm : Str} {ps : Arguments} {st1 st2 : Stmt} {rest : List Stmt} {args : List Str} {f1 f2 g : List V → R} {xp : Str} (ip : Nat) (hf : fnAt i = some (nm, ps, st1 :: st2 :: rest, C.scope)) (h1 : SimS prog w C st1 f1) (h2 : SimS prog w C st2 f2) (h3 : SimB prog w (C.at 2) rest g)
    (hbind : ∀ (doc pm : Value) (an : Option Addr) (cdv ct : Value) (xs : List Value), xs.length = args.length → bindArgs (fnX nm nm ps (st1 :: st2 :: rest) C.scope [] .none .none doc pm an cdv ct) ⟨xs, []⟩ = pure (args.zip xs))
    (hm : C.mode = 1) (hxp : C.names[ip]? = some xp) (ok : fnOK C args = true := by decide +kernel) :
    DrawSim prog w i (C.room + 1) (drawF C args f1 f2 g ip) := by
  unfold fnOK at ok
  simp only [Bool.and_eq_true, Bool.not_eq_true'] at ok
  obtain ⟨h1', h2', h3', h4, h5, h6⟩ := ok
  exact DrawSim.of ip hf h1 h2 h3 hbind (isFnK_ok h1') h2' h3' h4 (nodupB_ok h5) h6 hm hxp

end
end Mine

/- G1 -/

namespace Mine
section

/- 3: gcd -/
noncomputable def info_gcd : { p : Str × Arguments × List Stmt × Scope // fnAt 3 = some p } := ⟨_, rfl⟩
theorem hf_gcd : fnAt 3 = some (("gcd" : Str), info_gcd.1.2.1, info_gcd.1.2.2.1, info_gcd.1.2.2.2) := rfl
noncomputable def st_gcd : St := { scope := info_gcd.1.2.2.2, names := ["a", "b"], own := [], room := 0, mode := 0 }
noncomputable def pk_gcd : { g : List V → R // ∀ (prog : Program) (w : World), SimB prog w st_gcd info_gcd.1.2.2.1 g } := ⟨_, fun prog w =>
    (SimB.cons (SimS.tupS (names := ["a", "b"]) [0, 1] (SimE.tup (SimL.cons (SimE.callB BSim.abs (SimL.cons (SimE.var 0 rfl) SimL.nil (by intro _; rfl)) (by decide +kernel)) (SimL.cons (SimE.callB BSim.abs (SimL.cons (SimE.var 1 rfl) SimL.nil (by intro _; rfl)) (by decide +kernel)) SimL.nil (by intro _; rfl)) (by intro _; rfl))) (fun d hd => (Stores.cons (x := "b") rfl (by decide +kernel) (fun h => bindName_ h) (Stores.cons (x := "a") rfl (by decide +kernel) (fun h => bindName_ h) Stores.nil))) rfl (hw := (by intro env h; cases env; cases h; rfl)))
    (SimB.cons (SimS.while 200 (SimT.cmp (SimE.var 1 rfl) SimE.int) (SimB.one (SimS.tupS (names := ["a", "b"]) [0, 1] (SimE.tup (SimL.cons (SimE.var 1 rfl) (SimL.cons (SimE.bin (SimE.var 0 rfl) (SimE.var 1 rfl)) SimL.nil (by intro _; rfl)) (by intro _; rfl))) (fun d hd => (Stores.cons (x := "b") rfl (by decide +kernel) (fun h => bindName_ h) (Stores.cons (x := "a") rfl (by decide +kernel) (fun h => bindName_ h) Stores.nil))) rfl (hw := (by intro env h; cases env; cases h; rfl)))))
    (SimB.one (SimS.ret (SimE.var 0 rfl)))))⟩
noncomputable def den_gcd (vs : List V) : Option V := bodyV pk_gcd.1 (placeArgs st_gcd ["a", "b"] vs (unbs st_gcd.names.length))
theorem sim_gcd (prog : Program) (w : World) : CallSim prog w 3 1 den_gcd :=
  CallSim.ofB (C := st_gcd) (args := ["a", "b"]) hf_gcd (pk_gcd.2 prog w) (by intro doc pm an cdv ct xs h; obtain ⟨x0, x1, rfl⟩ := len2 h rfl; rfl) rfl

/- 4: gcd_all -/
noncomputable def info_gcd_all : { p : Str × Arguments × List Stmt × Scope // fnAt 4 = some p } := ⟨_, rfl⟩
theorem hf_gcd_all : fnAt 4 = some (("gcd_all" : Str), info_gcd_all.1.2.1, info_gcd_all.1.2.2.1, info_gcd_all.1.2.2.2) := rfl
noncomputable def st_gcd_all : St := { scope := info_gcd_all.1.2.2.2, names := ["numbers", "found", "number"], own := [], room := 1, mode := 0 }
noncomputable def pk_gcd_all : { g : List V → R // ∀ (prog : Program) (w : World), SimB prog w st_gcd_all info_gcd_all.1.2.2.1 g } := ⟨_, fun prog w =>
    (SimB.cons (SimS.assign 1 SimE.int rfl)
    (SimB.cons (SimS.for 2 (SimI.list (SimE.var 0 rfl)) (SimB.one (SimS.assign 1 (SimE.call (sim_gcd prog w) (SimL.cons (SimE.var 1 rfl) (SimL.cons (SimE.var 2 rfl) SimL.nil (by intro _; rfl)) (by intro _; rfl)) (hf_gcd)) rfl)) rfl)
    (SimB.one (SimS.ret (SimE.var 1 rfl)))))⟩
noncomputable def den_gcd_all (vs : List V) : Option V := bodyV pk_gcd_all.1 (placeArgs st_gcd_all ["numbers"] vs (unbs st_gcd_all.names.length))
theorem sim_gcd_all (prog : Program) (w : World) : CallSim prog w 4 2 den_gcd_all :=
  CallSim.ofB (C := st_gcd_all) (args := ["numbers"]) hf_gcd_all (pk_gcd_all.2 prog w) (by intro doc pm an cdv ct xs h; obtain ⟨x0, rfl⟩ := len1 h rfl; rfl) rfl

/- 6: ztrim -/
noncomputable def info_ztrim : { p : Str × Arguments × List Stmt × Scope // fnAt 6 = some p } := ⟨_, rfl⟩
theorem hf_ztrim : fnAt 6 = some (("ztrim" : Str), info_ztrim.1.2.1, info_ztrim.1.2.2.1, info_ztrim.1.2.2.2) := rfl
noncomputable def st_ztrim : St := { scope := info_ztrim.1.2.2.2, names := ["row", "size"], own := [], room := 0, mode := 0 }
noncomputable def pk_ztrim : { g : List V → R // ∀ (prog : Program) (w : World), SimB prog w st_ztrim info_ztrim.1.2.2.1 g } := ⟨_, fun prog w =>
    (SimB.cons (SimS.assign 1 (SimE.callB BSim.len (SimL.cons (SimE.var 0 rfl) SimL.nil (by intro _; rfl)) (by decide +kernel)) rfl)
    (SimB.cons (SimS.while 200 (SimT.and (SimT.cmp (SimE.var 1 rfl) SimE.int) (SimT.and (SimT.cmp (SimE.item (SimE.var 0 rfl) (SimE.bin (SimE.var 1 rfl) SimE.int)) SimE.int) SimT.and_nil)) (SimB.one (SimS.aug 1 SimE.int rfl)))
    (SimB.one (SimS.ret (SimE.callT BSim.list (SimL.cons (SimE.upto (SimE.var 0 rfl) (SimE.var 1 rfl)) SimL.nil (by intro _; rfl)) (by decide +kernel))))))⟩
noncomputable def den_ztrim (vs : List V) : Option V := bodyV pk_ztrim.1 (placeArgs st_ztrim ["row"] vs (unbs st_ztrim.names.length))
theorem sim_ztrim (prog : Program) (w : World) : CallSim prog w 6 1 den_ztrim :=
  CallSim.ofB (C := st_ztrim) (args := ["row"]) hf_ztrim (pk_ztrim.2 prog w) (by intro doc pm an cdv ct xs h; obtain ⟨x0, rfl⟩ := len1 h rfl; rfl) rfl

/- 7: zdegree -/
noncomputable def info_zdegree : { p : Str × Arguments × List Stmt × Scope // fnAt 7 = some p } := ⟨_, rfl⟩
theorem hf_zdegree : fnAt 7 = some (("zdegree" : Str), info_zdegree.1.2.1, info_zdegree.1.2.2.1, info_zdegree.1.2.2.2) := rfl
noncomputable def st_zdegree : St := { scope := info_zdegree.1.2.2.2, names := ["p"], own := [], room := 0, mode := 0 }
noncomputable def pk_zdegree : { g : List V → R // ∀ (prog : Program) (w : World), SimB prog w st_zdegree info_zdegree.1.2.2.1 g } := ⟨_, fun prog w =>
    (SimB.one (SimS.ret (SimE.bin (SimE.callB BSim.len (SimL.cons (SimE.var 0 rfl) SimL.nil (by intro _; rfl)) (by decide +kernel)) SimE.int)))⟩
noncomputable def den_zdegree (vs : List V) : Option V := bodyV pk_zdegree.1 (placeArgs st_zdegree ["p"] vs (unbs st_zdegree.names.length))
theorem sim_zdegree (prog : Program) (w : World) : CallSim prog w 7 1 den_zdegree :=
  CallSim.ofB (C := st_zdegree) (args := ["p"]) hf_zdegree (pk_zdegree.2 prog w) (by intro doc pm an cdv ct xs h; obtain ⟨x0, rfl⟩ := len1 h rfl; rfl) rfl

/- 8: zlead -/
noncomputable def info_zlead : { p : Str × Arguments × List Stmt × Scope // fnAt 8 = some p } := ⟨_, rfl⟩
theorem hf_zlead : fnAt 8 = some (("zlead" : Str), info_zlead.1.2.1, info_zlead.1.2.2.1, info_zlead.1.2.2.2) := rfl
noncomputable def st_zlead : St := { scope := info_zlead.1.2.2.2, names := ["p"], own := [], room := 0, mode := 0 }
noncomputable def pk_zlead : { g : List V → R // ∀ (prog : Program) (w : World), SimB prog w st_zlead info_zlead.1.2.2.1 g } := ⟨_, fun prog w =>
    (SimB.one (SimS.ret (SimE.ite (SimT.cmp (SimE.callB BSim.len (SimL.cons (SimE.var 0 rfl) SimL.nil (by intro _; rfl)) (by decide +kernel)) SimE.int) (SimE.item (SimE.var 0 rfl) (SimE.neg SimE.int)) SimE.int)))⟩
noncomputable def den_zlead (vs : List V) : Option V := bodyV pk_zlead.1 (placeArgs st_zlead ["p"] vs (unbs st_zlead.names.length))
theorem sim_zlead (prog : Program) (w : World) : CallSim prog w 8 1 den_zlead :=
  CallSim.ofB (C := st_zlead) (args := ["p"]) hf_zlead (pk_zlead.2 prog w) (by intro doc pm an cdv ct xs h; obtain ⟨x0, rfl⟩ := len1 h rfl; rfl) rfl

/- 9: zadd -/
noncomputable def info_zadd : { p : Str × Arguments × List Stmt × Scope // fnAt 9 = some p } := ⟨_, rfl⟩
theorem hf_zadd : fnAt 9 = some (("zadd" : Str), info_zadd.1.2.1, info_zadd.1.2.2.1, info_zadd.1.2.2.2) := rfl
noncomputable def st_zadd : St := { scope := info_zadd.1.2.2.2, names := ["a", "b", "size"], own := ["a", "b"], room := 1, mode := 0 }
noncomputable def pk_zadd : { g : List V → R // ∀ (prog : Program) (w : World), SimB prog w st_zadd info_zadd.1.2.2.1 g } := ⟨_, fun prog w =>
    (SimB.cons (SimS.assign 2 (SimE.callB BSim.max (SimL.cons (SimE.callB BSim.len (SimL.cons (SimE.var 0 rfl) SimL.nil (by intro _; rfl)) (by decide +kernel)) (SimL.cons (SimE.callB BSim.len (SimL.cons (SimE.var 1 rfl) SimL.nil (by intro _; rfl)) (by decide +kernel)) SimL.nil (by intro _; rfl)) (by intro _; rfl)) (by decide +kernel)) rfl)
    (SimB.one (SimS.ret (SimE.call (sim_ztrim prog w) (SimL.cons (SimE.compJ [0, 1] [] (SimI.range (SimL.cons (SimE.var 2 rfl) SimL.nil (by intro _; rfl))) SimTs.nil (SimE.bin (SimE.ite (SimT.cmp (SimE.var 0 rfl) (SimE.callB BSim.len (SimL.cons (SimE.var 1 rfl) SimL.nil (by intro _; rfl)) (by decide +kernel))) (SimE.item (SimE.var 1 rfl) (SimE.var 0 rfl)) SimE.int) (SimE.ite (SimT.cmp (SimE.var 0 rfl) (SimE.callB BSim.len (SimL.cons (SimE.var 2 rfl) SimL.nil (by intro _; rfl)) (by decide +kernel))) (SimE.item (SimE.var 2 rfl) (SimE.var 0 rfl)) SimE.int))) SimL.nil (by intro _; rfl)) (hf_ztrim)))))⟩
noncomputable def den_zadd (vs : List V) : Option V := bodyV pk_zadd.1 (placeArgs st_zadd ["a", "b"] vs (unbs st_zadd.names.length))
theorem sim_zadd (prog : Program) (w : World) : CallSim prog w 9 2 den_zadd :=
  CallSim.ofB (C := st_zadd) (args := ["a", "b"]) hf_zadd (pk_zadd.2 prog w) (by intro doc pm an cdv ct xs h; obtain ⟨x0, x1, rfl⟩ := len2 h rfl; rfl) rfl

/- 10: zneg -/
noncomputable def info_zneg : { p : Str × Arguments × List Stmt × Scope // fnAt 10 = some p } := ⟨_, rfl⟩
theorem hf_zneg : fnAt 10 = some (("zneg" : Str), info_zneg.1.2.1, info_zneg.1.2.2.1, info_zneg.1.2.2.2) := rfl
noncomputable def st_zneg : St := { scope := info_zneg.1.2.2.2, names := ["p"], own := [], room := 0, mode := 0 }
noncomputable def pk_zneg : { g : List V → R // ∀ (prog : Program) (w : World), SimB prog w st_zneg info_zneg.1.2.2.1 g } := ⟨_, fun prog w =>
    (SimB.one (SimS.ret (SimE.compJ [] [] (SimI.list (SimE.var 0 rfl)) SimTs.nil (SimE.neg (SimE.var 0 rfl)))))⟩
noncomputable def den_zneg (vs : List V) : Option V := bodyV pk_zneg.1 (placeArgs st_zneg ["p"] vs (unbs st_zneg.names.length))
theorem sim_zneg (prog : Program) (w : World) : CallSim prog w 10 1 den_zneg :=
  CallSim.ofB (C := st_zneg) (args := ["p"]) hf_zneg (pk_zneg.2 prog w) (by intro doc pm an cdv ct xs h; obtain ⟨x0, rfl⟩ := len1 h rfl; rfl) rfl

/- 11: zsub -/
noncomputable def info_zsub : { p : Str × Arguments × List Stmt × Scope // fnAt 11 = some p } := ⟨_, rfl⟩
theorem hf_zsub : fnAt 11 = some (("zsub" : Str), info_zsub.1.2.1, info_zsub.1.2.2.1, info_zsub.1.2.2.2) := rfl
noncomputable def st_zsub : St := { scope := info_zsub.1.2.2.2, names := ["a", "b"], own := [], room := 2, mode := 0 }
noncomputable def pk_zsub : { g : List V → R // ∀ (prog : Program) (w : World), SimB prog w st_zsub info_zsub.1.2.2.1 g } := ⟨_, fun prog w =>
    (SimB.one (SimS.ret (SimE.call (sim_zadd prog w) (SimL.cons (SimE.var 0 rfl) (SimL.cons (SimE.call (sim_zneg prog w) (SimL.cons (SimE.var 1 rfl) SimL.nil (by intro _; rfl)) (hf_zneg)) SimL.nil (by intro _; rfl)) (by intro _; rfl)) (hf_zadd))))⟩
noncomputable def den_zsub (vs : List V) : Option V := bodyV pk_zsub.1 (placeArgs st_zsub ["a", "b"] vs (unbs st_zsub.names.length))
theorem sim_zsub (prog : Program) (w : World) : CallSim prog w 11 3 den_zsub :=
  CallSim.ofB (C := st_zsub) (args := ["a", "b"]) hf_zsub (pk_zsub.2 prog w) (by intro doc pm an cdv ct xs h; obtain ⟨x0, x1, rfl⟩ := len2 h rfl; rfl) rfl

/- 12: zscale -/
noncomputable def info_zscale : { p : Str × Arguments × List Stmt × Scope // fnAt 12 = some p } := ⟨_, rfl⟩
theorem hf_zscale : fnAt 12 = some (("zscale" : Str), info_zscale.1.2.1, info_zscale.1.2.2.1, info_zscale.1.2.2.2) := rfl
noncomputable def st_zscale : St := { scope := info_zscale.1.2.2.2, names := ["p", "k"], own := ["k"], room := 0, mode := 0 }
noncomputable def pk_zscale : { g : List V → R // ∀ (prog : Program) (w : World), SimB prog w st_zscale info_zscale.1.2.2.1 g } := ⟨_, fun prog w =>
    (SimB.one (SimS.ret (SimE.ite (SimT.cmp (SimE.var 1 rfl) SimE.int) (SimE.compJ [1] [] (SimI.list (SimE.var 0 rfl)) SimTs.nil (SimE.bin (SimE.var 0 rfl) (SimE.var 1 rfl))) (SimE.list SimL.nil))))⟩
noncomputable def den_zscale (vs : List V) : Option V := bodyV pk_zscale.1 (placeArgs st_zscale ["p", "k"] vs (unbs st_zscale.names.length))
theorem sim_zscale (prog : Program) (w : World) : CallSim prog w 12 1 den_zscale :=
  CallSim.ofB (C := st_zscale) (args := ["p", "k"]) hf_zscale (pk_zscale.2 prog w) (by intro doc pm an cdv ct xs h; obtain ⟨x0, x1, rfl⟩ := len2 h rfl; rfl) rfl

/- 13: zraise -/
noncomputable def info_zraise : { p : Str × Arguments × List Stmt × Scope // fnAt 13 = some p } := ⟨_, rfl⟩
theorem hf_zraise : fnAt 13 = some (("zraise" : Str), info_zraise.1.2.1, info_zraise.1.2.2.1, info_zraise.1.2.2.2) := rfl
noncomputable def st_zraise : St := { scope := info_zraise.1.2.2.2, names := ["p", "many"], own := [], room := 0, mode := 0 }
noncomputable def pk_zraise : { g : List V → R // ∀ (prog : Program) (w : World), SimB prog w st_zraise info_zraise.1.2.2.1 g } := ⟨_, fun prog w =>
    (SimB.one (SimS.ret (SimE.ite (SimT.cmp (SimE.callB BSim.len (SimL.cons (SimE.var 0 rfl) SimL.nil (by intro _; rfl)) (by decide +kernel)) SimE.int) (SimE.bin (SimE.bin (SimE.list (SimL.cons SimE.int SimL.nil (by intro _; rfl))) (SimE.var 1 rfl)) (SimE.callT BSim.list (SimL.cons (SimE.var 0 rfl) SimL.nil (by intro _; rfl)) (by decide +kernel))) (SimE.list SimL.nil))))⟩
noncomputable def den_zraise (vs : List V) : Option V := bodyV pk_zraise.1 (placeArgs st_zraise ["p", "many"] vs (unbs st_zraise.names.length))
theorem sim_zraise (prog : Program) (w : World) : CallSim prog w 13 1 den_zraise :=
  CallSim.ofB (C := st_zraise) (args := ["p", "many"]) hf_zraise (pk_zraise.2 prog w) (by intro doc pm an cdv ct xs h; obtain ⟨x0, x1, rfl⟩ := len2 h rfl; rfl) rfl

/- 14: zcontent -/
noncomputable def info_zcontent : { p : Str × Arguments × List Stmt × Scope // fnAt 14 = some p } := ⟨_, rfl⟩
theorem hf_zcontent : fnAt 14 = some (("zcontent" : Str), info_zcontent.1.2.1, info_zcontent.1.2.2.1, info_zcontent.1.2.2.2) := rfl
noncomputable def st_zcontent : St := { scope := info_zcontent.1.2.2.2, names := ["p"], own := [], room := 2, mode := 0 }
noncomputable def pk_zcontent : { g : List V → R // ∀ (prog : Program) (w : World), SimB prog w st_zcontent info_zcontent.1.2.2.1 g } := ⟨_, fun prog w =>
    (SimB.one (SimS.ret (SimE.call (sim_gcd_all prog w) (SimL.cons (SimE.var 0 rfl) SimL.nil (by intro _; rfl)) (hf_gcd_all))))⟩
noncomputable def den_zcontent (vs : List V) : Option V := bodyV pk_zcontent.1 (placeArgs st_zcontent ["p"] vs (unbs st_zcontent.names.length))
theorem sim_zcontent (prog : Program) (w : World) : CallSim prog w 14 3 den_zcontent :=
  CallSim.ofB (C := st_zcontent) (args := ["p"]) hf_zcontent (pk_zcontent.2 prog w) (by intro doc pm an cdv ct xs h; obtain ⟨x0, rfl⟩ := len1 h rfl; rfl) rfl

/- 15: zdivided -/
noncomputable def info_zdivided : { p : Str × Arguments × List Stmt × Scope // fnAt 15 = some p } := ⟨_, rfl⟩
theorem hf_zdivided : fnAt 15 = some (("zdivided" : Str), info_zdivided.1.2.1, info_zdivided.1.2.2.1, info_zdivided.1.2.2.2) := rfl
noncomputable def st_zdivided : St := { scope := info_zdivided.1.2.2.2, names := ["p", "k"], own := ["k"], room := 0, mode := 0 }
noncomputable def pk_zdivided : { g : List V → R // ∀ (prog : Program) (w : World), SimB prog w st_zdivided info_zdivided.1.2.2.1 g } := ⟨_, fun prog w =>
    (SimB.one (SimS.ret (SimE.compJ [1] [] (SimI.list (SimE.var 0 rfl)) SimTs.nil (SimE.bin (SimE.var 0 rfl) (SimE.var 1 rfl)))))⟩
noncomputable def den_zdivided (vs : List V) : Option V := bodyV pk_zdivided.1 (placeArgs st_zdivided ["p", "k"] vs (unbs st_zdivided.names.length))
theorem sim_zdivided (prog : Program) (w : World) : CallSim prog w 15 1 den_zdivided :=
  CallSim.ofB (C := st_zdivided) (args := ["p", "k"]) hf_zdivided (pk_zdivided.2 prog w) (by intro doc pm an cdv ct xs h; obtain ⟨x0, x1, rfl⟩ := len2 h rfl; rfl) rfl

/- 16: zprimitive -/
noncomputable def info_zprimitive : { p : Str × Arguments × List Stmt × Scope // fnAt 16 = some p } := ⟨_, rfl⟩
theorem hf_zprimitive : fnAt 16 = some (("zprimitive" : Str), info_zprimitive.1.2.1, info_zprimitive.1.2.2.1, info_zprimitive.1.2.2.2) := rfl
noncomputable def st_zprimitive : St := { scope := info_zprimitive.1.2.2.2, names := ["p", "content"], own := [], room := 3, mode := 0 }
noncomputable def pk_zprimitive : { g : List V → R // ∀ (prog : Program) (w : World), SimB prog w st_zprimitive info_zprimitive.1.2.2.1 g } := ⟨_, fun prog w =>
    (SimB.cons (SimS.ite (SimT.cmp (SimE.callB BSim.len (SimL.cons (SimE.var 0 rfl) SimL.nil (by intro _; rfl)) (by decide +kernel)) SimE.int) (SimB.one (SimS.ret (SimE.list SimL.nil))) SimB.nil)
    (SimB.cons (SimS.assign 1 (SimE.call (sim_zcontent prog w) (SimL.cons (SimE.var 0 rfl) SimL.nil (by intro _; rfl)) (hf_zcontent)) rfl)
    (SimB.one (SimS.ret (SimE.call (sim_zdivided prog w) (SimL.cons (SimE.var 0 rfl) (SimL.cons (SimE.ite (SimT.cmp (SimE.item (SimE.var 0 rfl) (SimE.neg SimE.int)) SimE.int) (SimE.var 1 rfl) (SimE.neg (SimE.var 1 rfl))) SimL.nil (by intro _; rfl)) (by intro _; rfl)) (hf_zdivided))))))⟩
noncomputable def den_zprimitive (vs : List V) : Option V := bodyV pk_zprimitive.1 (placeArgs st_zprimitive ["p"] vs (unbs st_zprimitive.names.length))
theorem sim_zprimitive (prog : Program) (w : World) : CallSim prog w 16 4 den_zprimitive :=
  CallSim.ofB (C := st_zprimitive) (args := ["p"]) hf_zprimitive (pk_zprimitive.2 prog w) (by intro doc pm an cdv ct xs h; obtain ⟨x0, rfl⟩ := len1 h rfl; rfl) rfl

/- 17: zderive -/
noncomputable def info_zderive : { p : Str × Arguments × List Stmt × Scope // fnAt 17 = some p } := ⟨_, rfl⟩
theorem hf_zderive : fnAt 17 = some (("zderive" : Str), info_zderive.1.2.1, info_zderive.1.2.2.1, info_zderive.1.2.2.2) := rfl
noncomputable def st_zderive : St := { scope := info_zderive.1.2.2.2, names := ["p"], own := [], room := 0, mode := 0 }
noncomputable def pk_zderive : { g : List V → R // ∀ (prog : Program) (w : World), SimB prog w st_zderive info_zderive.1.2.2.1 g } := ⟨_, fun prog w =>
    (SimB.one (SimS.ret (SimE.from (SimE.enumJ (SimE.var 0 rfl) (SimE.bin (SimE.var 1 rfl) (SimE.var 0 rfl))) SimE.int)))⟩
noncomputable def den_zderive (vs : List V) : Option V := bodyV pk_zderive.1 (placeArgs st_zderive ["p"] vs (unbs st_zderive.names.length))
theorem sim_zderive (prog : Program) (w : World) : CallSim prog w 17 1 den_zderive :=
  CallSim.ofB (C := st_zderive) (args := ["p"]) hf_zderive (pk_zderive.2 prog w) (by intro doc pm an cdv ct xs h; obtain ⟨x0, rfl⟩ := len1 h rfl; rfl) rfl

/- 18: zat -/
noncomputable def info_zat : { p : Str × Arguments × List Stmt × Scope // fnAt 18 = some p } := ⟨_, rfl⟩
theorem hf_zat : fnAt 18 = some (("zat" : Str), info_zat.1.2.1, info_zat.1.2.2.1, info_zat.1.2.2.2) := rfl
noncomputable def st_zat : St := { scope := info_zat.1.2.2.2, names := ["p", "n", "found", "number"], own := [], room := 0, mode := 0 }
noncomputable def pk_zat : { g : List V → R // ∀ (prog : Program) (w : World), SimB prog w st_zat info_zat.1.2.2.1 g } := ⟨_, fun prog w =>
    (SimB.cons (SimS.assign 2 SimE.int rfl)
    (SimB.cons (SimS.for 3 (SimI.reversed (SimE.var 0 rfl)) (SimB.one (SimS.assign 2 (SimE.bin (SimE.bin (SimE.var 2 rfl) (SimE.var 1 rfl)) (SimE.var 3 rfl)) rfl)) rfl)
    (SimB.one (SimS.ret (SimE.var 2 rfl)))))⟩
noncomputable def den_zat (vs : List V) : Option V := bodyV pk_zat.1 (placeArgs st_zat ["p", "n"] vs (unbs st_zat.names.length))
theorem sim_zat (prog : Program) (w : World) : CallSim prog w 18 1 den_zat :=
  CallSim.ofB (C := st_zat) (args := ["p", "n"]) hf_zat (pk_zat.2 prog w) (by intro doc pm an cdv ct xs h; obtain ⟨x0, x1, rfl⟩ := len2 h rfl; rfl) rfl

/- 19: zreversed -/
noncomputable def info_zreversed : { p : Str × Arguments × List Stmt × Scope // fnAt 19 = some p } := ⟨_, rfl⟩
theorem hf_zreversed : fnAt 19 = some (("zreversed" : Str), info_zreversed.1.2.1, info_zreversed.1.2.2.1, info_zreversed.1.2.2.2) := rfl
noncomputable def st_zreversed : St := { scope := info_zreversed.1.2.2.2, names := ["p"], own := [], room := 1, mode := 0 }
noncomputable def pk_zreversed : { g : List V → R // ∀ (prog : Program) (w : World), SimB prog w st_zreversed info_zreversed.1.2.2.1 g } := ⟨_, fun prog w =>
    (SimB.one (SimS.ret (SimE.call (sim_ztrim prog w) (SimL.cons (SimE.listRev (SimE.var 0 rfl)) SimL.nil (by intro _; rfl)) (hf_ztrim))))⟩
noncomputable def den_zreversed (vs : List V) : Option V := bodyV pk_zreversed.1 (placeArgs st_zreversed ["p"] vs (unbs st_zreversed.names.length))
theorem sim_zreversed (prog : Program) (w : World) : CallSim prog w 19 2 den_zreversed :=
  CallSim.ofB (C := st_zreversed) (args := ["p"]) hf_zreversed (pk_zreversed.2 prog w) (by intro doc pm an cdv ct xs h; obtain ⟨x0, rfl⟩ := len1 h rfl; rfl) rfl

/- 21: check_bottom -/
noncomputable def info_check_bottom : { p : Str × Arguments × List Stmt × Scope // fnAt 21 = some p } := ⟨_, rfl⟩
theorem hf_check_bottom : fnAt 21 = some (("check_bottom" : Str), info_check_bottom.1.2.1, info_check_bottom.1.2.2.1, info_check_bottom.1.2.2.2) := rfl
noncomputable def st_check_bottom : St := { scope := info_check_bottom.1.2.2.2, names := ["p"], own := [], room := 0, mode := 0 }
noncomputable def pk_check_bottom : { g : List V → R // ∀ (prog : Program) (w : World), SimB prog w st_check_bottom info_check_bottom.1.2.2.1 g } := ⟨_, fun prog w =>
    (SimB.one (SimS.ite (SimT.cmp (SimE.callB BSim.len (SimL.cons (SimE.var 0 rfl) SimL.nil (by intro _; rfl)) (by decide +kernel)) SimE.int) SimB.never SimB.nil))⟩
noncomputable def den_check_bottom (vs : List V) : Option V := bodyV pk_check_bottom.1 (placeArgs st_check_bottom ["p"] vs (unbs st_check_bottom.names.length))
theorem sim_check_bottom (prog : Program) (w : World) : CallSim prog w 21 1 den_check_bottom :=
  CallSim.ofB (C := st_check_bottom) (args := ["p"]) hf_check_bottom (pk_check_bottom.2 prog w) (by intro doc pm an cdv ct xs h; obtain ⟨x0, rfl⟩ := len1 h rfl; rfl) rfl

/- 22: zexact -/
noncomputable def info_zexact : { p : Str × Arguments × List Stmt × Scope // fnAt 22 = some p } := ⟨_, rfl⟩
theorem hf_zexact : fnAt 22 = some (("zexact" : Str), info_zexact.1.2.1, info_zexact.1.2.2.1, info_zexact.1.2.2.2) := rfl
noncomputable def st_zexact : St := { scope := info_zexact.1.2.2.2, names := ["a", "b", "rest", "found", "number", "power"], own := [], room := 3, mode := 0 }
noncomputable def pk_zexact : { g : List V → R // ∀ (prog : Program) (w : World), SimB prog w st_zexact info_zexact.1.2.2.1 g } := ⟨_, fun prog w =>
    (SimB.cons (SimS.exprNone (SimE.call (sim_check_bottom prog w) (SimL.cons (SimE.var 1 rfl) SimL.nil (by intro _; rfl)) (hf_check_bottom)) inter_fn)
    (SimB.thaw rfl (SimF.tupS (names := ["rest", "found"]) [2, 3] (SimLF.there (SimE.callT BSim.list (SimL.cons (SimE.var 0 rfl) SimL.nil (by intro _; rfl)) (by decide +kernel)) (SimLF.here (SimEF.rep (SimE.list (SimL.cons SimE.int SimL.nil (by intro _; rfl))) (SimE.callB BSim.max (SimL.cons SimE.int (SimL.cons (SimE.bin (SimE.bin (SimE.callB BSim.len (SimL.cons (SimE.var 0 rfl) SimL.nil (by intro _; rfl)) (by decide +kernel)) (SimE.callB BSim.len (SimL.cons (SimE.var 1 rfl) SimL.nil (by intro _; rfl)) (by decide +kernel))) SimE.int) SimL.nil (by intro _; rfl)) (by intro _; rfl)) (by decide +kernel))) SimL.nil)) (fun d hd => (Stores.cons (x := "found") rfl (by decide +kernel) (fun h => bindName_ h) (Stores.cons (x := "rest") rfl (by decide +kernel) (fun h => bindName_ h) Stores.nil))) rfl (hw := (by intro env h; cases env; cases h; rfl)))
    (SimB.cons (SimS.while 200 (SimT.cmp (SimE.callB BSim.len (SimL.cons (SimE.var 2 rfl) SimL.nil (by intro _; rfl)) (by decide +kernel)) (SimE.callB BSim.len (SimL.cons (SimE.var 1 rfl) SimL.nil (by intro _; rfl)) (by decide +kernel))) (SimB.cons (SimS.ite (SimT.cmp (SimE.bin (SimE.item (SimE.var 2 rfl) (SimE.neg SimE.int)) (SimE.item (SimE.var 1 rfl) (SimE.neg SimE.int))) SimE.int) (SimB.one (SimS.ret SimE.noneC)) SimB.nil)
    (SimB.cons (SimS.tupS (names := ["number", "power"]) [4, 5] (SimE.tup (SimL.cons (SimE.bin (SimE.item (SimE.var 2 rfl) (SimE.neg SimE.int)) (SimE.item (SimE.var 1 rfl) (SimE.neg SimE.int))) (SimL.cons (SimE.bin (SimE.callB BSim.len (SimL.cons (SimE.var 2 rfl) SimL.nil (by intro _; rfl)) (by decide +kernel)) (SimE.callB BSim.len (SimL.cons (SimE.var 1 rfl) SimL.nil (by intro _; rfl)) (by decide +kernel))) SimL.nil (by intro _; rfl)) (by intro _; rfl))) (fun d hd => (Stores.cons (x := "power") rfl (by decide +kernel) (fun h => bindName_ h) (Stores.cons (x := "number") rfl (by decide +kernel) (fun h => bindName_ h) Stores.nil))) rfl (hw := (by intro env h; cases env; cases h; rfl)))
    (SimB.cons (SimS.setM 3 rfl (SimE.var 5 rfl) (SimE.var 4 rfl) rfl)
    (SimB.one (SimS.assign 2 (SimE.call (sim_zsub prog w) (SimL.cons (SimE.var 2 rfl) (SimL.cons (SimE.call (sim_zraise prog w) (SimL.cons (SimE.call (sim_zscale prog w) (SimL.cons (SimE.var 1 rfl) (SimL.cons (SimE.var 4 rfl) SimL.nil (by intro _; rfl)) (by intro _; rfl)) (hf_zscale)) (SimL.cons (SimE.var 5 rfl) SimL.nil (by intro _; rfl)) (by intro _; rfl)) (hf_zraise)) SimL.nil (by intro _; rfl)) (by intro _; rfl)) (hf_zsub)) rfl))))))
    (SimB.freeze 3 (SimB.one (SimS.ret (SimE.ite (SimT.cmp (SimE.callB BSim.len (SimL.cons (SimE.var 2 rfl) SimL.nil (by intro _; rfl)) (by decide +kernel)) SimE.int) (SimE.call (sim_ztrim prog w) (SimL.cons (SimE.var 3 rfl) SimL.nil (by intro _; rfl)) (hf_ztrim)) SimE.noneC))) rfl))))⟩
noncomputable def den_zexact (vs : List V) : Option V := bodyV pk_zexact.1 (placeArgs st_zexact ["a", "b"] vs (unbs st_zexact.names.length))
theorem sim_zexact (prog : Program) (w : World) : CallSim prog w 22 4 den_zexact :=
  CallSim.ofB (C := st_zexact) (args := ["a", "b"]) hf_zexact (pk_zexact.2 prog w) (by intro doc pm an cdv ct xs h; obtain ⟨x0, x1, rfl⟩ := len2 h rfl; rfl) rfl

/- 23: pseudo -/
noncomputable def info_pseudo : { p : Str × Arguments × List Stmt × Scope // fnAt 23 = some p } := ⟨_, rfl⟩
theorem hf_pseudo : fnAt 23 = some (("pseudo" : Str), info_pseudo.1.2.1, info_pseudo.1.2.2.1, info_pseudo.1.2.2.2) := rfl
noncomputable def st_pseudo : St := { scope := info_pseudo.1.2.2.2, names := ["a", "b", "many", "rest", "found", "left", "first", "number", "power", "more"], own := [], room := 3, mode := 0 }
noncomputable def pk_pseudo : { g : List V → R // ∀ (prog : Program) (w : World), SimB prog w st_pseudo info_pseudo.1.2.2.1 g } := ⟨_, fun prog w =>
    (SimB.cons (SimS.exprNone (SimE.call (sim_check_bottom prog w) (SimL.cons (SimE.var 1 rfl) SimL.nil (by intro _; rfl)) (hf_check_bottom)) inter_fn)
    (SimB.cons (SimS.assign 2 (SimE.callB BSim.max (SimL.cons SimE.int (SimL.cons (SimE.bin (SimE.bin (SimE.callB BSim.len (SimL.cons (SimE.var 0 rfl) SimL.nil (by intro _; rfl)) (by decide +kernel)) (SimE.callB BSim.len (SimL.cons (SimE.var 1 rfl) SimL.nil (by intro _; rfl)) (by decide +kernel))) SimE.int) SimL.nil (by intro _; rfl)) (by intro _; rfl)) (by decide +kernel)) rfl)
    (SimB.cons (SimS.tup [3, 4, 5, 6] (SimE.tup (SimL.cons (SimE.callT BSim.list (SimL.cons (SimE.var 0 rfl) SimL.nil (by intro _; rfl)) (by decide +kernel)) (SimL.cons (SimE.list SimL.nil) (SimL.cons (SimE.var 2 rfl) (SimL.cons (SimE.call (sim_zlead prog w) (SimL.cons (SimE.var 1 rfl) SimL.nil (by intro _; rfl)) (hf_zlead)) SimL.nil (by intro _; rfl)) (by intro _; rfl)) (by intro _; rfl)) (by intro _; rfl))) (fun d hd => (Stores.cons (x := "rest") rfl (by decide +kernel) (fun h => wpAny_assign_Name h) (Stores.cons (x := "found") rfl (by decide +kernel) (fun h => wpAny_assign_Name h) (Stores.cons (x := "left") rfl (by decide +kernel) (fun h => wpAny_assign_Name h) (Stores.cons (x := "first") rfl (by decide +kernel) (fun h => wpAny_assign_Name h) Stores.nil))))) (hw := (by intro env h; cases env; cases h; rfl)))
    (SimB.cons (SimS.while 200 (SimT.cmp (SimE.callB BSim.len (SimL.cons (SimE.var 3 rfl) SimL.nil (by intro _; rfl)) (by decide +kernel)) (SimE.callB BSim.len (SimL.cons (SimE.var 1 rfl) SimL.nil (by intro _; rfl)) (by decide +kernel))) (SimB.cons (SimS.tupS (names := ["number", "power"]) [7, 8] (SimE.tup (SimL.cons (SimE.item (SimE.var 3 rfl) (SimE.neg SimE.int)) (SimL.cons (SimE.bin (SimE.callB BSim.len (SimL.cons (SimE.var 3 rfl) SimL.nil (by intro _; rfl)) (by decide +kernel)) (SimE.callB BSim.len (SimL.cons (SimE.var 1 rfl) SimL.nil (by intro _; rfl)) (by decide +kernel))) SimL.nil (by intro _; rfl)) (by intro _; rfl))) (fun d hd => (Stores.cons (x := "power") rfl (by decide +kernel) (fun h => bindName_ h) (Stores.cons (x := "number") rfl (by decide +kernel) (fun h => bindName_ h) Stores.nil))) rfl (hw := (by intro env h; cases env; cases h; rfl)))
    (SimB.cons (SimS.assign 4 (SimE.call (sim_zsub prog w) (SimL.cons (SimE.call (sim_zscale prog w) (SimL.cons (SimE.var 4 rfl) (SimL.cons (SimE.var 6 rfl) SimL.nil (by intro _; rfl)) (by intro _; rfl)) (hf_zscale)) (SimL.cons (SimE.call (sim_zraise prog w) (SimL.cons (SimE.list (SimL.cons (SimE.neg (SimE.var 7 rfl)) SimL.nil (by intro _; rfl))) (SimL.cons (SimE.var 8 rfl) SimL.nil (by intro _; rfl)) (by intro _; rfl)) (hf_zraise)) SimL.nil (by intro _; rfl)) (by intro _; rfl)) (hf_zsub)) rfl)
    (SimB.cons (SimS.assign 3 (SimE.call (sim_zsub prog w) (SimL.cons (SimE.call (sim_zscale prog w) (SimL.cons (SimE.var 3 rfl) (SimL.cons (SimE.var 6 rfl) SimL.nil (by intro _; rfl)) (by intro _; rfl)) (hf_zscale)) (SimL.cons (SimE.call (sim_zraise prog w) (SimL.cons (SimE.call (sim_zscale prog w) (SimL.cons (SimE.var 1 rfl) (SimL.cons (SimE.var 7 rfl) SimL.nil (by intro _; rfl)) (by intro _; rfl)) (hf_zscale)) (SimL.cons (SimE.var 8 rfl) SimL.nil (by intro _; rfl)) (by intro _; rfl)) (hf_zraise)) SimL.nil (by intro _; rfl)) (by intro _; rfl)) (hf_zsub)) rfl)
    (SimB.one (SimS.aug 5 SimE.int rfl))))))
    (SimB.cons (SimS.assign 9 (SimE.bin (SimE.var 6 rfl) (SimE.var 5 rfl)) rfl)
    (SimB.one (SimS.ret (SimE.tup (SimL.cons (SimE.call (sim_zscale prog w) (SimL.cons (SimE.var 4 rfl) (SimL.cons (SimE.var 9 rfl) SimL.nil (by intro _; rfl)) (by intro _; rfl)) (hf_zscale)) (SimL.cons (SimE.call (sim_zscale prog w) (SimL.cons (SimE.var 3 rfl) (SimL.cons (SimE.var 9 rfl) SimL.nil (by intro _; rfl)) (by intro _; rfl)) (hf_zscale)) (SimL.cons (SimE.var 2 rfl) SimL.nil (by intro _; rfl)) (by intro _; rfl)) (by intro _; rfl))))))))))⟩
noncomputable def den_pseudo (vs : List V) : Option V := bodyV pk_pseudo.1 (placeArgs st_pseudo ["a", "b"] vs (unbs st_pseudo.names.length))
theorem sim_pseudo (prog : Program) (w : World) : CallSim prog w 23 4 den_pseudo :=
  CallSim.ofB (C := st_pseudo) (args := ["a", "b"]) hf_pseudo (pk_pseudo.2 prog w) (by intro doc pm an cdv ct xs h; obtain ⟨x0, x1, rfl⟩ := len2 h rfl; rfl) rfl

/- 24: zpseudo_rest -/
noncomputable def info_zpseudo_rest : { p : Str × Arguments × List Stmt × Scope // fnAt 24 = some p } := ⟨_, rfl⟩
theorem hf_zpseudo_rest : fnAt 24 = some (("zpseudo_rest" : Str), info_zpseudo_rest.1.2.1, info_zpseudo_rest.1.2.2.1, info_zpseudo_rest.1.2.2.2) := rfl
noncomputable def st_zpseudo_rest : St := { scope := info_zpseudo_rest.1.2.2.2, names := ["a", "b"], own := [], room := 4, mode := 0 }
noncomputable def pk_zpseudo_rest : { g : List V → R // ∀ (prog : Program) (w : World), SimB prog w st_zpseudo_rest info_zpseudo_rest.1.2.2.1 g } := ⟨_, fun prog w =>
    (SimB.one (SimS.ret (SimE.item (SimE.call (sim_pseudo prog w) (SimL.cons (SimE.var 0 rfl) (SimL.cons (SimE.var 1 rfl) SimL.nil (by intro _; rfl)) (by intro _; rfl)) (hf_pseudo)) SimE.int)))⟩
noncomputable def den_zpseudo_rest (vs : List V) : Option V := bodyV pk_zpseudo_rest.1 (placeArgs st_zpseudo_rest ["a", "b"] vs (unbs st_zpseudo_rest.names.length))
theorem sim_zpseudo_rest (prog : Program) (w : World) : CallSim prog w 24 5 den_zpseudo_rest :=
  CallSim.ofB (C := st_zpseudo_rest) (args := ["a", "b"]) hf_zpseudo_rest (pk_zpseudo_rest.2 prog w) (by intro doc pm an cdv ct xs h; obtain ⟨x0, x1, rfl⟩ := len2 h rfl; rfl) rfl

/- 26: divided -/
noncomputable def info_divided : { p : Str × Arguments × List Stmt × Scope // fnAt 26 = some p } := ⟨_, rfl⟩
theorem hf_divided : fnAt 26 = some (("divided" : Str), info_divided.1.2.1, info_divided.1.2.2.1, info_divided.1.2.2.2) := rfl
noncomputable def st_divided : St := { scope := info_divided.1.2.2.2, names := ["p", "number"], own := ["number"], room := 0, mode := 0 }
noncomputable def pk_divided : { g : List V → R // ∀ (prog : Program) (w : World), SimB prog w st_divided info_divided.1.2.2.1 g } := ⟨_, fun prog w =>
    (SimB.one (SimS.ret (SimE.compJ [1] [] (SimI.list (SimE.var 0 rfl)) SimTs.nil (SimE.bin (SimE.var 0 rfl) (SimE.var 1 rfl)))))⟩
noncomputable def den_divided (vs : List V) : Option V := bodyV pk_divided.1 (placeArgs st_divided ["p", "number"] vs (unbs st_divided.names.length))
theorem sim_divided (prog : Program) (w : World) : CallSim prog w 26 1 den_divided :=
  CallSim.ofB (C := st_divided) (args := ["p", "number"]) hf_divided (pk_divided.2 prog w) (by intro doc pm an cdv ct xs h; obtain ⟨x0, x1, rfl⟩ := len2 h rfl; rfl) rfl

/- 27: full_rest -/
noncomputable def info_full_rest : { p : Str × Arguments × List Stmt × Scope // fnAt 27 = some p } := ⟨_, rfl⟩
theorem hf_full_rest : fnAt 27 = some (("full_rest" : Str), info_full_rest.1.2.1, info_full_rest.1.2.2.1, info_full_rest.1.2.2.2) := rfl
noncomputable def st_full_rest : St := { scope := info_full_rest.1.2.2.2, names := ["a", "b", "quotient", "rest", "power", "lacking"], own := ["b", "lacking"], room := 4, mode := 0 }
noncomputable def pk_full_rest : { g : List V → R // ∀ (prog : Program) (w : World), SimB prog w st_full_rest info_full_rest.1.2.2.1 g } := ⟨_, fun prog w =>
    (SimB.cons (SimS.tup [2, 3, 4] (SimE.call (sim_pseudo prog w) (SimL.cons (SimE.var 0 rfl) (SimL.cons (SimE.var 1 rfl) SimL.nil (by intro _; rfl)) (by intro _; rfl)) (hf_pseudo)) (fun d hd => (Stores.cons (x := "quotient") rfl (by decide +kernel) (fun h => wpAny_assign_Name h) (Stores.cons (x := "rest") rfl (by decide +kernel) (fun h => wpAny_assign_Name h) (Stores.cons (x := "power") rfl (by decide +kernel) (fun h => wpAny_assign_Name h) Stores.nil)))) (hw := (by intro env h; cases env; cases h; rfl)))
    (SimB.cons (SimS.assign 5 (SimE.bin (SimE.bin (SimE.bin (SimE.call (sim_zdegree prog w) (SimL.cons (SimE.var 0 rfl) SimL.nil (by intro _; rfl)) (hf_zdegree)) (SimE.call (sim_zdegree prog w) (SimL.cons (SimE.var 1 rfl) SimL.nil (by intro _; rfl)) (hf_zdegree))) SimE.int) (SimE.var 4 rfl)) rfl)
    (SimB.one (SimS.ret (SimE.compJ [1, 5] [] (SimI.list (SimE.var 3 rfl)) SimTs.nil (SimE.bin (SimE.var 0 rfl) (SimE.bin (SimE.call (sim_zlead prog w) (SimL.cons (SimE.var 1 rfl) SimL.nil (by intro _; rfl)) (hf_zlead)) (SimE.var 2 rfl))))))))⟩
noncomputable def den_full_rest (vs : List V) : Option V := bodyV pk_full_rest.1 (placeArgs st_full_rest ["a", "b"] vs (unbs st_full_rest.names.length))
theorem sim_full_rest (prog : Program) (w : World) : CallSim prog w 27 5 den_full_rest :=
  CallSim.ofB (C := st_full_rest) (args := ["a", "b"]) hf_full_rest (pk_full_rest.2 prog w) (by intro doc pm an cdv ct xs h; obtain ⟨x0, x1, rfl⟩ := len2 h rfl; rfl) rfl

/- 28: row_resultant -/
noncomputable def info_row_resultant : { p : Str × Arguments × List Stmt × Scope // fnAt 28 = some p } := ⟨_, rfl⟩
theorem hf_row_resultant : fnAt 28 = some (("row_resultant" : Str), info_row_resultant.1.2.1, info_row_resultant.1.2.2.1, info_row_resultant.1.2.2.2) := rfl
noncomputable def st_row_resultant : St := { scope := info_row_resultant.1.2.2.2, names := ["a", "b", "sign", "g", "h", "gap", "rest", "many"], own := [], room := 5, mode := 0 }
noncomputable def pk_row_resultant : { g : List V → R // ∀ (prog : Program) (w : World), SimB prog w st_row_resultant info_row_resultant.1.2.2.1 g } := ⟨_, fun prog w =>
    (SimB.cons (SimS.tup [3, 4] (SimE.tup (SimL.cons SimE.int (SimL.cons SimE.int SimL.nil (by intro _; rfl)) (by intro _; rfl))) (fun d hd => (Stores.cons (x := "g") rfl (by decide +kernel) (fun h => wpAny_assign_Name h) (Stores.cons (x := "h") rfl (by decide +kernel) (fun h => wpAny_assign_Name h) Stores.nil))) (hw := (by intro env h; cases env; cases h; rfl)))
    (SimB.cons (SimS.while 200 (SimT.cmp (SimE.call (sim_zdegree prog w) (SimL.cons (SimE.var 1 rfl) SimL.nil (by intro _; rfl)) (hf_zdegree)) SimE.int) (SimB.cons (SimS.assign 5 (SimE.bin (SimE.call (sim_zdegree prog w) (SimL.cons (SimE.var 0 rfl) SimL.nil (by intro _; rfl)) (hf_zdegree)) (SimE.call (sim_zdegree prog w) (SimL.cons (SimE.var 1 rfl) SimL.nil (by intro _; rfl)) (hf_zdegree))) rfl)
    (SimB.cons (SimS.ite (SimT.and (SimT.cmp (SimE.bin (SimE.call (sim_zdegree prog w) (SimL.cons (SimE.var 0 rfl) SimL.nil (by intro _; rfl)) (hf_zdegree)) SimE.int) SimE.int) (SimT.and (SimT.cmp (SimE.bin (SimE.call (sim_zdegree prog w) (SimL.cons (SimE.var 1 rfl) SimL.nil (by intro _; rfl)) (hf_zdegree)) SimE.int) SimE.int) SimT.and_nil)) (SimB.one (SimS.assign 2 (SimE.neg (SimE.var 2 rfl)) rfl)) SimB.nil)
    (SimB.cons (SimS.assign 6 (SimE.call (sim_full_rest prog w) (SimL.cons (SimE.var 0 rfl) (SimL.cons (SimE.var 1 rfl) SimL.nil (by intro _; rfl)) (by intro _; rfl)) (hf_full_rest)) rfl)
    (SimB.cons (SimS.tupS (names := ["a", "b"]) [0, 1] (SimE.tup (SimL.cons (SimE.var 1 rfl) (SimL.cons (SimE.call (sim_divided prog w) (SimL.cons (SimE.var 6 rfl) (SimL.cons (SimE.bin (SimE.var 3 rfl) (SimE.bin (SimE.var 4 rfl) (SimE.var 5 rfl))) SimL.nil (by intro _; rfl)) (by intro _; rfl)) (hf_divided)) SimL.nil (by intro _; rfl)) (by intro _; rfl))) (fun d hd => (Stores.cons (x := "b") rfl (by decide +kernel) (fun h => bindName_ h) (Stores.cons (x := "a") rfl (by decide +kernel) (fun h => bindName_ h) Stores.nil))) rfl (hw := (by intro env h; cases env; cases h; rfl)))
    (SimB.cons (SimS.assign 3 (SimE.call (sim_zlead prog w) (SimL.cons (SimE.var 0 rfl) SimL.nil (by intro _; rfl)) (hf_zlead)) rfl)
    (SimB.one (SimS.ite (SimT.cmp (SimE.var 5 rfl) SimE.int) (SimB.one (SimS.assign 4 (SimE.bin (SimE.bin (SimE.var 3 rfl) (SimE.var 5 rfl)) (SimE.bin (SimE.var 4 rfl) (SimE.bin (SimE.var 5 rfl) SimE.int))) rfl)) SimB.nil))))))))
    (SimB.cons (SimS.ite (SimT.cmp (SimE.var 1 rfl) (SimE.list SimL.nil)) (SimB.one (SimS.ret SimE.int)) SimB.nil)
    (SimB.cons (SimS.assign 7 (SimE.call (sim_zdegree prog w) (SimL.cons (SimE.var 0 rfl) SimL.nil (by intro _; rfl)) (hf_zdegree)) rfl)
    (SimB.one (SimS.ret (SimE.bin (SimE.var 2 rfl) (SimE.ite (SimT.cmp (SimE.var 7 rfl) SimE.int) (SimE.bin (SimE.bin (SimE.item (SimE.var 1 rfl) SimE.int) (SimE.var 7 rfl)) (SimE.bin (SimE.var 4 rfl) (SimE.bin (SimE.var 7 rfl) SimE.int))) SimE.int))))))))⟩
noncomputable def den_row_resultant (vs : List V) : Option V := bodyV pk_row_resultant.1 (placeArgs st_row_resultant ["a", "b", "sign"] vs (unbs st_row_resultant.names.length))
theorem sim_row_resultant (prog : Program) (w : World) : CallSim prog w 28 6 den_row_resultant :=
  CallSim.ofB (C := st_row_resultant) (args := ["a", "b", "sign"]) hf_row_resultant (pk_row_resultant.2 prog w) (by intro doc pm an cdv ct xs h; obtain ⟨x0, x1, x2, rfl⟩ := len3 h rfl; rfl) rfl

/- 29: resultant -/
noncomputable def info_resultant : { p : Str × Arguments × List Stmt × Scope // fnAt 29 = some p } := ⟨_, rfl⟩
theorem hf_resultant : fnAt 29 = some (("resultant" : Str), info_resultant.1.2.1, info_resultant.1.2.2.1, info_resultant.1.2.2.2) := rfl
noncomputable def st_resultant : St := { scope := info_resultant.1.2.2.2, names := ["a", "b", "sign", "one", "other", "shared"], own := [], room := 6, mode := 0 }
noncomputable def pk_resultant : { g : List V → R // ∀ (prog : Program) (w : World), SimB prog w st_resultant info_resultant.1.2.2.1 g } := ⟨_, fun prog w =>
    (SimB.cons (SimS.ite (SimT.or (SimT.cmp (SimE.var 0 rfl) (SimE.list SimL.nil)) (SimT.or (SimT.cmp (SimE.var 1 rfl) (SimE.list SimL.nil)) SimT.or_nil)) (SimB.one (SimS.ret SimE.int)) SimB.nil)
    (SimB.cons (SimS.assign 2 SimE.int rfl)
    (SimB.cons (SimS.ite (SimT.cmp (SimE.call (sim_zdegree prog w) (SimL.cons (SimE.var 0 rfl) SimL.nil (by intro _; rfl)) (hf_zdegree)) (SimE.call (sim_zdegree prog w) (SimL.cons (SimE.var 1 rfl) SimL.nil (by intro _; rfl)) (hf_zdegree))) (SimB.cons (SimS.tupS (names := ["a", "b"]) [0, 1] (SimE.tup (SimL.cons (SimE.var 1 rfl) (SimL.cons (SimE.var 0 rfl) SimL.nil (by intro _; rfl)) (by intro _; rfl))) (fun d hd => (Stores.cons (x := "b") rfl (by decide +kernel) (fun h => bindName_ h) (Stores.cons (x := "a") rfl (by decide +kernel) (fun h => bindName_ h) Stores.nil))) rfl (hw := (by intro env h; cases env; cases h; rfl)))
    (SimB.one (SimS.assign 2 (SimE.ite (SimT.and (SimT.cmp (SimE.bin (SimE.call (sim_zdegree prog w) (SimL.cons (SimE.var 0 rfl) SimL.nil (by intro _; rfl)) (hf_zdegree)) SimE.int) SimE.int) (SimT.and (SimT.cmp (SimE.bin (SimE.call (sim_zdegree prog w) (SimL.cons (SimE.var 1 rfl) SimL.nil (by intro _; rfl)) (hf_zdegree)) SimE.int) SimE.int) SimT.and_nil)) (SimE.neg SimE.int) SimE.int) rfl))) SimB.nil)
    (SimB.cons (SimS.tupS (names := ["one", "other"]) [3, 4] (SimE.tup (SimL.cons (SimE.call (sim_zcontent prog w) (SimL.cons (SimE.var 0 rfl) SimL.nil (by intro _; rfl)) (hf_zcontent)) (SimL.cons (SimE.call (sim_zcontent prog w) (SimL.cons (SimE.var 1 rfl) SimL.nil (by intro _; rfl)) (hf_zcontent)) SimL.nil (by intro _; rfl)) (by intro _; rfl))) (fun d hd => (Stores.cons (x := "other") rfl (by decide +kernel) (fun h => bindName_ h) (Stores.cons (x := "one") rfl (by decide +kernel) (fun h => bindName_ h) Stores.nil))) rfl (hw := (by intro env h; cases env; cases h; rfl)))
    (SimB.cons (SimS.assign 5 (SimE.bin (SimE.bin (SimE.var 3 rfl) (SimE.call (sim_zdegree prog w) (SimL.cons (SimE.var 1 rfl) SimL.nil (by intro _; rfl)) (hf_zdegree))) (SimE.bin (SimE.var 4 rfl) (SimE.call (sim_zdegree prog w) (SimL.cons (SimE.var 0 rfl) SimL.nil (by intro _; rfl)) (hf_zdegree)))) rfl)
    (SimB.one (SimS.ret (SimE.bin (SimE.var 5 rfl) (SimE.call (sim_row_resultant prog w) (SimL.cons (SimE.call (sim_divided prog w) (SimL.cons (SimE.var 0 rfl) (SimL.cons (SimE.var 3 rfl) SimL.nil (by intro _; rfl)) (by intro _; rfl)) (hf_divided)) (SimL.cons (SimE.call (sim_divided prog w) (SimL.cons (SimE.var 1 rfl) (SimL.cons (SimE.var 4 rfl) SimL.nil (by intro _; rfl)) (by intro _; rfl)) (hf_divided)) (SimL.cons (SimE.var 2 rfl) SimL.nil (by intro _; rfl)) (by intro _; rfl)) (by intro _; rfl)) (hf_row_resultant))))))))))⟩
noncomputable def den_resultant (vs : List V) : Option V := bodyV pk_resultant.1 (placeArgs st_resultant ["a", "b"] vs (unbs st_resultant.names.length))
theorem sim_resultant (prog : Program) (w : World) : CallSim prog w 29 7 den_resultant :=
  CallSim.ofB (C := st_resultant) (args := ["a", "b"]) hf_resultant (pk_resultant.2 prog w) (by intro doc pm an cdv ct xs h; obtain ⟨x0, x1, rfl⟩ := len2 h rfl; rfl) rfl

/- 30: discriminant -/
noncomputable def info_discriminant : { p : Str × Arguments × List Stmt × Scope // fnAt 30 = some p } := ⟨_, rfl⟩
theorem hf_discriminant : fnAt 30 = some (("discriminant" : Str), info_discriminant.1.2.1, info_discriminant.1.2.2.1, info_discriminant.1.2.2.2) := rfl
noncomputable def st_discriminant : St := { scope := info_discriminant.1.2.2.2, names := ["f", "many", "found"], own := [], room := 7, mode := 0 }
noncomputable def pk_discriminant : { g : List V → R // ∀ (prog : Program) (w : World), SimB prog w st_discriminant info_discriminant.1.2.2.1 g } := ⟨_, fun prog w =>
    (SimB.cons (SimS.assign 1 (SimE.call (sim_zdegree prog w) (SimL.cons (SimE.var 0 rfl) SimL.nil (by intro _; rfl)) (hf_zdegree)) rfl)
    (SimB.cons (SimS.ite (SimT.cmp (SimE.var 1 rfl) SimE.int) SimB.never SimB.nil)
    (SimB.cons (SimS.assign 2 (SimE.bin (SimE.call (sim_resultant prog w) (SimL.cons (SimE.var 0 rfl) (SimL.cons (SimE.call (sim_zderive prog w) (SimL.cons (SimE.var 0 rfl) SimL.nil (by intro _; rfl)) (hf_zderive)) SimL.nil (by intro _; rfl)) (by intro _; rfl)) (hf_resultant)) (SimE.call (sim_zlead prog w) (SimL.cons (SimE.var 0 rfl) SimL.nil (by intro _; rfl)) (hf_zlead))) rfl)
    (SimB.one (SimS.ret (SimE.ite (SimT.cmp (SimE.bin (SimE.bin (SimE.bin (SimE.var 1 rfl) (SimE.bin (SimE.var 1 rfl) SimE.int)) SimE.int) SimE.int) SimE.int) (SimE.neg (SimE.var 2 rfl)) (SimE.var 2 rfl)))))))⟩
noncomputable def den_discriminant (vs : List V) : Option V := bodyV pk_discriminant.1 (placeArgs st_discriminant ["f"] vs (unbs st_discriminant.names.length))
theorem sim_discriminant (prog : Program) (w : World) : CallSim prog w 30 8 den_discriminant :=
  CallSim.ofB (C := st_discriminant) (args := ["f"]) hf_discriminant (pk_discriminant.2 prog w) (by intro doc pm an cdv ct xs h; obtain ⟨x0, rfl⟩ := len1 h rfl; rfl) rfl

/- 32: next_height -/
noncomputable def info_next_height : { p : Str × Arguments × List Stmt × Scope // fnAt 32 = some p } := ⟨_, rfl⟩
theorem hf_next_height : fnAt 32 = some (("next_height" : Str), info_next_height.1.2.1, info_next_height.1.2.2.1, info_next_height.1.2.2.2) := rfl
noncomputable def st_next_height : St := { scope := info_next_height.1.2.2.2, names := ["front", "step", "height"], own := [], room := 0, mode := 0 }
noncomputable def pk_next_height : { g : List V → R // ∀ (prog : Program) (w : World), SimB prog w st_next_height info_next_height.1.2.2.1 g } := ⟨_, fun prog w =>
    (SimB.cons (SimS.ite (SimT.cmp (SimE.var 1 rfl) SimE.int) (SimB.one (SimS.ret (SimE.var 2 rfl))) SimB.nil)
    (SimB.one (SimS.ret (SimE.bin (SimE.bin (SimE.var 0 rfl) (SimE.var 1 rfl)) (SimE.bin (SimE.var 2 rfl) (SimE.bin (SimE.var 1 rfl) SimE.int))))))⟩
noncomputable def den_next_height (vs : List V) : Option V := bodyV pk_next_height.1 (placeArgs st_next_height ["front", "step", "height"] vs (unbs st_next_height.names.length))
theorem sim_next_height (prog : Program) (w : World) : CallSim prog w 32 1 den_next_height :=
  CallSim.ofB (C := st_next_height) (args := ["front", "step", "height"]) hf_next_height (pk_next_height.2 prog w) (by intro doc pm an cdv ct xs h; obtain ⟨x0, x1, x2, rfl⟩ := len3 h rfl; rfl) rfl

/- 33: subresultants -/
noncomputable def info_subresultants : { p : Str × Arguments × List Stmt × Scope // fnAt 33 = some p } := ⟨_, rfl⟩
theorem hf_subresultants : fnAt 33 = some (("subresultants" : Str), info_subresultants.1.2.1, info_subresultants.1.2.2.1, info_subresultants.1.2.2.2) := rfl
noncomputable def st_subresultants : St := { scope := info_subresultants.1.2.2.2, names := ["a", "b", "row", "front", "height", "step", "rest"], own := [], room := 5, mode := 0 }
noncomputable def pk_subresultants : { g : List V → R // ∀ (prog : Program) (w : World), SimB prog w st_subresultants info_subresultants.1.2.2.1 g } := ⟨_, fun prog w =>
    (SimB.cons (SimS.ite (SimT.cmp (SimE.callB BSim.len (SimL.cons (SimE.var 0 rfl) SimL.nil (by intro _; rfl)) (by decide +kernel)) (SimE.callB BSim.len (SimL.cons (SimE.var 1 rfl) SimL.nil (by intro _; rfl)) (by decide +kernel))) (SimB.one (SimS.tupS (names := ["a", "b"]) [0, 1] (SimE.tup (SimL.cons (SimE.var 1 rfl) (SimL.cons (SimE.var 0 rfl) SimL.nil (by intro _; rfl)) (by intro _; rfl))) (fun d hd => (Stores.cons (x := "b") rfl (by decide +kernel) (fun h => bindName_ h) (Stores.cons (x := "a") rfl (by decide +kernel) (fun h => bindName_ h) Stores.nil))) rfl (hw := (by intro env h; cases env; cases h; rfl)))) SimB.nil)
    (SimB.thaw rfl (SimF.tupS (names := ["row", "front", "height"]) [2, 3, 4] (SimLF.here (SimEF.list (SimL.cons (SimE.callT BSim.list (SimL.cons (SimE.var 0 rfl) SimL.nil (by intro _; rfl)) (by decide +kernel)) (SimL.cons (SimE.callT BSim.list (SimL.cons (SimE.var 1 rfl) SimL.nil (by intro _; rfl)) (by decide +kernel)) SimL.nil (by intro _; rfl)) (by intro _; rfl))) (SimL.cons SimE.int (SimL.cons SimE.int SimL.nil (by intro _; rfl)) (by intro _; rfl))) (fun d hd => (Stores.cons (x := "height") rfl (by decide +kernel) (fun h => bindName_ h) (Stores.cons (x := "front") rfl (by decide +kernel) (fun h => bindName_ h) (Stores.cons (x := "row") rfl (by decide +kernel) (fun h => bindName_ h) Stores.nil)))) rfl (hw := (by intro env h; cases env; cases h; rfl)))
    (SimB.cons (SimS.while 200 (SimT.cmp (SimE.callB BSim.len (SimL.cons (SimE.var 1 rfl) SimL.nil (by intro _; rfl)) (by decide +kernel)) SimE.int) (SimB.cons (SimS.assign 5 (SimE.bin (SimE.callB BSim.len (SimL.cons (SimE.var 0 rfl) SimL.nil (by intro _; rfl)) (by decide +kernel)) (SimE.callB BSim.len (SimL.cons (SimE.var 1 rfl) SimL.nil (by intro _; rfl)) (by decide +kernel))) rfl)
    (SimB.cons (SimS.assign 6 (SimE.call (sim_zpseudo_rest prog w) (SimL.cons (SimE.var 0 rfl) (SimL.cons (SimE.var 1 rfl) SimL.nil (by intro _; rfl)) (by intro _; rfl)) (hf_zpseudo_rest)) rfl)
    (SimB.cons (SimS.ite (SimT.cmp (SimE.callB BSim.len (SimL.cons (SimE.var 6 rfl) SimL.nil (by intro _; rfl)) (by decide +kernel)) SimE.int) (SimB.freeze 2 (SimB.one (SimS.ret (SimE.var 2 rfl))) rfl) SimB.nil)
    (SimB.cons (SimS.tupS (names := ["a", "b"]) [0, 1] (SimE.tup (SimL.cons (SimE.var 1 rfl) (SimL.cons (SimE.call (sim_zdivided prog w) (SimL.cons (SimE.var 6 rfl) (SimL.cons (SimE.bin (SimE.var 3 rfl) (SimE.bin (SimE.var 4 rfl) (SimE.var 5 rfl))) SimL.nil (by intro _; rfl)) (by intro _; rfl)) (hf_zdivided)) SimL.nil (by intro _; rfl)) (by intro _; rfl))) (fun d hd => (Stores.cons (x := "b") rfl (by decide +kernel) (fun h => bindName_ h) (Stores.cons (x := "a") rfl (by decide +kernel) (fun h => bindName_ h) Stores.nil))) rfl (hw := (by intro env h; cases env; cases h; rfl)))
    (SimB.cons (SimS.append 2 rfl (SimE.var 1 rfl) rfl (hi := inter_fn))
    (SimB.cons (SimS.assign 3 (SimE.call (sim_zlead prog w) (SimL.cons (SimE.var 0 rfl) SimL.nil (by intro _; rfl)) (hf_zlead)) rfl)
    (SimB.one (SimS.assign 4 (SimE.call (sim_next_height prog w) (SimL.cons (SimE.var 3 rfl) (SimL.cons (SimE.var 5 rfl) (SimL.cons (SimE.var 4 rfl) SimL.nil (by intro _; rfl)) (by intro _; rfl)) (by intro _; rfl)) (hf_next_height)) rfl)))))))))
    (SimB.freeze 2 (SimB.one (SimS.ret (SimE.var 2 rfl))) rfl))))⟩
noncomputable def den_subresultants (vs : List V) : Option V := bodyV pk_subresultants.1 (placeArgs st_subresultants ["a", "b"] vs (unbs st_subresultants.names.length))
theorem sim_subresultants (prog : Program) (w : World) : CallSim prog w 33 6 den_subresultants :=
  CallSim.ofB (C := st_subresultants) (args := ["a", "b"]) hf_subresultants (pk_subresultants.2 prog w) (by intro doc pm an cdv ct xs h; obtain ⟨x0, x1, rfl⟩ := len2 h rfl; rfl) rfl

/- 34: zgcd -/
noncomputable def info_zgcd : { p : Str × Arguments × List Stmt × Scope // fnAt 34 = some p } := ⟨_, rfl⟩
theorem hf_zgcd : fnAt 34 = some (("zgcd" : Str), info_zgcd.1.2.1, info_zgcd.1.2.2.1, info_zgcd.1.2.2.2) := rfl
noncomputable def st_zgcd : St := { scope := info_zgcd.1.2.2.2, names := ["a", "b", "only", "number", "last"], own := [], room := 6, mode := 0 }
noncomputable def pk_zgcd : { g : List V → R // ∀ (prog : Program) (w : World), SimB prog w st_zgcd info_zgcd.1.2.2.1 g } := ⟨_, fun prog w =>
    (SimB.cons (SimS.ite (SimT.or (SimT.cmp (SimE.callB BSim.len (SimL.cons (SimE.var 0 rfl) SimL.nil (by intro _; rfl)) (by decide +kernel)) SimE.int) (SimT.or (SimT.cmp (SimE.callB BSim.len (SimL.cons (SimE.var 1 rfl) SimL.nil (by intro _; rfl)) (by decide +kernel)) SimE.int) SimT.or_nil)) (SimB.cons (SimS.assign 2 (SimE.ite (SimT.cmp (SimE.callB BSim.len (SimL.cons (SimE.var 0 rfl) SimL.nil (by intro _; rfl)) (by decide +kernel)) SimE.int) (SimE.var 1 rfl) (SimE.var 0 rfl)) rfl)
    (SimB.one (SimS.ret (SimE.call (sim_zscale prog w) (SimL.cons (SimE.call (sim_zprimitive prog w) (SimL.cons (SimE.var 2 rfl) SimL.nil (by intro _; rfl)) (hf_zprimitive)) (SimL.cons (SimE.call (sim_zcontent prog w) (SimL.cons (SimE.var 2 rfl) SimL.nil (by intro _; rfl)) (hf_zcontent)) SimL.nil (by intro _; rfl)) (by intro _; rfl)) (hf_zscale))))) SimB.nil)
    (SimB.cons (SimS.assign 3 (SimE.call (sim_gcd prog w) (SimL.cons (SimE.call (sim_zcontent prog w) (SimL.cons (SimE.var 0 rfl) SimL.nil (by intro _; rfl)) (hf_zcontent)) (SimL.cons (SimE.call (sim_zcontent prog w) (SimL.cons (SimE.var 1 rfl) SimL.nil (by intro _; rfl)) (hf_zcontent)) SimL.nil (by intro _; rfl)) (by intro _; rfl)) (hf_gcd)) rfl)
    (SimB.cons (SimS.assign 4 (SimE.item (SimE.call (sim_subresultants prog w) (SimL.cons (SimE.call (sim_zprimitive prog w) (SimL.cons (SimE.var 0 rfl) SimL.nil (by intro _; rfl)) (hf_zprimitive)) (SimL.cons (SimE.call (sim_zprimitive prog w) (SimL.cons (SimE.var 1 rfl) SimL.nil (by intro _; rfl)) (hf_zprimitive)) SimL.nil (by intro _; rfl)) (by intro _; rfl)) (hf_subresultants)) (SimE.neg SimE.int)) rfl)
    (SimB.one (SimS.ret (SimE.ite (SimT.cmp (SimE.callB BSim.len (SimL.cons (SimE.var 4 rfl) SimL.nil (by intro _; rfl)) (by decide +kernel)) SimE.int) (SimE.call (sim_zscale prog w) (SimL.cons (SimE.call (sim_zprimitive prog w) (SimL.cons (SimE.var 4 rfl) SimL.nil (by intro _; rfl)) (hf_zprimitive)) (SimL.cons (SimE.var 3 rfl) SimL.nil (by intro _; rfl)) (by intro _; rfl)) (hf_zscale)) (SimE.list (SimL.cons (SimE.var 3 rfl) SimL.nil (by intro _; rfl)))))))))⟩
noncomputable def den_zgcd (vs : List V) : Option V := bodyV pk_zgcd.1 (placeArgs st_zgcd ["a", "b"] vs (unbs st_zgcd.names.length))
theorem sim_zgcd (prog : Program) (w : World) : CallSim prog w 34 7 den_zgcd :=
  CallSim.ofB (C := st_zgcd) (args := ["a", "b"]) hf_zgcd (pk_zgcd.2 prog w) (by intro doc pm an cdv ct xs h; obtain ⟨x0, x1, rfl⟩ := len2 h rfl; rfl) rfl

/- 36: law_draw -/
noncomputable def info_law_draw : { p : Str × Arguments × List Stmt × Scope // fnAt 36 = some p } := ⟨_, rfl⟩
theorem hf_law_draw : fnAt 36 = some (("_law_draw" : Str), info_law_draw.1.2.1, info_law_draw.1.2.2.1, info_law_draw.1.2.2.2) := rfl
noncomputable def st_law_draw : St := { scope := info_law_draw.1.2.2.2, names := ["pool", "many", "spot"], own := [], room := 0, mode := 1 }
noncomputable def ps_law_draw_1 : { g : List V → R // ∀ (prog : Program) (w : World), SimS prog w st_law_draw (info_law_draw.1.2.2.1.headD (.Pass ⟨0, 0, 0, 0⟩)) g } := ⟨_, fun prog w => (SimS.assign 2 (SimE.itemM 0 SimE.int rfl) rfl)⟩
noncomputable def ps_law_draw_2 : { g : List V → R // ∀ (prog : Program) (w : World), SimS prog w st_law_draw (info_law_draw.1.2.2.1.tail.headD (.Pass ⟨0, 0, 0, 0⟩)) g } := ⟨_, fun prog w => (SimS.setM 0 rfl SimE.int (SimE.bin (SimE.var 2 rfl) SimE.int) rfl)⟩
noncomputable def ps_law_draw_3 : { g : List V → R // ∀ (prog : Program) (w : World), SimB prog w (st_law_draw.at 2) info_law_draw.1.2.2.1.tail.tail g } := ⟨_, fun prog w => (SimB.cons (SimS.ite (SimT.cmp (SimE.var 2 rfl) (SimE.callB BSim.len (SimL.cons (SimE.itemM 0 SimE.int rfl) SimL.nil (by intro _; rfl)) (by decide +kernel))) (SimB.one (SimS.ret (SimE.bin (SimE.callB BSim.abs (SimL.cons (SimE.item (SimE.itemM 0 SimE.int rfl) (SimE.var 2 rfl)) SimL.nil (by intro _; rfl)) (by decide +kernel)) (SimE.var 1 rfl)))) SimB.nil)
    (SimB.one (SimS.ret (SimE.bin (SimE.bin (SimE.bin SimE.int (SimE.var 2 rfl)) SimE.int) (SimE.var 1 rfl)))))⟩
theorem sim_law_draw (prog : Program) (w : World) : DrawSim prog w 36 1 (drawF st_law_draw ["pool", "many"] ps_law_draw_1.1 ps_law_draw_2.1 ps_law_draw_3.1 0) :=
  DrawSim.ofB (C := st_law_draw) (st1 := info_law_draw.1.2.2.1.headD (.Pass ⟨0, 0, 0, 0⟩)) (st2 := info_law_draw.1.2.2.1.tail.headD (.Pass ⟨0, 0, 0, 0⟩)) (rest := info_law_draw.1.2.2.1.tail.tail) (xp := "pool") 0 hf_law_draw (ps_law_draw_1.2 prog w) (ps_law_draw_2.2 prog w) (ps_law_draw_3.2 prog w) (by intro doc pm an cdv ct xs h; obtain ⟨x0, x1, rfl⟩ := len2 h rfl; rfl) rfl rfl

/- 37: law_less -/
noncomputable def info_law_less : { p : Str × Arguments × List Stmt × Scope // fnAt 37 = some p } := ⟨_, rfl⟩
theorem hf_law_less : fnAt 37 = some (("_law_less" : Str), info_law_less.1.2.1, info_law_less.1.2.2.1, info_law_less.1.2.2.2) := rfl
noncomputable def st_law_less : St := { scope := info_law_less.1.2.2.2, names := ["n"], own := [], room := 0, mode := 0 }
noncomputable def pk_law_less : { g : List V → R // ∀ (prog : Program) (w : World), SimB prog w st_law_less info_law_less.1.2.2.1 g } := ⟨_, fun prog w =>
    (SimB.one (SimS.ret (SimE.bin (SimE.bin (SimE.list (SimL.cons (SimE.neg SimE.int) SimL.nil (by intro _; rfl))) (SimE.bin (SimE.list (SimL.cons SimE.int SimL.nil (by intro _; rfl))) (SimE.bin (SimE.var 0 rfl) SimE.int))) (SimE.list (SimL.cons SimE.int SimL.nil (by intro _; rfl))))))⟩
noncomputable def den_law_less (vs : List V) : Option V := bodyV pk_law_less.1 (placeArgs st_law_less ["n"] vs (unbs st_law_less.names.length))
theorem sim_law_less (prog : Program) (w : World) : CallSim prog w 37 1 den_law_less :=
  CallSim.ofB (C := st_law_less) (args := ["n"]) hf_law_less (pk_law_less.2 prog w) (by intro doc pm an cdv ct xs h; obtain ⟨x0, rfl⟩ := len1 h rfl; rfl) rfl

/- 38: law_parts -/
noncomputable def info_law_parts : { p : Str × Arguments × List Stmt × Scope // fnAt 38 = some p } := ⟨_, rfl⟩
theorem hf_law_parts : fnAt 38 = some (("_law_parts" : Str), info_law_parts.1.2.1, info_law_parts.1.2.2.1, info_law_parts.1.2.2.2) := rfl
noncomputable def st_law_parts : St := { scope := info_law_parts.1.2.2.2, names := ["n", "found", "d", "row", "lesser"], own := [], room := 4, mode := 0 }
noncomputable def pk_law_parts : { g : List V → R // ∀ (prog : Program) (w : World), SimB prog w st_law_parts info_law_parts.1.2.2.1 g } := ⟨_, fun prog w =>
    (SimB.thaw rfl (SimF.assign 1 SimEF.dict rfl)
    (SimB.cons (SimS.for 2 (SimI.range (SimL.cons SimE.int (SimL.cons (SimE.bin (SimE.var 0 rfl) SimE.int) SimL.nil (by intro _; rfl)) (by intro _; rfl))) (SimB.one (SimS.ite (SimT.cmp (SimE.bin (SimE.var 0 rfl) (SimE.var 2 rfl)) SimE.int) (SimB.cons (SimS.assign 3 (SimE.call (sim_law_less prog w) (SimL.cons (SimE.var 2 rfl) SimL.nil (by intro _; rfl)) (hf_law_less)) rfl)
    (SimB.cons (SimS.quiet rfl (SimS.for 4 (SimI.keys 1 rfl rfl) (SimB.one (SimS.ite (SimT.and (SimT.cmp (SimE.bin (SimE.var 2 rfl) (SimE.var 4 rfl)) SimE.int) (SimT.and (SimT.cmp (SimE.var 3 rfl) SimE.noneC) (SimT.and (SimT.cmp (SimE.itemM 1 (SimE.var 4 rfl) rfl) SimE.noneC) SimT.and_nil))) (SimB.one (SimS.assign 3 (SimE.call (sim_zexact prog w) (SimL.cons (SimE.var 3 rfl) (SimL.cons (SimE.itemM 1 (SimE.var 4 rfl) rfl) SimL.nil (by intro _; rfl)) (by intro _; rfl)) (hf_zexact)) rfl)) SimB.nil)) rfl))
    (SimB.one (SimS.setM 1 rfl (SimE.var 2 rfl) (SimE.var 3 rfl) rfl)))) SimB.nil)) rfl)
    (SimB.freeze 1 (SimB.one (SimS.ret (SimE.var 1 rfl))) rfl)))⟩
noncomputable def den_law_parts (vs : List V) : Option V := bodyV pk_law_parts.1 (placeArgs st_law_parts ["n"] vs (unbs st_law_parts.names.length))
theorem sim_law_parts (prog : Program) (w : World) : CallSim prog w 38 5 den_law_parts :=
  CallSim.ofB (C := st_law_parts) (args := ["n"]) hf_law_parts (pk_law_parts.2 prog w) (by intro doc pm an cdv ct xs h; obtain ⟨x0, rfl⟩ := len1 h rfl; rfl) rfl

/- 39: law_primes -/
noncomputable def info_law_primes : { p : Str × Arguments × List Stmt × Scope // fnAt 39 = some p } := ⟨_, rfl⟩
theorem hf_law_primes : fnAt 39 = some (("_law_primes" : Str), info_law_primes.1.2.1, info_law_primes.1.2.2.1, info_law_primes.1.2.2.2) := rfl
noncomputable def st_law_primes : St := { scope := info_law_primes.1.2.2.2, names := ["n"], own := ["n"], room := 0, mode := 0 }
noncomputable def pk_law_primes : { g : List V → R // ∀ (prog : Program) (w : World), SimB prog w st_law_primes info_law_primes.1.2.2.1 g } := ⟨_, fun prog w =>
    (SimB.one (SimS.ret (SimE.compJ [0] ["p"] (SimI.range (SimL.cons SimE.int (SimL.cons (SimE.bin (SimE.var 0 rfl) SimE.int) SimL.nil (by intro _; rfl)) (by intro _; rfl))) (SimTs.one (SimT.and (SimT.cmp (SimE.bin (SimE.var 1 rfl) (SimE.var 0 rfl)) SimE.int) (SimT.and (SimT.cmp (SimE.compJ [0] [] (SimI.range (SimL.cons SimE.int (SimL.cons (SimE.var 0 rfl) SimL.nil (by intro _; rfl)) (by intro _; rfl))) (SimTs.one (SimT.cmp (SimE.bin (SimE.var 1 rfl) (SimE.var 0 rfl)) SimE.int)) SimE.int) (SimE.list SimL.nil)) SimT.and_nil))) (SimE.var 0 rfl))))⟩
noncomputable def den_law_primes (vs : List V) : Option V := bodyV pk_law_primes.1 (placeArgs st_law_primes ["n"] vs (unbs st_law_primes.names.length))
theorem sim_law_primes (prog : Program) (w : World) : CallSim prog w 39 1 den_law_primes :=
  CallSim.ofB (C := st_law_primes) (args := ["n"]) hf_law_primes (pk_law_primes.2 prog w) (by intro doc pm an cdv ct xs h; obtain ⟨x0, rfl⟩ := len1 h rfl; rfl) rfl

/- 40: law_over -/
noncomputable def info_law_over : { p : Str × Arguments × List Stmt × Scope // fnAt 40 = some p } := ⟨_, rfl⟩
theorem hf_law_over : fnAt 40 = some (("_law_over" : Str), info_law_over.1.2.1, info_law_over.1.2.2.1, info_law_over.1.2.2.2) := rfl
noncomputable def st_law_over : St := { scope := info_law_over.1.2.2.2, names := ["m", "n", "primes"], own := [], room := 1, mode := 0 }
noncomputable def pk_law_over : { g : List V → R // ∀ (prog : Program) (w : World), SimB prog w st_law_over info_law_over.1.2.2.1 g } := ⟨_, fun prog w =>
    (SimB.cons (SimS.assign 2 (SimE.ite (SimT.cmp (SimE.bin (SimE.var 1 rfl) (SimE.var 0 rfl)) SimE.int) (SimE.call (sim_law_primes prog w) (SimL.cons (SimE.bin (SimE.var 1 rfl) (SimE.var 0 rfl)) SimL.nil (by intro _; rfl)) (hf_law_primes)) (SimE.list SimL.nil)) rfl)
    (SimB.one (SimS.ret (SimE.ite (SimT.cmp (SimE.callB BSim.len (SimL.cons (SimE.var 2 rfl) SimL.nil (by intro _; rfl)) (by decide +kernel)) SimE.int) (SimE.item (SimE.var 2 rfl) SimE.int) SimE.int))))⟩
noncomputable def den_law_over (vs : List V) : Option V := bodyV pk_law_over.1 (placeArgs st_law_over ["m", "n"] vs (unbs st_law_over.names.length))
theorem sim_law_over (prog : Program) (w : World) : CallSim prog w 40 2 den_law_over :=
  CallSim.ofB (C := st_law_over) (args := ["m", "n"]) hf_law_over (pk_law_over.2 prog w) (by intro doc pm an cdv ct xs h; obtain ⟨x0, x1, rfl⟩ := len2 h rfl; rfl) rfl

end
end Mine

/- GT -/

namespace Mine
section
set_option maxHeartbeats 4000000

noncomputable def tabL : List V := [
  .dict [1] [.list [.int (-1), .int 1]],
  .dict [1, 2] [.list [.int (-1), .int 1], .list [.int 1, .int 1]],
  .dict [1, 3] [.list [.int (-1), .int 1], .list [.int 1, .int 1, .int 1]],
  .dict [1, 2, 4] [.list [.int (-1), .int 1], .list [.int 1, .int 1], .list [.int 1, .int 0, .int 1]],
  .dict [1, 5] [.list [.int (-1), .int 1], .list [.int 1, .int 1, .int 1, .int 1, .int 1]],
  .dict [1, 2, 3, 6] [.list [.int (-1), .int 1], .list [.int 1, .int 1], .list [.int 1, .int 1, .int 1], .list [.int 1, .int (-1), .int 1]],
  .dict [1, 7] [.list [.int (-1), .int 1], .list [.int 1, .int 1, .int 1, .int 1, .int 1, .int 1, .int 1]],
  .dict [1, 2, 4, 8] [.list [.int (-1), .int 1], .list [.int 1, .int 1], .list [.int 1, .int 0, .int 1], .list [.int 1, .int 0, .int 0, .int 0, .int 1]],
  .dict [1, 3, 9] [.list [.int (-1), .int 1], .list [.int 1, .int 1, .int 1], .list [.int 1, .int 0, .int 0, .int 1, .int 0, .int 0, .int 1]],
  .dict [1, 2, 5, 10] [.list [.int (-1), .int 1], .list [.int 1, .int 1], .list [.int 1, .int 1, .int 1, .int 1, .int 1], .list [.int 1, .int (-1), .int 1, .int (-1), .int 1]],
  .dict [1, 11] [.list [.int (-1), .int 1], .list [.int 1, .int 1, .int 1, .int 1, .int 1, .int 1, .int 1, .int 1, .int 1, .int 1, .int 1]],
  .dict [1, 2, 3, 4, 6, 12] [.list [.int (-1), .int 1], .list [.int 1, .int 1], .list [.int 1, .int 1, .int 1], .list [.int 1, .int 0, .int 1], .list [.int 1, .int (-1), .int 1], .list [.int 1, .int 0, .int (-1), .int 0, .int 1]]]
noncomputable def tabParts : List V → Option V
  | [.int (.ofNat (k + 1))] => tabL[k]?
  | _ => none
theorem parts_1 : den_law_parts [.int 1] = tabParts [.int 1] := by kernel_rfl
theorem parts_2 : den_law_parts [.int 2] = tabParts [.int 2] := by kernel_rfl
theorem parts_3 : den_law_parts [.int 3] = tabParts [.int 3] := by kernel_rfl
theorem parts_4 : den_law_parts [.int 4] = tabParts [.int 4] := by kernel_rfl
theorem parts_5 : den_law_parts [.int 5] = tabParts [.int 5] := by kernel_rfl
theorem parts_6 : den_law_parts [.int 6] = tabParts [.int 6] := by kernel_rfl
theorem parts_7 : den_law_parts [.int 7] = tabParts [.int 7] := by kernel_rfl
theorem parts_8 : den_law_parts [.int 8] = tabParts [.int 8] := by kernel_rfl
theorem parts_9 : den_law_parts [.int 9] = tabParts [.int 9] := by kernel_rfl
theorem parts_10 : den_law_parts [.int 10] = tabParts [.int 10] := by kernel_rfl
theorem parts_11 : den_law_parts [.int 11] = tabParts [.int 11] := by kernel_rfl
theorem parts_12 : den_law_parts [.int 12] = tabParts [.int 12] := by kernel_rfl
theorem tabParts_ok (vs : List V) (r : V) (h : tabParts vs = some r) : den_law_parts vs = some r := by
  unfold tabParts at h
  split at h
  · rename_i k
    match k, h with
    | 0, h => exact parts_1.trans h
    | 1, h => exact parts_2.trans h
    | 2, h => exact parts_3.trans h
    | 3, h => exact parts_4.trans h
    | 4, h => exact parts_5.trans h
    | 5, h => exact parts_6.trans h
    | 6, h => exact parts_7.trans h
    | 7, h => exact parts_8.trans h
    | 8, h => exact parts_9.trans h
    | 9, h => exact parts_10.trans h
    | 10, h => exact parts_11.trans h
    | 11, h => exact parts_12.trans h
    | k + 12, h => cases h
  · cases h
theorem sim_law_partsT (prog : Program) (w : World) : CallSim prog w 38 5 tabParts := (sim_law_parts prog w).weaken tabParts_ok
end
end Mine

/- G2 -/

namespace Mine
section
set_option maxHeartbeats 4000000

/- 41: law -/
noncomputable def info_law : { p : Str × Arguments × List Stmt × Scope // fnAt 41 = some p } := ⟨_, rfl⟩
theorem hf_law : fnAt 41 = some (("law" : Str), info_law.1.2.1, info_law.1.2.2.1, info_law.1.2.2.2) := rfl
noncomputable def st_law : St := { scope := info_law.1.2.2.2, names := ["script", "pool", "n", "m", "one", "other", "share", "size", "bottom", "p"], own := ["n", "m"], room := 8, mode := 0 }
noncomputable def pl_1 : { g : List V → Option (List V) // ∀ (prog : Program) (w : World), SimF prog w st_law (info_law.1.2.2.1.headD (.Pass ⟨0, 0, 0, 0⟩)) g } := ⟨_, fun prog w => (SimF.assign 1 (SimEF.list (SimL.cons (SimE.compJ [] [] (SimI.list (SimE.upto (SimE.var 0 rfl) SimE.int)) SimTs.nil (SimE.callT BSim.int (SimL.cons (SimE.var 0 rfl) SimL.nil (by intro _; rfl)) (by decide +kernel))) (SimL.cons SimE.int SimL.nil (by intro _; rfl)) (by intro _; rfl))) rfl)⟩
noncomputable def pl_2 : { g : List V → R // ∀ (prog : Program) (w : World), SimS prog w (st_law.at 1) (info_law.1.2.2.1.tail.headD (.Pass ⟨0, 0, 0, 0⟩)) g } := ⟨_, fun prog w => (SimS.assignM 2 (SimM.item (SimE.tup (SimL.cons SimE.int (SimL.cons SimE.int (SimL.cons SimE.int (SimL.cons SimE.int (SimL.cons SimE.int (SimL.cons SimE.int (SimL.cons SimE.int (SimL.cons SimE.int (SimL.cons SimE.int SimL.nil (by intro _; rfl)) (by intro _; rfl)) (by intro _; rfl)) (by intro _; rfl)) (by intro _; rfl)) (by intro _; rfl)) (by intro _; rfl)) (by intro _; rfl)) (by intro _; rfl))) (SimM.draw (j := 1) (sim_law_draw prog w) SimE.int rfl (hf_law_draw) rfl)) rfl)⟩
noncomputable def pl_3 : { g : List V → R // ∀ (prog : Program) (w : World), SimS prog w (st_law.at 1) (info_law.1.2.2.1.tail.tail.headD (.Pass ⟨0, 0, 0, 0⟩)) g } := ⟨_, fun prog w => (SimS.assignM 3 (SimM.bin SimE.int (SimM.draw (j := 1) (sim_law_draw prog w) (SimE.bin (SimE.var 2 rfl) SimE.int) rfl (hf_law_draw) rfl)) rfl)⟩
noncomputable def pl_4 : { g : List V → R // ∀ (prog : Program) (w : World), SimB prog w (st_law.at 1) info_law.1.2.2.1.tail.tail.tail g } := ⟨_, fun prog w =>
    (SimB.cons (SimS.tupS (names := ["one", "other"]) [4, 5] (SimE.tup (SimL.cons (SimE.item (SimE.call (sim_law_partsT prog w) (SimL.cons (SimE.var 3 rfl) SimL.nil (by intro _; rfl)) (hf_law_parts)) (SimE.var 3 rfl)) (SimL.cons (SimE.item (SimE.call (sim_law_partsT prog w) (SimL.cons (SimE.var 2 rfl) SimL.nil (by intro _; rfl)) (hf_law_parts)) (SimE.var 2 rfl)) SimL.nil (by intro _; rfl)) (by intro _; rfl))) (fun d hd => (Stores.cons (x := "other") rfl (by decide +kernel) (fun h => bindName_ h) (Stores.cons (x := "one") rfl (by decide +kernel) (fun h => bindName_ h) Stores.nil))) rfl (hw := (by intro env h; cases env; cases h; rfl)))
    (SimB.cons (SimS.ite (SimT.or (SimT.cmp (SimE.var 4 rfl) SimE.noneC) (SimT.or (SimT.cmp (SimE.var 5 rfl) SimE.noneC) SimT.or_nil)) (SimB.one (SimS.ret SimE.bool)) SimB.nil)
    (SimB.cons (SimS.assign 6 (SimE.item (SimE.compJ [3, 2] [] (SimI.range (SimL.cons SimE.int (SimL.cons (SimE.bin (SimE.var 3 rfl) SimE.int) SimL.nil (by intro _; rfl)) (by intro _; rfl))) (SimTs.one (SimT.and (SimT.cmp (SimE.bin (SimE.var 1 rfl) (SimE.var 0 rfl)) SimE.int) (SimT.and (SimT.cmp (SimE.bin (SimE.var 2 rfl) (SimE.var 0 rfl)) SimE.int) SimT.and_nil))) (SimE.var 0 rfl)) (SimE.neg SimE.int)) rfl)
    (SimB.cons (SimS.ite (SimT.cmp (SimE.call (sim_zgcd prog w) (SimL.cons (SimE.call (sim_law_less prog w) (SimL.cons (SimE.var 3 rfl) SimL.nil (by intro _; rfl)) (hf_law_less)) (SimL.cons (SimE.call (sim_law_less prog w) (SimL.cons (SimE.var 2 rfl) SimL.nil (by intro _; rfl)) (hf_law_less)) SimL.nil (by intro _; rfl)) (by intro _; rfl)) (hf_zgcd)) (SimE.call (sim_law_less prog w) (SimL.cons (SimE.var 6 rfl) SimL.nil (by intro _; rfl)) (hf_law_less))) (SimB.one (SimS.ret SimE.bool)) SimB.nil)
    (SimB.cons (SimS.ite (SimT.cmp (SimE.call (sim_resultant prog w) (SimL.cons (SimE.var 4 rfl) (SimL.cons (SimE.var 5 rfl) SimL.nil (by intro _; rfl)) (by intro _; rfl)) (hf_resultant)) (SimE.bin (SimE.call (sim_law_over prog w) (SimL.cons (SimE.var 3 rfl) (SimL.cons (SimE.var 2 rfl) SimL.nil (by intro _; rfl)) (by intro _; rfl)) (hf_law_over)) (SimE.bin (SimE.callB BSim.len (SimL.cons (SimE.var 4 rfl) SimL.nil (by intro _; rfl)) (by decide +kernel)) SimE.int))) (SimB.one (SimS.ret SimE.bool)) SimB.nil)
    (SimB.cons (SimS.tupS (names := ["size", "bottom"]) [7, 8] (SimE.tup (SimL.cons (SimE.bin (SimE.callB BSim.len (SimL.cons (SimE.var 5 rfl) SimL.nil (by intro _; rfl)) (by decide +kernel)) SimE.int) (SimL.cons SimE.int SimL.nil (by intro _; rfl)) (by intro _; rfl))) (fun d hd => (Stores.cons (x := "bottom") rfl (by decide +kernel) (fun h => bindName_ h) (Stores.cons (x := "size") rfl (by decide +kernel) (fun h => bindName_ h) Stores.nil))) rfl (hw := (by intro env h; cases env; cases h; rfl)))
    (SimB.cons (SimS.for 9 (SimI.list (SimE.call (sim_law_primes prog w) (SimL.cons (SimE.var 2 rfl) SimL.nil (by intro _; rfl)) (hf_law_primes))) (SimB.one (SimS.assign 8 (SimE.bin (SimE.var 8 rfl) (SimE.bin (SimE.var 9 rfl) (SimE.bin (SimE.var 7 rfl) (SimE.bin (SimE.var 9 rfl) SimE.int)))) rfl)) rfl)
    (SimB.cons (SimS.ite (SimT.cmp (SimE.bin (SimE.call (sim_discriminant prog w) (SimL.cons (SimE.var 5 rfl) SimL.nil (by intro _; rfl)) (hf_discriminant)) (SimE.var 8 rfl)) (SimE.bin (SimE.bin (SimE.neg SimE.int) (SimE.bin (SimE.var 7 rfl) SimE.int)) (SimE.bin (SimE.var 2 rfl) (SimE.var 7 rfl)))) (SimB.one (SimS.ret SimE.bool)) SimB.nil)
    (SimB.one (SimS.ret (SimE.and2 (SimE.cmp (SimE.call (sim_zreversed prog w) (SimL.cons (SimE.var 5 rfl) SimL.nil (by intro _; rfl)) (hf_zreversed)) (SimE.var 5 rfl)) (SimE.cmp (SimE.call (sim_zat prog w) (SimL.cons (SimE.var 5 rfl) (SimL.cons SimE.int SimL.nil (by intro _; rfl)) (by intro _; rfl)) (hf_zat)) (SimE.call (sim_law_over prog w) (SimL.cons SimE.int (SimL.cons (SimE.var 2 rfl) SimL.nil (by intro _; rfl)) (by intro _; rfl)) (hf_law_over))))))))))))))⟩
noncomputable def gl (σ : List V) : R := retR (pl_1.1 σ) fun σ => seqR (pl_2.1 σ) fun σ => seqR (pl_3.1 σ) pl_4.1
noncomputable def den_law (vs : List V) : Option V := bodyV gl (placeArgs st_law ["script"] vs (unbs st_law.names.length))
theorem sim_law (prog : Program) (w : World) : CallSim prog w 41 9 den_law :=
  CallSim.ofB (C := st_law) (args := ["script"]) hf_law (show SimB prog w st_law (info_law.1.2.2.1.headD (.Pass ⟨0, 0, 0, 0⟩) :: info_law.1.2.2.1.tail.headD (.Pass ⟨0, 0, 0, 0⟩) :: info_law.1.2.2.1.tail.tail.headD (.Pass ⟨0, 0, 0, 0⟩) :: info_law.1.2.2.1.tail.tail.tail) gl from SimB.thaw rfl (pl_1.2 prog w) (SimB.cons (pl_2.2 prog w) (SimB.cons (pl_3.2 prog w) (pl_4.2 prog w)))) (by intro doc pm an cdv ct xs h; obtain ⟨x0, rfl⟩ := len1 h rfl; rfl) rfl

end
end Mine

/- GP -/

namespace Mine
section
set_option maxHeartbeats 4000000

theorem rest_3_1 (sc : V) (us : List V) : pl_4.1 [sc, .mlist us, .int 3, .int 1, .unb, .unb, .unb, .unb, .unb, .unb] = .ret (.bool true) := by kernel_rfl
theorem rest_3_2 (sc : V) (us : List V) : pl_4.1 [sc, .mlist us, .int 3, .int 2, .unb, .unb, .unb, .unb, .unb, .unb] = .ret (.bool true) := by kernel_rfl
theorem rest_4_1 (sc : V) (us : List V) : pl_4.1 [sc, .mlist us, .int 4, .int 1, .unb, .unb, .unb, .unb, .unb, .unb] = .ret (.bool true) := by kernel_rfl
theorem rest_4_2 (sc : V) (us : List V) : pl_4.1 [sc, .mlist us, .int 4, .int 2, .unb, .unb, .unb, .unb, .unb, .unb] = .ret (.bool true) := by kernel_rfl
theorem rest_4_3 (sc : V) (us : List V) : pl_4.1 [sc, .mlist us, .int 4, .int 3, .unb, .unb, .unb, .unb, .unb, .unb] = .ret (.bool true) := by kernel_rfl
theorem rest_5_1 (sc : V) (us : List V) : pl_4.1 [sc, .mlist us, .int 5, .int 1, .unb, .unb, .unb, .unb, .unb, .unb] = .ret (.bool true) := by kernel_rfl
theorem rest_5_2 (sc : V) (us : List V) : pl_4.1 [sc, .mlist us, .int 5, .int 2, .unb, .unb, .unb, .unb, .unb, .unb] = .ret (.bool true) := by kernel_rfl
theorem rest_5_3 (sc : V) (us : List V) : pl_4.1 [sc, .mlist us, .int 5, .int 3, .unb, .unb, .unb, .unb, .unb, .unb] = .ret (.bool true) := by kernel_rfl
theorem rest_5_4 (sc : V) (us : List V) : pl_4.1 [sc, .mlist us, .int 5, .int 4, .unb, .unb, .unb, .unb, .unb, .unb] = .ret (.bool true) := by kernel_rfl
theorem rest_12_1 (sc : V) (us : List V) : pl_4.1 [sc, .mlist us, .int 12, .int 1, .unb, .unb, .unb, .unb, .unb, .unb] = .ret (.bool true) := by kernel_rfl
theorem rest_12_2 (sc : V) (us : List V) : pl_4.1 [sc, .mlist us, .int 12, .int 2, .unb, .unb, .unb, .unb, .unb, .unb] = .ret (.bool true) := by kernel_rfl
theorem rest_12_3 (sc : V) (us : List V) : pl_4.1 [sc, .mlist us, .int 12, .int 3, .unb, .unb, .unb, .unb, .unb, .unb] = .ret (.bool true) := by kernel_rfl
theorem rest_12_4 (sc : V) (us : List V) : pl_4.1 [sc, .mlist us, .int 12, .int 4, .unb, .unb, .unb, .unb, .unb, .unb] = .ret (.bool true) := by kernel_rfl
theorem rest_12_5 (sc : V) (us : List V) : pl_4.1 [sc, .mlist us, .int 12, .int 5, .unb, .unb, .unb, .unb, .unb, .unb] = .ret (.bool true) := by kernel_rfl
theorem rest_12_6 (sc : V) (us : List V) : pl_4.1 [sc, .mlist us, .int 12, .int 6, .unb, .unb, .unb, .unb, .unb, .unb] = .ret (.bool true) := by kernel_rfl
theorem rest_12_7 (sc : V) (us : List V) : pl_4.1 [sc, .mlist us, .int 12, .int 7, .unb, .unb, .unb, .unb, .unb, .unb] = .ret (.bool true) := by kernel_rfl
theorem rest_12_8 (sc : V) (us : List V) : pl_4.1 [sc, .mlist us, .int 12, .int 8, .unb, .unb, .unb, .unb, .unb, .unb] = .ret (.bool true) := by kernel_rfl
theorem rest_12_9 (sc : V) (us : List V) : pl_4.1 [sc, .mlist us, .int 12, .int 9, .unb, .unb, .unb, .unb, .unb, .unb] = .ret (.bool true) := by kernel_rfl
theorem rest_12_10 (sc : V) (us : List V) : pl_4.1 [sc, .mlist us, .int 12, .int 10, .unb, .unb, .unb, .unb, .unb, .unb] = .ret (.bool true) := by kernel_rfl
theorem rest_12_11 (sc : V) (us : List V) : pl_4.1 [sc, .mlist us, .int 12, .int 11, .unb, .unb, .unb, .unb, .unb, .unb] = .ret (.bool true) := by kernel_rfl
theorem rest_6_1 (sc : V) (us : List V) : pl_4.1 [sc, .mlist us, .int 6, .int 1, .unb, .unb, .unb, .unb, .unb, .unb] = .ret (.bool true) := by kernel_rfl
theorem rest_6_2 (sc : V) (us : List V) : pl_4.1 [sc, .mlist us, .int 6, .int 2, .unb, .unb, .unb, .unb, .unb, .unb] = .ret (.bool true) := by kernel_rfl
theorem rest_6_3 (sc : V) (us : List V) : pl_4.1 [sc, .mlist us, .int 6, .int 3, .unb, .unb, .unb, .unb, .unb, .unb] = .ret (.bool true) := by kernel_rfl
theorem rest_6_4 (sc : V) (us : List V) : pl_4.1 [sc, .mlist us, .int 6, .int 4, .unb, .unb, .unb, .unb, .unb, .unb] = .ret (.bool true) := by kernel_rfl
theorem rest_6_5 (sc : V) (us : List V) : pl_4.1 [sc, .mlist us, .int 6, .int 5, .unb, .unb, .unb, .unb, .unb, .unb] = .ret (.bool true) := by kernel_rfl
theorem rest_7_1 (sc : V) (us : List V) : pl_4.1 [sc, .mlist us, .int 7, .int 1, .unb, .unb, .unb, .unb, .unb, .unb] = .ret (.bool true) := by kernel_rfl
theorem rest_7_2 (sc : V) (us : List V) : pl_4.1 [sc, .mlist us, .int 7, .int 2, .unb, .unb, .unb, .unb, .unb, .unb] = .ret (.bool true) := by kernel_rfl
theorem rest_7_3 (sc : V) (us : List V) : pl_4.1 [sc, .mlist us, .int 7, .int 3, .unb, .unb, .unb, .unb, .unb, .unb] = .ret (.bool true) := by kernel_rfl
theorem rest_7_4 (sc : V) (us : List V) : pl_4.1 [sc, .mlist us, .int 7, .int 4, .unb, .unb, .unb, .unb, .unb, .unb] = .ret (.bool true) := by kernel_rfl
theorem rest_7_5 (sc : V) (us : List V) : pl_4.1 [sc, .mlist us, .int 7, .int 5, .unb, .unb, .unb, .unb, .unb, .unb] = .ret (.bool true) := by kernel_rfl
theorem rest_7_6 (sc : V) (us : List V) : pl_4.1 [sc, .mlist us, .int 7, .int 6, .unb, .unb, .unb, .unb, .unb, .unb] = .ret (.bool true) := by kernel_rfl
theorem rest_8_1 (sc : V) (us : List V) : pl_4.1 [sc, .mlist us, .int 8, .int 1, .unb, .unb, .unb, .unb, .unb, .unb] = .ret (.bool true) := by kernel_rfl
theorem rest_8_2 (sc : V) (us : List V) : pl_4.1 [sc, .mlist us, .int 8, .int 2, .unb, .unb, .unb, .unb, .unb, .unb] = .ret (.bool true) := by kernel_rfl
theorem rest_8_3 (sc : V) (us : List V) : pl_4.1 [sc, .mlist us, .int 8, .int 3, .unb, .unb, .unb, .unb, .unb, .unb] = .ret (.bool true) := by kernel_rfl
theorem rest_8_4 (sc : V) (us : List V) : pl_4.1 [sc, .mlist us, .int 8, .int 4, .unb, .unb, .unb, .unb, .unb, .unb] = .ret (.bool true) := by kernel_rfl
theorem rest_8_5 (sc : V) (us : List V) : pl_4.1 [sc, .mlist us, .int 8, .int 5, .unb, .unb, .unb, .unb, .unb, .unb] = .ret (.bool true) := by kernel_rfl
theorem rest_8_6 (sc : V) (us : List V) : pl_4.1 [sc, .mlist us, .int 8, .int 6, .unb, .unb, .unb, .unb, .unb, .unb] = .ret (.bool true) := by kernel_rfl
theorem rest_8_7 (sc : V) (us : List V) : pl_4.1 [sc, .mlist us, .int 8, .int 7, .unb, .unb, .unb, .unb, .unb, .unb] = .ret (.bool true) := by kernel_rfl
theorem rest_9_1 (sc : V) (us : List V) : pl_4.1 [sc, .mlist us, .int 9, .int 1, .unb, .unb, .unb, .unb, .unb, .unb] = .ret (.bool true) := by kernel_rfl
theorem rest_9_2 (sc : V) (us : List V) : pl_4.1 [sc, .mlist us, .int 9, .int 2, .unb, .unb, .unb, .unb, .unb, .unb] = .ret (.bool true) := by kernel_rfl
theorem rest_9_3 (sc : V) (us : List V) : pl_4.1 [sc, .mlist us, .int 9, .int 3, .unb, .unb, .unb, .unb, .unb, .unb] = .ret (.bool true) := by kernel_rfl
theorem rest_9_4 (sc : V) (us : List V) : pl_4.1 [sc, .mlist us, .int 9, .int 4, .unb, .unb, .unb, .unb, .unb, .unb] = .ret (.bool true) := by kernel_rfl
theorem rest_9_5 (sc : V) (us : List V) : pl_4.1 [sc, .mlist us, .int 9, .int 5, .unb, .unb, .unb, .unb, .unb, .unb] = .ret (.bool true) := by kernel_rfl
theorem rest_9_6 (sc : V) (us : List V) : pl_4.1 [sc, .mlist us, .int 9, .int 6, .unb, .unb, .unb, .unb, .unb, .unb] = .ret (.bool true) := by kernel_rfl
theorem rest_9_7 (sc : V) (us : List V) : pl_4.1 [sc, .mlist us, .int 9, .int 7, .unb, .unb, .unb, .unb, .unb, .unb] = .ret (.bool true) := by kernel_rfl
theorem rest_9_8 (sc : V) (us : List V) : pl_4.1 [sc, .mlist us, .int 9, .int 8, .unb, .unb, .unb, .unb, .unb, .unb] = .ret (.bool true) := by kernel_rfl
theorem rest_10_1 (sc : V) (us : List V) : pl_4.1 [sc, .mlist us, .int 10, .int 1, .unb, .unb, .unb, .unb, .unb, .unb] = .ret (.bool true) := by kernel_rfl
theorem rest_10_2 (sc : V) (us : List V) : pl_4.1 [sc, .mlist us, .int 10, .int 2, .unb, .unb, .unb, .unb, .unb, .unb] = .ret (.bool true) := by kernel_rfl
theorem rest_10_3 (sc : V) (us : List V) : pl_4.1 [sc, .mlist us, .int 10, .int 3, .unb, .unb, .unb, .unb, .unb, .unb] = .ret (.bool true) := by kernel_rfl
theorem rest_10_4 (sc : V) (us : List V) : pl_4.1 [sc, .mlist us, .int 10, .int 4, .unb, .unb, .unb, .unb, .unb, .unb] = .ret (.bool true) := by kernel_rfl
theorem rest_10_5 (sc : V) (us : List V) : pl_4.1 [sc, .mlist us, .int 10, .int 5, .unb, .unb, .unb, .unb, .unb, .unb] = .ret (.bool true) := by kernel_rfl
theorem rest_10_6 (sc : V) (us : List V) : pl_4.1 [sc, .mlist us, .int 10, .int 6, .unb, .unb, .unb, .unb, .unb, .unb] = .ret (.bool true) := by kernel_rfl
theorem rest_10_7 (sc : V) (us : List V) : pl_4.1 [sc, .mlist us, .int 10, .int 7, .unb, .unb, .unb, .unb, .unb, .unb] = .ret (.bool true) := by kernel_rfl
theorem rest_10_8 (sc : V) (us : List V) : pl_4.1 [sc, .mlist us, .int 10, .int 8, .unb, .unb, .unb, .unb, .unb, .unb] = .ret (.bool true) := by kernel_rfl
theorem rest_10_9 (sc : V) (us : List V) : pl_4.1 [sc, .mlist us, .int 10, .int 9, .unb, .unb, .unb, .unb, .unb, .unb] = .ret (.bool true) := by kernel_rfl

noncomputable def dig (us : List Int) (k : Int) (many : Int) : Int := Int.fmod (match us[k.toNat]? with
  | some a => if a < 0 then -a else a
  | none => 5 * k + 4) many
theorem dig_lt (us : List Int) (k many : Int) (h : 0 < many) : 0 ≤ dig us k many ∧ dig us k many < many := ⟨Int.fmod_nonneg_of_pos _ h, Int.fmod_lt_of_pos _ h⟩
/-- the first statement: the first four of the script -/
theorem first (us : List Int) : pl_1.1 [.list (us.map .int), .unb, .unb, .unb, .unb, .unb, .unb, .unb, .unb, .unb] = some [.list (us.map .int), .mlist [.list ((us.take 4).map .int), .int 0], .unb, .unb, .unb, .unb, .unb, .unb, .unb, .unb] := by
  match us with
  | [] => kernel_rfl
  | [a] => kernel_rfl
  | [a, b] => kernel_rfl
  | [a, b, c] => kernel_rfl
  | a :: b :: c :: d :: r => kernel_rfl
noncomputable def menu : List V := [.int 3, .int 4, .int 5, .int 12, .int 6, .int 7, .int 8, .int 9, .int 10]
noncomputable def second (sc us : List V) (x : V) : R := match binM (some (.tup menu)) (some (x, [.list sc, .mlist [.list us, .int 1], .unb, .unb, .unb, .unb, .unb, .unb, .unb, .unb])) idxV with
  | some (v, σ') => .next (σ'.set 2 v)
  | none => .bad
theorem draw1 (sc : List V) (us : List Int) (h : us.length ≤ 4) : pl_2.1 [.list sc, .mlist [.list (us.map .int), .int 0], .unb, .unb, .unb, .unb, .unb, .unb, .unb, .unb] = second sc (us.map .int) (.int (dig us 0 9)) := by
  match us, h with
  | [], _ => kernel_rfl
  | [a], _ => kernel_rfl
  | [a, b], _ => kernel_rfl
  | [a, b, c], _ => kernel_rfl
  | [a, b, c, d], _ => kernel_rfl
  | _ :: _ :: _ :: _ :: _ :: _, h => exact absurd h (by simp)
theorem draw2_3 (sc : List V) (us : List Int) (h : us.length ≤ 4) : pl_3.1 [.list sc, .mlist [.list (us.map .int), .int 1], .int 3, .unb, .unb, .unb, .unb, .unb, .unb, .unb] = .next [.list sc, .mlist [.list (us.map .int), .int 2], .int 3, .int (1 + dig us 1 2), .unb, .unb, .unb, .unb, .unb, .unb] := by
  match us, h with
  | [], _ => kernel_rfl
  | [a], _ => kernel_rfl
  | [a, b], _ => kernel_rfl
  | [a, b, c], _ => kernel_rfl
  | [a, b, c, d], _ => kernel_rfl
  | _ :: _ :: _ :: _ :: _ :: _, h => exact absurd h (by simp)
theorem last_3 (sc : List V) (us : List Int) (h : us.length ≤ 4) : seqR (pl_3.1 [.list sc, .mlist [.list (us.map .int), .int 1], .int 3, .unb, .unb, .unb, .unb, .unb, .unb, .unb]) pl_4.1 = .ret (.bool true) := by
  rw [draw2_3 sc us h]
  show pl_4.1 _ = _
  have hd := dig_lt us 1 2 (by decide)
  generalize dig us 1 2 = r at hd
  obtain ⟨k, rfl⟩ := Int.eq_ofNat_of_zero_le hd.1
  match k, hd with
  | 0, _ => exact rest_3_1 (.list sc) _
  | 1, _ => exact rest_3_2 (.list sc) _
  | k + 2, hd => exact absurd hd.2 (by omega)
theorem draw2_4 (sc : List V) (us : List Int) (h : us.length ≤ 4) : pl_3.1 [.list sc, .mlist [.list (us.map .int), .int 1], .int 4, .unb, .unb, .unb, .unb, .unb, .unb, .unb] = .next [.list sc, .mlist [.list (us.map .int), .int 2], .int 4, .int (1 + dig us 1 3), .unb, .unb, .unb, .unb, .unb, .unb] := by
  match us, h with
  | [], _ => kernel_rfl
  | [a], _ => kernel_rfl
  | [a, b], _ => kernel_rfl
  | [a, b, c], _ => kernel_rfl
  | [a, b, c, d], _ => kernel_rfl
  | _ :: _ :: _ :: _ :: _ :: _, h => exact absurd h (by simp)
theorem last_4 (sc : List V) (us : List Int) (h : us.length ≤ 4) : seqR (pl_3.1 [.list sc, .mlist [.list (us.map .int), .int 1], .int 4, .unb, .unb, .unb, .unb, .unb, .unb, .unb]) pl_4.1 = .ret (.bool true) := by
  rw [draw2_4 sc us h]
  show pl_4.1 _ = _
  have hd := dig_lt us 1 3 (by decide)
  generalize dig us 1 3 = r at hd
  obtain ⟨k, rfl⟩ := Int.eq_ofNat_of_zero_le hd.1
  match k, hd with
  | 0, _ => exact rest_4_1 (.list sc) _
  | 1, _ => exact rest_4_2 (.list sc) _
  | 2, _ => exact rest_4_3 (.list sc) _
  | k + 3, hd => exact absurd hd.2 (by omega)
theorem draw2_5 (sc : List V) (us : List Int) (h : us.length ≤ 4) : pl_3.1 [.list sc, .mlist [.list (us.map .int), .int 1], .int 5, .unb, .unb, .unb, .unb, .unb, .unb, .unb] = .next [.list sc, .mlist [.list (us.map .int), .int 2], .int 5, .int (1 + dig us 1 4), .unb, .unb, .unb, .unb, .unb, .unb] := by
  match us, h with
  | [], _ => kernel_rfl
  | [a], _ => kernel_rfl
  | [a, b], _ => kernel_rfl
  | [a, b, c], _ => kernel_rfl
  | [a, b, c, d], _ => kernel_rfl
  | _ :: _ :: _ :: _ :: _ :: _, h => exact absurd h (by simp)
theorem last_5 (sc : List V) (us : List Int) (h : us.length ≤ 4) : seqR (pl_3.1 [.list sc, .mlist [.list (us.map .int), .int 1], .int 5, .unb, .unb, .unb, .unb, .unb, .unb, .unb]) pl_4.1 = .ret (.bool true) := by
  rw [draw2_5 sc us h]
  show pl_4.1 _ = _
  have hd := dig_lt us 1 4 (by decide)
  generalize dig us 1 4 = r at hd
  obtain ⟨k, rfl⟩ := Int.eq_ofNat_of_zero_le hd.1
  match k, hd with
  | 0, _ => exact rest_5_1 (.list sc) _
  | 1, _ => exact rest_5_2 (.list sc) _
  | 2, _ => exact rest_5_3 (.list sc) _
  | 3, _ => exact rest_5_4 (.list sc) _
  | k + 4, hd => exact absurd hd.2 (by omega)
theorem draw2_12 (sc : List V) (us : List Int) (h : us.length ≤ 4) : pl_3.1 [.list sc, .mlist [.list (us.map .int), .int 1], .int 12, .unb, .unb, .unb, .unb, .unb, .unb, .unb] = .next [.list sc, .mlist [.list (us.map .int), .int 2], .int 12, .int (1 + dig us 1 11), .unb, .unb, .unb, .unb, .unb, .unb] := by
  match us, h with
  | [], _ => kernel_rfl
  | [a], _ => kernel_rfl
  | [a, b], _ => kernel_rfl
  | [a, b, c], _ => kernel_rfl
  | [a, b, c, d], _ => kernel_rfl
  | _ :: _ :: _ :: _ :: _ :: _, h => exact absurd h (by simp)
theorem last_12 (sc : List V) (us : List Int) (h : us.length ≤ 4) : seqR (pl_3.1 [.list sc, .mlist [.list (us.map .int), .int 1], .int 12, .unb, .unb, .unb, .unb, .unb, .unb, .unb]) pl_4.1 = .ret (.bool true) := by
  rw [draw2_12 sc us h]
  show pl_4.1 _ = _
  have hd := dig_lt us 1 11 (by decide)
  generalize dig us 1 11 = r at hd
  obtain ⟨k, rfl⟩ := Int.eq_ofNat_of_zero_le hd.1
  match k, hd with
  | 0, _ => exact rest_12_1 (.list sc) _
  | 1, _ => exact rest_12_2 (.list sc) _
  | 2, _ => exact rest_12_3 (.list sc) _
  | 3, _ => exact rest_12_4 (.list sc) _
  | 4, _ => exact rest_12_5 (.list sc) _
  | 5, _ => exact rest_12_6 (.list sc) _
  | 6, _ => exact rest_12_7 (.list sc) _
  | 7, _ => exact rest_12_8 (.list sc) _
  | 8, _ => exact rest_12_9 (.list sc) _
  | 9, _ => exact rest_12_10 (.list sc) _
  | 10, _ => exact rest_12_11 (.list sc) _
  | k + 11, hd => exact absurd hd.2 (by omega)
theorem draw2_6 (sc : List V) (us : List Int) (h : us.length ≤ 4) : pl_3.1 [.list sc, .mlist [.list (us.map .int), .int 1], .int 6, .unb, .unb, .unb, .unb, .unb, .unb, .unb] = .next [.list sc, .mlist [.list (us.map .int), .int 2], .int 6, .int (1 + dig us 1 5), .unb, .unb, .unb, .unb, .unb, .unb] := by
  match us, h with
  | [], _ => kernel_rfl
  | [a], _ => kernel_rfl
  | [a, b], _ => kernel_rfl
  | [a, b, c], _ => kernel_rfl
  | [a, b, c, d], _ => kernel_rfl
  | _ :: _ :: _ :: _ :: _ :: _, h => exact absurd h (by simp)
theorem last_6 (sc : List V) (us : List Int) (h : us.length ≤ 4) : seqR (pl_3.1 [.list sc, .mlist [.list (us.map .int), .int 1], .int 6, .unb, .unb, .unb, .unb, .unb, .unb, .unb]) pl_4.1 = .ret (.bool true) := by
  rw [draw2_6 sc us h]
  show pl_4.1 _ = _
  have hd := dig_lt us 1 5 (by decide)
  generalize dig us 1 5 = r at hd
  obtain ⟨k, rfl⟩ := Int.eq_ofNat_of_zero_le hd.1
  match k, hd with
  | 0, _ => exact rest_6_1 (.list sc) _
  | 1, _ => exact rest_6_2 (.list sc) _
  | 2, _ => exact rest_6_3 (.list sc) _
  | 3, _ => exact rest_6_4 (.list sc) _
  | 4, _ => exact rest_6_5 (.list sc) _
  | k + 5, hd => exact absurd hd.2 (by omega)
theorem draw2_7 (sc : List V) (us : List Int) (h : us.length ≤ 4) : pl_3.1 [.list sc, .mlist [.list (us.map .int), .int 1], .int 7, .unb, .unb, .unb, .unb, .unb, .unb, .unb] = .next [.list sc, .mlist [.list (us.map .int), .int 2], .int 7, .int (1 + dig us 1 6), .unb, .unb, .unb, .unb, .unb, .unb] := by
  match us, h with
  | [], _ => kernel_rfl
  | [a], _ => kernel_rfl
  | [a, b], _ => kernel_rfl
  | [a, b, c], _ => kernel_rfl
  | [a, b, c, d], _ => kernel_rfl
  | _ :: _ :: _ :: _ :: _ :: _, h => exact absurd h (by simp)
theorem last_7 (sc : List V) (us : List Int) (h : us.length ≤ 4) : seqR (pl_3.1 [.list sc, .mlist [.list (us.map .int), .int 1], .int 7, .unb, .unb, .unb, .unb, .unb, .unb, .unb]) pl_4.1 = .ret (.bool true) := by
  rw [draw2_7 sc us h]
  show pl_4.1 _ = _
  have hd := dig_lt us 1 6 (by decide)
  generalize dig us 1 6 = r at hd
  obtain ⟨k, rfl⟩ := Int.eq_ofNat_of_zero_le hd.1
  match k, hd with
  | 0, _ => exact rest_7_1 (.list sc) _
  | 1, _ => exact rest_7_2 (.list sc) _
  | 2, _ => exact rest_7_3 (.list sc) _
  | 3, _ => exact rest_7_4 (.list sc) _
  | 4, _ => exact rest_7_5 (.list sc) _
  | 5, _ => exact rest_7_6 (.list sc) _
  | k + 6, hd => exact absurd hd.2 (by omega)
theorem draw2_8 (sc : List V) (us : List Int) (h : us.length ≤ 4) : pl_3.1 [.list sc, .mlist [.list (us.map .int), .int 1], .int 8, .unb, .unb, .unb, .unb, .unb, .unb, .unb] = .next [.list sc, .mlist [.list (us.map .int), .int 2], .int 8, .int (1 + dig us 1 7), .unb, .unb, .unb, .unb, .unb, .unb] := by
  match us, h with
  | [], _ => kernel_rfl
  | [a], _ => kernel_rfl
  | [a, b], _ => kernel_rfl
  | [a, b, c], _ => kernel_rfl
  | [a, b, c, d], _ => kernel_rfl
  | _ :: _ :: _ :: _ :: _ :: _, h => exact absurd h (by simp)
theorem last_8 (sc : List V) (us : List Int) (h : us.length ≤ 4) : seqR (pl_3.1 [.list sc, .mlist [.list (us.map .int), .int 1], .int 8, .unb, .unb, .unb, .unb, .unb, .unb, .unb]) pl_4.1 = .ret (.bool true) := by
  rw [draw2_8 sc us h]
  show pl_4.1 _ = _
  have hd := dig_lt us 1 7 (by decide)
  generalize dig us 1 7 = r at hd
  obtain ⟨k, rfl⟩ := Int.eq_ofNat_of_zero_le hd.1
  match k, hd with
  | 0, _ => exact rest_8_1 (.list sc) _
  | 1, _ => exact rest_8_2 (.list sc) _
  | 2, _ => exact rest_8_3 (.list sc) _
  | 3, _ => exact rest_8_4 (.list sc) _
  | 4, _ => exact rest_8_5 (.list sc) _
  | 5, _ => exact rest_8_6 (.list sc) _
  | 6, _ => exact rest_8_7 (.list sc) _
  | k + 7, hd => exact absurd hd.2 (by omega)
theorem draw2_9 (sc : List V) (us : List Int) (h : us.length ≤ 4) : pl_3.1 [.list sc, .mlist [.list (us.map .int), .int 1], .int 9, .unb, .unb, .unb, .unb, .unb, .unb, .unb] = .next [.list sc, .mlist [.list (us.map .int), .int 2], .int 9, .int (1 + dig us 1 8), .unb, .unb, .unb, .unb, .unb, .unb] := by
  match us, h with
  | [], _ => kernel_rfl
  | [a], _ => kernel_rfl
  | [a, b], _ => kernel_rfl
  | [a, b, c], _ => kernel_rfl
  | [a, b, c, d], _ => kernel_rfl
  | _ :: _ :: _ :: _ :: _ :: _, h => exact absurd h (by simp)
theorem last_9 (sc : List V) (us : List Int) (h : us.length ≤ 4) : seqR (pl_3.1 [.list sc, .mlist [.list (us.map .int), .int 1], .int 9, .unb, .unb, .unb, .unb, .unb, .unb, .unb]) pl_4.1 = .ret (.bool true) := by
  rw [draw2_9 sc us h]
  show pl_4.1 _ = _
  have hd := dig_lt us 1 8 (by decide)
  generalize dig us 1 8 = r at hd
  obtain ⟨k, rfl⟩ := Int.eq_ofNat_of_zero_le hd.1
  match k, hd with
  | 0, _ => exact rest_9_1 (.list sc) _
  | 1, _ => exact rest_9_2 (.list sc) _
  | 2, _ => exact rest_9_3 (.list sc) _
  | 3, _ => exact rest_9_4 (.list sc) _
  | 4, _ => exact rest_9_5 (.list sc) _
  | 5, _ => exact rest_9_6 (.list sc) _
  | 6, _ => exact rest_9_7 (.list sc) _
  | 7, _ => exact rest_9_8 (.list sc) _
  | k + 8, hd => exact absurd hd.2 (by omega)
theorem draw2_10 (sc : List V) (us : List Int) (h : us.length ≤ 4) : pl_3.1 [.list sc, .mlist [.list (us.map .int), .int 1], .int 10, .unb, .unb, .unb, .unb, .unb, .unb, .unb] = .next [.list sc, .mlist [.list (us.map .int), .int 2], .int 10, .int (1 + dig us 1 9), .unb, .unb, .unb, .unb, .unb, .unb] := by
  match us, h with
  | [], _ => kernel_rfl
  | [a], _ => kernel_rfl
  | [a, b], _ => kernel_rfl
  | [a, b, c], _ => kernel_rfl
  | [a, b, c, d], _ => kernel_rfl
  | _ :: _ :: _ :: _ :: _ :: _, h => exact absurd h (by simp)
theorem last_10 (sc : List V) (us : List Int) (h : us.length ≤ 4) : seqR (pl_3.1 [.list sc, .mlist [.list (us.map .int), .int 1], .int 10, .unb, .unb, .unb, .unb, .unb, .unb, .unb]) pl_4.1 = .ret (.bool true) := by
  rw [draw2_10 sc us h]
  show pl_4.1 _ = _
  have hd := dig_lt us 1 9 (by decide)
  generalize dig us 1 9 = r at hd
  obtain ⟨k, rfl⟩ := Int.eq_ofNat_of_zero_le hd.1
  match k, hd with
  | 0, _ => exact rest_10_1 (.list sc) _
  | 1, _ => exact rest_10_2 (.list sc) _
  | 2, _ => exact rest_10_3 (.list sc) _
  | 3, _ => exact rest_10_4 (.list sc) _
  | 4, _ => exact rest_10_5 (.list sc) _
  | 5, _ => exact rest_10_6 (.list sc) _
  | 6, _ => exact rest_10_7 (.list sc) _
  | 7, _ => exact rest_10_8 (.list sc) _
  | 8, _ => exact rest_10_9 (.list sc) _
  | k + 9, hd => exact absurd hd.2 (by omega)
theorem law_gl (us : List Int) : gl [.list (us.map .int), .unb, .unb, .unb, .unb, .unb, .unb, .unb, .unb, .unb] = .ret (.bool true) := by
  unfold gl
  rw [first us]
  have hl : (us.take 4).length ≤ 4 := by rw [List.length_take]; exact Nat.min_le_left _ _
  generalize List.map V.int us = sc
  generalize us.take 4 = vs at hl
  show (match seqR (pl_2.1 _) _ with
    | .ret v => R.ret v
    | _ => R.bad) = _
  rw [draw1 sc vs hl]
  have hd := dig_lt vs 0 9 (by decide)
  generalize dig vs 0 9 = r at hd
  obtain ⟨k, rfl⟩ := Int.eq_ofNat_of_zero_le hd.1
  match k, hd with
  | 0, _ =>
    show (match seqR (pl_3.1 [.list sc, .mlist [.list (vs.map .int), .int 1], .int 3, .unb, .unb, .unb, .unb, .unb, .unb, .unb]) pl_4.1 with
      | .ret v => R.ret v
      | _ => R.bad) = _
    rw [last_3 sc vs hl]
  | 1, _ =>
    show (match seqR (pl_3.1 [.list sc, .mlist [.list (vs.map .int), .int 1], .int 4, .unb, .unb, .unb, .unb, .unb, .unb, .unb]) pl_4.1 with
      | .ret v => R.ret v
      | _ => R.bad) = _
    rw [last_4 sc vs hl]
  | 2, _ =>
    show (match seqR (pl_3.1 [.list sc, .mlist [.list (vs.map .int), .int 1], .int 5, .unb, .unb, .unb, .unb, .unb, .unb, .unb]) pl_4.1 with
      | .ret v => R.ret v
      | _ => R.bad) = _
    rw [last_5 sc vs hl]
  | 3, _ =>
    show (match seqR (pl_3.1 [.list sc, .mlist [.list (vs.map .int), .int 1], .int 12, .unb, .unb, .unb, .unb, .unb, .unb, .unb]) pl_4.1 with
      | .ret v => R.ret v
      | _ => R.bad) = _
    rw [last_12 sc vs hl]
  | 4, _ =>
    show (match seqR (pl_3.1 [.list sc, .mlist [.list (vs.map .int), .int 1], .int 6, .unb, .unb, .unb, .unb, .unb, .unb, .unb]) pl_4.1 with
      | .ret v => R.ret v
      | _ => R.bad) = _
    rw [last_6 sc vs hl]
  | 5, _ =>
    show (match seqR (pl_3.1 [.list sc, .mlist [.list (vs.map .int), .int 1], .int 7, .unb, .unb, .unb, .unb, .unb, .unb, .unb]) pl_4.1 with
      | .ret v => R.ret v
      | _ => R.bad) = _
    rw [last_7 sc vs hl]
  | 6, _ =>
    show (match seqR (pl_3.1 [.list sc, .mlist [.list (vs.map .int), .int 1], .int 8, .unb, .unb, .unb, .unb, .unb, .unb, .unb]) pl_4.1 with
      | .ret v => R.ret v
      | _ => R.bad) = _
    rw [last_8 sc vs hl]
  | 7, _ =>
    show (match seqR (pl_3.1 [.list sc, .mlist [.list (vs.map .int), .int 1], .int 9, .unb, .unb, .unb, .unb, .unb, .unb, .unb]) pl_4.1 with
      | .ret v => R.ret v
      | _ => R.bad) = _
    rw [last_9 sc vs hl]
  | 8, _ =>
    show (match seqR (pl_3.1 [.list sc, .mlist [.list (vs.map .int), .int 1], .int 10, .unb, .unb, .unb, .unb, .unb, .unb, .unb]) pl_4.1 with
      | .ret v => R.ret v
      | _ => R.bad) = _
    rw [last_10 sc vs hl]
  | k + 9, hd => exact absurd hd.2 (by omega)
theorem law_true (us : List Int) : den_law [.list (us.map .int)] = some (.bool true) := by
  show bodyV gl (some [.list (us.map .int), .unb, .unb, .unb, .unb, .unb, .unb, .unb, .unb, .unb]) = _
  unfold bodyV
  dsimp only
  rw [law_gl us]
end
end Mine

/- J1 -/

namespace Mine
section
set_option maxHeartbeats 4000000

noncomputable def fnTup (st : Stmt) : Option (Str × Arguments × List Stmt × Scope) := match st with
  | .FunctionDef name args body _ _ _ scope _ _ _ => some (name, args, body, scope)
  | _ => none
noncomputable def fnList : List (Str × Arguments × List Stmt × Scope) := PySem.Challenge.pw_sa0105_01.main.body.filterMap fnTup
theorem fnAt_mem {i : Nat} {t : Str × Arguments × List Stmt × Scope} (h : fnAt i = some t) : t ∈ fnList := by
  unfold fnAt at h
  split at h
  · rename_i e
    exact List.mem_filterMap.mpr ⟨_, List.mem_of_getElem? e, h⟩
  · cases h
noncomputable def recTup (d : DefRec) : Str × Arguments × List Stmt × Scope := (d.name, d.params, d.body, d.scope)
noncomputable def freeB (p : Program) (loose : List Str) : Bool := builtinsUsed.all fun q => !(startupNames.contains q.1) && (!(loose.contains q.1) && (!(((recsOf p).map (·.name)).contains q.1) && (!(((litsOf p).map (·.1)).contains q.1) && (!(((clssOf p loose).map (·.name)).contains q.1) && !(q.1 == "__name__")))))
theorem not_contains {l : List Str} {x : Str} (h : (!(l.contains x)) = true) : x ∉ l := fun m => by
  rw [List.contains_iff_mem.mpr m] at h; cases h

theorem boots : ∀ q ∈ builtinsUsed, bootBuiltins q.1 = some q.2 := by decide +kernel

theorem gf_of {p : Program} {loose : List Str} {mean : ExcName → Option Value} {mg mb : Str → Option Value} {h : Heap} (T : Top p loose mean mg mb h) (e : (recsOf p).map recTup = fnList) (fr : freeB p loose = true) : GF ⟨mg, mb⟩ h where
  g := T.g
  b := T.b
  nolimit := T.nolimit
  fns := fun i nm ps bd sc hf => by
    have hm := fnAt_mem hf
    rw [← e] at hm
    obtain ⟨d, hd, hq⟩ := List.mem_map.mp hm
    cases hq
    obtain ⟨a, o, pm, code, doc, h1, h2, h3, h4⟩ := T.fn d hd
    exact ⟨a, h1, o, doc, pm, none, code, .none, h2, h3, h4⟩
  bi := fun q hq => by
    have := List.all_eq_true.mp fr q hq
    simp only [Bool.and_eq_true] at this
    obtain ⟨h1, h2, h3, h4, h5, h6⟩ := this
    refine ⟨T.free q.1 (not_contains h1) (not_contains h2) (not_contains h3) (not_contains h4) (not_contains h5), ?_⟩
    show mb q.1 = _
    rw [T.builtins q.1 (by simpa using h6)]
    exact boots q hq

theorem script_plain {P : Params} {h : Heap} {a : Addr} {ds : List PyData} {xs : List Value} (W : Well P h (.ref a) (ofPy (PyData.list ds))) (hl : h.IsList a xs.toArray) : h.PlainList a xs.toArray := by
  have W' : Well P h (.ref a) (.list (ofPys ds)) := by simpa only [ofPy] using W
  cases W' with
  | list ho _ =>
    obtain ⟨o, ho2, hc, n, hd⟩ := hl
    rw [ho] at ho2
    cases ho2
    cases hd
    exact ⟨0, ho⟩

theorem isAll_ints {X : Addr → Prop} {h : Heap} : ∀ {xs : List Value} {ns : List Int}, IntsAre xs ns → IsAll X h (ns.map .int) xs
  | _, _, .nil => by simp only [List.map_nil, IsAll]
  | _, _, .cons i t r => by
    simp only [List.map_cons, IsAll, Is]
    exact ⟨⟨_, rfl⟩, isAll_ints r⟩

end
end Mine

open Mine
set_option maxHeartbeats 0 in
theorem PySem.Challenge.cw_sa0105_01_holds : PySem.Challenge.rw_sa0105_01.Holds := by
  w_on; o_law; o_head Hook.none; (case hw => w_witness2)
  intro w s₀ s₁ mg mb G Y fa o pm cd doc dV kV ho hd hcd hD hmg hg args vals as hpre hlay hrd hwl hlo
  refine Ground.open G ?_
  intro T B D TE TW
  wrow_args hpre hlay hrd hwl hlo
  rename_i ns _ _ _ _ _ _ _ a xs _ hl _ hw1 _ hI _ hlen _
  have GFx := gf_of T (by kernel_rfl) (by decide +kernel)
  obtain ⟨fa', hmg', hfn⟩ := GFx.fns _ _ _ _ _ hf_law
  have hmg'' : mg "law" = some (.ref fa) := hmg
  have hfa : fa' = fa := by
    have h1 : mg "law" = some (.ref fa') := hmg'
    rw [hmg''] at h1
    cases h1
    rfl
  subst hfa
  have hp := script_plain hw1 hl
  have hz : xs.length ≤ 4096 := by
    have h2 : xs.length = ns.length := (isAll_ints (X := fun _ => False) (h := s₁.heap) hI).length.symm.trans (List.length_map ..)
    omega
  show wpAny _ _ (PySem.call (.ref fa') [.ref a]) _ _ _
  refine wpAny_call ?_
  refine sim_law _ w _ _ _ _ hf_law ⟨mg, mb⟩ (fun _ => False) callerA s₁ fa' [.list (ns.map .int)] [.ref a] _ ?_ GFx hfn (fun _ q => q.elim) ?_ ?_
  · exact ⟨rfl, by decide +kernel, by decide +kernel⟩
  · simp only [IsAll, Is, and_true]
    exact ⟨a, xs, rfl, id, hp, hz, isAll_ints hI⟩
  · rw [law_true]
    intro yv h tk k hy
    simp only [Is] at hy
    subst hy
    dsimp only
    refine ⟨.inl ⟨.bool true, .bool true, [], rfl, fun _ => rfl, .bool true, ?_, unshared_nil⟩, .of_keep k, rfl, .of_eq hg⟩
    wrow_post
#print axioms PySem.Challenge.cw_sa0105_01_holds

