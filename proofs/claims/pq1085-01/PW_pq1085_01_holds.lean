import PyProof.Rows.All
import Wide.All
import OpenK.AllK
import Wide.FinOn
import KE.KIsNot
import KE.KBits
import KE.BitLaws
import KE.KPar
import PySem.Challenge.RW_pq1085_01
set_option Elab.async false
set_option compiler.extract_closed false
set_option maxRecDepth 100000
set_option maxHeartbeats 8000000
set_option linter.unusedVariables false
namespace Mine
noncomputable section
section
open PySem PySem.W PySem.Calls PyProof.Rows
inductive PV where
  | none
  | bool (b : Bool)
  | int (i : Int)
  | str (s : Str)
  | bytes (l : List Int)
  | list (l : List PV)
  | tuple (l : List PV)
  | barr (l : List Int)
  | inst (C : Addr) (fs : List (Str × PV))
  | func (a : Addr)
  | range (a b c : Int)
  | any
  | type (n : String)

noncomputable abbrev Im := Addr → Option Obj
noncomputable def Sub (I : Im) (h : Heap) : Prop := ∀ a o, I a = some o → h.get? a = some o
noncomputable def Le (I J : Im) : Prop := ∀ a o, I a = some o → J a = some o
theorem Le.refl (I : Im) : Le I I := fun _ _ e => e
theorem Le.trans {I J K : Im} (x : Le I J) (y : Le J K) : Le I K := fun a o e => y a o (x a o e)
theorem Sub.of_le {I J : Im} {h : Heap} (x : Le I J) (y : Sub J h) : Sub I h := fun a o e => y a o (x a o e)

noncomputable def octs (b : Array UInt8) : List Int := b.toList.map fun u => (u.toNat : Int)

noncomputable abbrev listObj (o : Obj) (vs : List Value) : Prop := o.cls = .type "list" ∧ ∃ n, o.data = .seq vs.toArray n
noncomputable abbrev tupObj (o : Obj) (vs : List Value) : Prop := o.cls = .type "tuple" ∧ ∃ n, o.data = .seq vs.toArray n
noncomputable abbrev barrObj (o : Obj) (b : Array UInt8) : Prop := o.cls = .type "bytearray" ∧ o.dict = .none ∧ ∃ n, o.data = .bytearray b n
noncomputable abbrev rangeObj (o : Obj) (a b c : Int) : Prop := ∃ t u v, o = { cls := .type "range", data := .fields #[.int a t, .int b u, .int c v] }

mutual
inductive Rep (I : Im) : Value → PV → Prop
  | none : Rep I .none .none
  | bool (b : Bool) : Rep I (.bool b) (.bool b)
  | int (i : Int) (t : Tok) : Rep I (.int i t) (.int i)
  | str (s : Str) (t : Tok) : Rep I (.str s t) (.str s)
  | bytes (b : Array UInt8) (t : Tok) : Rep I (.bytes b t) (.bytes (octs b))
  | list {a : Addr} {o : Obj} {vs : List Value} {ps : List PV} : I a = some o → listObj o vs → RepAll I vs ps → Rep I (.ref a) (.list ps)
  | tuple {a : Addr} {o : Obj} {vs : List Value} {ps : List PV} : I a = some o → tupObj o vs → RepAll I vs ps → Rep I (.ref a) (.tuple ps)
  | barr {a : Addr} {o : Obj} {b : Array UInt8} : I a = some o → barrObj o b → Rep I (.ref a) (.barr (octs b))
  | inst {a d C : Addr} {es : List DictEntry} {n : Nat} {fs : List (Str × PV)} : I a = some (instObj C d) → I d = some (dictOf es n) → RepFs I es fs → Rep I (.ref a) (.inst C fs)
  | func (a : Addr) : Rep I (.ref a) (.func a)
  | range {a : Addr} {o : Obj} {x y z : Int} : I a = some o → rangeObj o x y z → Rep I (.ref a) (.range x y z)
  | any (v : Value) : Rep I v .any
  | type (n : String) : Rep I (.type n) (.type n)
inductive RepAll (I : Im) : List Value → List PV → Prop
  | nil : RepAll I [] []
  | cons {v : Value} {p : PV} {vs : List Value} {ps : List PV} : Rep I v p → RepAll I vs ps → RepAll I (v :: vs) (p :: ps)
inductive RepFs (I : Im) : List DictEntry → List (Str × PV) → Prop
  | nil : RepFs I [] []
  | cons {h : Int} {n : Str} {t : Tok} {v : Value} {p : PV} {es : List DictEntry} {fs : List (Str × PV)} : Rep I v p → RepFs I es fs → RepFs I (⟨h, .str n t, v⟩ :: es) ((n, p) :: fs)
end

theorem rangeObj_cls {o : Obj} {a b c : Int} (h : rangeObj o a b c) : o.cls = .type "range" := by
  obtain ⟨_, _, _, rfl⟩ := h; rfl

noncomputable def Solid (o : Obj) : Prop := o.cls = .type "list" ∨ o.cls = .type "tuple" ∨ o.cls = .type "bytearray" ∨ o.cls = .type "dict" ∨ o.cls = .type "range" ∨ ∃ C d, o = instObj C d

noncomputable def Rep.Inv (I : Im) (v : Value) : PV → Prop
  | .none => v = .none
  | .bool b => v = .bool b
  | .int i => ∃ t, v = .int i t
  | .str s => ∃ t, v = .str s t
  | .bytes l => ∃ b t, v = .bytes b t ∧ l = octs b
  | .list ps => ∃ a o vs, v = .ref a ∧ I a = some o ∧ listObj o vs ∧ RepAll I vs ps
  | .tuple ps => ∃ a o vs, v = .ref a ∧ I a = some o ∧ tupObj o vs ∧ RepAll I vs ps
  | .barr l => ∃ a o b, v = .ref a ∧ I a = some o ∧ barrObj o b ∧ l = octs b
  | .inst C fs => ∃ a d es n, v = .ref a ∧ I a = some (instObj C d) ∧ I d = some (dictOf es n) ∧ RepFs I es fs
  | .func a => v = .ref a
  | .range x y z => ∃ a o, v = .ref a ∧ I a = some o ∧ rangeObj o x y z
  | .any => True
  | .type n => v = .type n
theorem Rep.inv {I : Im} {v : Value} {p : PV} (r : Rep I v p) : Rep.Inv I v p :=
  Rep.casesOn (motive_1 := fun v p _ => Rep.Inv I v p) r rfl (fun _ => rfl) (fun _ t => ⟨t, rfl⟩) (fun _ t => ⟨t, rfl⟩) (fun b t => ⟨b, t, rfl, rfl⟩)
    (fun ha ho hr => ⟨_, _, _, rfl, ha, ho, hr⟩) (fun ha ho hr => ⟨_, _, _, rfl, ha, ho, hr⟩) (fun ha ho => ⟨_, _, _, rfl, ha, ho, rfl⟩) (fun ha hd hr => ⟨_, _, _, _, rfl, ha, hd, hr⟩)
    (fun _ => rfl) (fun ha ho => ⟨_, _, rfl, ha, ho⟩) (fun _ => trivial) (fun _ => rfl)
section
variable {I : Im} {motive : Value → Prop} {v : Value}
@[elab_as_elim] theorem Rep.noneE (r : Rep I v .none) (k : motive .none) : motive v := (show v = .none from r.inv) ▸ k
@[elab_as_elim] theorem Rep.boolE {b : Bool} (r : Rep I v (.bool b)) (k : motive (.bool b)) : motive v := (show v = .bool b from r.inv) ▸ k
@[elab_as_elim] theorem Rep.intE {i : Int} (r : Rep I v (.int i)) (k : ∀ t, motive (.int i t)) : motive v := by obtain ⟨t, e⟩ := r.inv; subst e; exact k t
@[elab_as_elim] theorem Rep.strE {x : Str} (r : Rep I v (.str x)) (k : ∀ t, motive (.str x t)) : motive v := by obtain ⟨t, e⟩ := r.inv; subst e; exact k t
@[elab_as_elim] theorem Rep.bytesE {l : List Int} (r : Rep I v (.bytes l)) (k : ∀ b t, l = octs b → motive (.bytes b t)) : motive v := by obtain ⟨b, t, e, h⟩ := r.inv; subst e; exact k b t h
@[elab_as_elim] theorem Rep.listE {l : List PV} (r : Rep I v (.list l)) (k : ∀ {a o vs}, I a = some o → listObj o vs → RepAll I vs l → motive (.ref a)) : motive v := by obtain ⟨_, _, _, e, h1, h2, h3⟩ := r.inv; subst e; exact k h1 h2 h3
@[elab_as_elim] theorem Rep.tupleE {l : List PV} (r : Rep I v (.tuple l)) (k : ∀ {a o vs}, I a = some o → tupObj o vs → RepAll I vs l → motive (.ref a)) : motive v := by obtain ⟨_, _, _, e, h1, h2, h3⟩ := r.inv; subst e; exact k h1 h2 h3
@[elab_as_elim] theorem Rep.barrE {l : List Int} (r : Rep I v (.barr l)) (k : ∀ {a o b}, I a = some o → barrObj o b → l = octs b → motive (.ref a)) : motive v := by obtain ⟨_, _, _, e, h1, h2, h3⟩ := r.inv; subst e; exact k h1 h2 h3
@[elab_as_elim] theorem Rep.instE {C : Addr} {fs : List (Str × PV)} (r : Rep I v (.inst C fs)) (k : ∀ {a d es n}, I a = some (instObj C d) → I d = some (dictOf es n) → RepFs I es fs → motive (.ref a)) : motive v := by obtain ⟨_, _, _, _, e, h1, h2, h3⟩ := r.inv; subst e; exact k h1 h2 h3
@[elab_as_elim] theorem Rep.funcE {a : Addr} (r : Rep I v (.func a)) (k : motive (.ref a)) : motive v := (show v = .ref a from r.inv) ▸ k
@[elab_as_elim] theorem Rep.rangeE {x y z : Int} (r : Rep I v (.range x y z)) (k : ∀ {a o}, I a = some o → rangeObj o x y z → motive (.ref a)) : motive v := by obtain ⟨_, _, e, h1, h2⟩ := r.inv; subst e; exact k h1 h2
@[elab_as_elim] theorem Rep.typeE {n : String} (r : Rep I v (.type n)) (k : motive (.type n)) : motive v := (show v = .type n from r.inv) ▸ k
end
theorem RepAll.invC {I : Im} {vs : List Value} {ps : List PV} (h : RepAll I vs ps) : match ps with | [] => vs = [] | p :: ps => ∃ v vs', vs = v :: vs' ∧ Rep I v p ∧ RepAll I vs' ps := by
  cases h with
  | nil => rfl
  | cons a b => exact ⟨_, _, rfl, a, b⟩
section
variable {I : Im} {motive : List Value → Prop} {vs : List Value} {p q r o : PV} {ps : List PV}
@[elab_as_elim] theorem RepAll.e0 (h : RepAll I vs []) (k : motive []) : motive vs := (show vs = [] from h.invC) ▸ k
@[elab_as_elim] theorem RepAll.eC (h : RepAll I vs (p :: ps)) (k : ∀ {v vs}, Rep I v p → RepAll I vs ps → motive (v :: vs)) : motive vs := by obtain ⟨v, vs', e, a, b⟩ := h.invC; subst e; exact k a b
@[elab_as_elim] theorem RepAll.e1 (h : RepAll I vs [p]) (k : ∀ {v}, Rep I v p → motive [v]) : motive vs := RepAll.eC h fun a t => RepAll.e0 t (k a)
@[elab_as_elim] theorem RepAll.e2 (h : RepAll I vs [p, q]) (k : ∀ {v w}, Rep I v p → Rep I w q → motive [v, w]) : motive vs := RepAll.eC h fun a t => RepAll.e1 t fun b => k a b
@[elab_as_elim] theorem RepAll.e3 (h : RepAll I vs [p, q, r]) (k : ∀ {v w u}, Rep I v p → Rep I w q → Rep I u r → motive [v, w, u]) : motive vs := RepAll.eC h fun a t => RepAll.e2 t fun b d => k a b d
@[elab_as_elim] theorem RepAll.e4 (h : RepAll I vs [p, q, r, o]) (k : ∀ {v w u z}, Rep I v p → Rep I w q → Rep I u r → Rep I z o → motive [v, w, u, z]) : motive vs := RepAll.eC h fun a t => RepAll.e3 t fun b d e => k a b d e
end
theorem RepAll.ind {I : Im} {motive : List Value → List PV → Prop} {vs : List Value} {ps : List PV} (h : RepAll I vs ps) (h0 : motive [] [])
    (h1 : ∀ {v p vs ps}, Rep I v p → RepAll I vs ps → motive vs ps → motive (v :: vs) (p :: ps)) : motive vs ps := by
  refine RepAll.rec (motive_1 := fun _ _ _ => True) (motive_2 := fun vs ps _ => motive vs ps) (motive_3 := fun _ _ _ => True) ?_ ?_ ?_ ?_ ?_ ?_ ?_ ?_ ?_ ?_ ?_ ?_ ?_ h0 (fun a b _ ih => h1 a b ih) ?_ ?_ h <;> (intros; exact trivial)
theorem RepFs.ind {I : Im} {motive : List DictEntry → List (Str × PV) → Prop} {es : List DictEntry} {fs : List (Str × PV)} (h : RepFs I es fs) (h0 : motive [] [])
    (h1 : ∀ {h n t v p es fs}, Rep I v p → RepFs I es fs → motive es fs → motive (⟨h, .str n t, v⟩ :: es) ((n, p) :: fs)) : motive es fs := by
  refine RepFs.rec (motive_1 := fun _ _ _ => True) (motive_2 := fun _ _ _ => True) (motive_3 := fun es fs _ => motive es fs) ?_ ?_ ?_ ?_ ?_ ?_ ?_ ?_ ?_ ?_ ?_ ?_ ?_ ?_ ?_ h0 (fun a b _ ih => h1 a b ih) h <;> (intros; exact trivial)
theorem Rep.solid {I J : Im} (h : ∀ a o, I a = some o → Solid o → J a = some o) {v : Value} {p : PV} (r : Rep I v p) : Rep J v p :=
  Rep.rec (motive_1 := fun v p _ => Rep J v p) (motive_2 := fun vs ps _ => RepAll J vs ps) (motive_3 := fun es fs _ => RepFs J es fs)
    .none .bool .int .str .bytes (fun ha ho _ ih => .list (h _ _ ha (.inl ho.1)) ho ih) (fun ha ho _ ih => .tuple (h _ _ ha (.inr (.inl ho.1))) ho ih)
    (fun ha ho => .barr (h _ _ ha (.inr (.inr (.inl ho.1)))) ho)
    (fun ha hd _ ih => .inst (h _ _ ha (.inr (.inr (.inr (.inr (.inr ⟨_, _, rfl⟩)))))) (h _ _ hd (.inr (.inr (.inr (.inl rfl))))) ih)
    .func (fun ha ho => .range (h _ _ ha (.inr (.inr (.inr (.inr (.inl (rangeObj_cls ho))))))) ho) .any .type .nil (fun _ _ a b => .cons a b) .nil (fun _ _ a b => .cons a b) r
theorem RepAll.solid {I J : Im} (h : ∀ a o, I a = some o → Solid o → J a = some o) {vs : List Value} {ps : List PV} (r : RepAll I vs ps) : RepAll J vs ps := RepAll.ind (motive := fun vs ps => RepAll J vs ps) r .nil fun a _ ih => .cons (a.solid h) ih
theorem RepFs.solid {I J : Im} (h : ∀ a o, I a = some o → Solid o → J a = some o) {es : List DictEntry} {fs : List (Str × PV)} (r : RepFs I es fs) : RepFs J es fs := RepFs.ind (motive := fun es fs => RepFs J es fs) r .nil fun a _ ih => .cons (a.solid h) ih
theorem Rep.mono {I J : Im} (h : Le I J) {v : Value} {p : PV} (x : Rep I v p) : Rep J v p := x.solid fun a o e _ => h a o e
theorem RepAll.mono {I J : Im} (h : Le I J) {v : List Value} {p : List PV} (x : RepAll I v p) : RepAll J v p := x.solid fun a o e _ => h a o e
theorem RepFs.mono {I J : Im} (h : Le I J) {v : List DictEntry} {p : List (Str × PV)} (x : RepFs I v p) : RepFs J v p := x.solid fun a o e _ => h a o e

theorem RepAll.length {I : Im} {vs : List Value} {ps : List PV} (h : RepAll I vs ps) : vs.length = ps.length := RepAll.ind (motive := fun vs ps => vs.length = ps.length) h rfl fun _ _ ih => congrArg (· + 1) ih
theorem RepAll.append {I : Im} {vs : List Value} {ps : List PV} {us : List Value} {qs : List PV} (h : RepAll I vs ps) (y : RepAll I us qs) : RepAll I (vs ++ us) (ps ++ qs) := RepAll.ind (motive := fun vs ps => RepAll I (vs ++ us) (ps ++ qs)) h y fun a _ ih => .cons a ih
theorem RepAll.get {I : Im} {vs : List Value} {ps : List PV} (h : RepAll I vs ps) : ∀ {i : Nat} {p : PV}, ps[i]? = some p → ∃ v, vs[i]? = some v ∧ Rep I v p :=
  RepAll.ind (motive := fun vs ps => ∀ {i : Nat} {p : PV}, ps[i]? = some p → ∃ v, vs[i]? = some v ∧ Rep I v p) h (fun e => absurd e (by simp)) fun a _ ih => by
    intro i p e
    cases i with
    | zero => exact ⟨_, rfl, Option.some.inj e ▸ a⟩
    | succ i => exact ih (i := i) e
theorem RepAll.drop {I : Im} {vs : List Value} {ps : List PV} (h : RepAll I vs ps) : ∀ n, RepAll I (vs.drop n) (ps.drop n) :=
  RepAll.ind (motive := fun vs ps => ∀ n, RepAll I (vs.drop n) (ps.drop n)) h (fun n => by simp only [List.drop_nil]; exact .nil) fun a b ih n => by
    cases n with
    | zero => exact .cons a b
    | succ n => exact ih n
theorem RepAll.take {I : Im} {vs : List Value} {ps : List PV} (h : RepAll I vs ps) : ∀ n, RepAll I (vs.take n) (ps.take n) :=
  RepAll.ind (motive := fun vs ps => ∀ n, RepAll I (vs.take n) (ps.take n)) h (fun n => by simp only [List.take_nil]; exact .nil) fun a b ih n => by
    cases n with
    | zero => exact .nil
    | succ n => exact .cons a (ih n)

noncomputable def KeptF (l : List Env) (h h' : Heap) : Prop :=
  ∀ a o, h.get? a = some o → (∃ sl, h'.get? a = some { o with slots := sl }) ∧ (a ∉ l.filterMap (·.frame) → h'.get? a = some o)
theorem KeptF.of_keeps {l : List Env} {h h' : Heap} (k : ∀ a o, h.get? a = some o → h'.get? a = some o) : KeptF l h h' := fun a o e => ⟨⟨o.slots, k a o e⟩, fun _ => k a o e⟩
theorem KeptF.refl (l : List Env) (h : Heap) : KeptF l h h := .of_keeps fun _ _ e => e
theorem KeptF.trans {l : List Env} {h h' h'' : Heap} (x : KeptF l h h') (y : KeptF l h' h'') : KeptF l h h'' := fun a o e =>
  ⟨let ⟨_, e1⟩ := (x a o e).1; let ⟨sl, e2⟩ := (y a _ e1).1; ⟨sl, e2⟩, fun n => (y a o ((x a o e).2 n)).2 n⟩
theorem KeptF.some {l : List Env} {h h' : Heap} (x : KeptF l h h') {a : Addr} {o : Obj} (e : h.get? a = some o) : ∃ o', h'.get? a = some o' := let ⟨_, e1⟩ := (x a o e).1; ⟨_, e1⟩
theorem KeptF.none {l : List Env} {h h' : Heap} (x : KeptF l h h') {a : Addr} (e : h'.get? a = none) : h.get? a = none := by
  cases q : h.get? a with
  | none => rfl
  | some o => obtain ⟨o', r⟩ := x.some q; rw [e] at r; cases r
theorem KeptF.ns {l : List Env} {h h' : Heap} (x : KeptF l h h') {a : Addr} {m : Str → Option Value} (hn : h.Ns a m) : h'.Ns a m := by
  obtain ⟨o, es, ep, ho, hd, r⟩ := hn
  obtain ⟨sl, hs⟩ := (x a o ho).1
  exact ⟨_, es, ep, hs, hd, r⟩
theorem KeptF.cell {l : List Env} {h h' : Heap} (x : KeptF l h h') {c : Addr} {v : Option Value} (hc : h.IsCell c v) : h'.IsCell c v := by
  obtain ⟨o, ho, hd⟩ := hc
  obtain ⟨sl, hs⟩ := (x c o ho).1
  exact ⟨_, hs, hd⟩

noncomputable def Stack (l : List Env) (I : Im) (h : Heap) : Prop :=
  ∀ env ∈ l, env.scope.kind ≠ .module ∧ ∃ L o, env.frame = some L ∧ I L = none ∧ h.get? L = some o ∧ ∀ vs, o.data ≠ .fields vs

structure Post (l : List Env) (I : Im) (s : Shared) (I' : Im) (s' : Shared) : Prop where
  le : Le I I'
  sub : Sub I' s'.heap
  fresh : ∀ a o, I' a = some o → I a = some o ∨ s.heap.get? a = none
  kept : KeptF l s.heap s'.heap
  gens : s'.gens = s.gens
  os : s'.os = s.os
theorem Post.refl {l : List Env} {I : Im} {s : Shared} (h : Sub I s.heap) : Post l I s I s := ⟨.refl _, h, fun _ _ e => .inl e, .refl _ _, rfl, rfl⟩
theorem Post.trans {l : List Env} {I I' I'' : Im} {s s' s'' : Shared} (x : Post l I s I' s') (y : Post l I' s' I'' s'') : Post l I s I'' s'' :=
  ⟨x.le.trans y.le, y.sub, fun a o e => by
    rcases y.fresh a o e with q | q
    · exact x.fresh a o q
    · exact .inr (x.kept.none q), x.kept.trans y.kept, y.gens.trans x.gens, y.os.trans x.os⟩
theorem Post.tok {l : List Env} {I : Im} {s : Shared} (h : Sub I s.heap) (t : Nat) : Post l I s I { s with toks := t } := ⟨.refl _, h, fun _ _ e => .inl e, .refl _ _, rfl, rfl⟩

theorem Post.none_of {l : List Env} {I I' : Im} {s s' : Shared} (x : Post l I s I' s') {a : Addr} {o : Obj} (hI : I a = none) (ho : s.heap.get? a = some o) : I' a = none := by
  cases q : I' a with
  | none => rfl
  | some o' =>
    rcases x.fresh a o' q with r | r
    · rw [hI] at r; cases r
    · rw [ho] at r; cases r
theorem Stack.post {l : List Env} {I I' : Im} {s s' : Shared} (x : Stack l I s.heap) (y : Post l I s I' s') : Stack l I' s'.heap := fun env he => by
  obtain ⟨hk, L, o, hf, hI, ho, hd⟩ := x env he
  obtain ⟨sl, hs⟩ := (y.kept L o ho).1
  exact ⟨hk, L, _, hf, y.none_of hI ho, hs, hd⟩

noncomputable def Im.put (I : Im) (a : Addr) (o : Obj) : Im := fun b => if b = a then some o else I b
theorem Im.put_self (I : Im) (a : Addr) (o : Obj) : I.put a o a = some o := if_pos rfl
theorem Im.put_ne (I : Im) {a b : Addr} (o : Obj) (h : b ≠ a) : I.put a o b = I b := if_neg h
theorem Sub.none_new {I : Im} {h : Heap} (x : Sub I h) : I h.objs.size = none := by
  cases q : I h.objs.size with
  | none => rfl
  | some o => exact absurd (Heap.lt_size (x _ _ q)) (Nat.lt_irrefl _)
theorem get?_size (h : Heap) : h.get? h.objs.size = none := by
  cases q : h.get? h.objs.size with
  | none => rfl
  | some o => exact absurd (Heap.lt_size q) (Nat.lt_irrefl _)
theorem Im.le_put {I : Im} {a : Addr} (h : I a = none) (o : Obj) : Le I (I.put a o) := fun b o' e => by
  by_cases q : b = a
  · rw [q, h] at e; cases e
  · rw [Im.put_ne _ _ q]; exact e
theorem Post.push {l : List Env} {I : Im} {s : Shared} (h : Sub I s.heap) (o : Obj) (hf : o.isFreed = false) (t : Nat) :
    Post l I s (I.put s.heap.objs.size o) { s with heap := s.heap.push o, toks := t } where
  le := Im.le_put h.none_new o
  sub := fun a o' e => by
    by_cases q : a = s.heap.objs.size
    · rw [q, Im.put_self] at e; cases e; rw [q]; exact Heap.get?_push_size _ hf
    · rw [Im.put_ne _ _ q] at e; exact Heap.get?_push_of_some _ (h _ _ e)
  fresh := fun a o' e => by
    by_cases q : a = s.heap.objs.size
    · rw [q]; exact .inr (get?_size _)
    · rw [Im.put_ne _ _ q] at e; exact .inl e
  kept := .of_keeps fun a o' e => Heap.get?_push_of_some _ e
  gens := rfl
  os := rfl
theorem Post.keeps {l : List Env} {I : Im} {s s' : Shared} (h : Sub I s.heap) (k : ∀ a o, s.heap.get? a = some o → s'.heap.get? a = some o) (hg : s'.gens = s.gens) (ho : s'.os = s.os) :
    Post l I s I s' := ⟨.refl _, fun a o e => k a o (h a o e), fun _ _ e => .inl e, .of_keeps k, hg, ho⟩
end
section
open PySem PySem.W PySem.Calls PyProof.Rows
set_option genInjectivity false in
set_option genSizeOf false in
structure Wd where
  prog : Program
  w : World
  K : Frag
  B : Heap
  inK : K.In B
  lim : B.NoLimit
  mg : Str → Option Value
  mb : Str → Option Value
  g : B.Ns mainGlobals mg
  b : B.Ns builtinsNs mb
  blt : ∀ x : Str, x ≠ "__name__" → mb x = bootBuiltins x

set_option genInjectivity false in
set_option genSizeOf false in
structure Cx where
  W : Wd
  env : Env
  A : Around
  l : List Env
  n : Nat
noncomputable abbrev Cx.M (c : Cx) : Model := model c.W.prog c.W.w
structure Cx.Ok (c : Cx) : Prop where
  frames : c.A.frames = some c.l
  depth : c.A.depth + c.n < 900
  units : c.A.units + 20 * c.n + 100 < cLine
  handled : c.A.handled = none
  kind : c.env.scope.kind = .function
  globals : c.env.globals = mainGlobals
  builtins : c.env.builtins = builtinsNs
  guards : c.A.guards = some []

noncomputable abbrev PEnv := List (Str × PV)

noncomputable def Holds (h : Heap) (env : Env) (x : Str) (v : Value) : Prop :=
  (env.kindOf x = some .local ∧ ∃ m, h.Ns env.locals m ∧ m x = some v) ∨
  ((env.kindOf x = some .cell ∨ env.kindOf x = some .free) ∧ ∃ c, env.cells.lookup x = some c ∧ h.IsCell c (some v))

structure Rd (c : Cx) (ρ : PEnv) (I : Im) (s : Shared) : Prop where
  ok : c.Ok
  base : ∀ a o, c.W.B.get? a = some o → I a = some o
  sub : Sub I s.heap
  stack : Stack c.l I s.heap
  vars : ∀ x p, ρ.lookup x = some p → ∃ v, Holds s.heap c.env x v ∧ Rep I v p

theorem Holds.kept {l : List Env} {h h' : Heap} {env : Env} {x : Str} {v : Value} (k : KeptF l h h') (y : Holds h env x v) : Holds h' env x v := by
  rcases y with ⟨a, m, hm, e⟩ | ⟨a, c, hc, hv⟩
  · exact .inl ⟨a, m, k.ns hm, e⟩
  · exact .inr ⟨a, c, hc, k.cell hv⟩
theorem Rd.post {c : Cx} {ρ : PEnv} {I I' : Im} {s s' : Shared} (r : Rd c ρ I s) (p : Post c.l I s I' s') : Rd c ρ I' s' :=
  ⟨r.ok, fun a o e => p.le _ _ (r.base a o e), p.sub, r.stack.post p, fun x q e => let ⟨v, hv, hr⟩ := r.vars x q e; ⟨v, hv.kept p.kept, hr.mono p.le⟩⟩
theorem Rd.none {c : Cx} {ρ : PEnv} {I : Im} {s : Shared} (r : Rd c ρ I s) : Rd c [] I s := ⟨r.ok, r.base, r.sub, r.stack, fun _ _ e => nomatch e⟩
theorem Rd.inB {c : Cx} {ρ : PEnv} {I : Im} {s : Shared} (r : Rd c ρ I s) : ∀ a o, c.W.B.get? a = some o → s.heap.get? a = some o := fun a o e => r.sub a o (r.base a o e)
theorem Rd.inK {c : Cx} {ρ : PEnv} {I : Im} {s : Shared} (r : Rd c ρ I s) : c.W.K.In s.heap := c.W.inK.keeps r.inB
theorem Rd.lim {c : Cx} {ρ : PEnv} {I : Im} {s : Shared} (r : Rd c ρ I s) : s.heap.NoLimit := c.W.lim.keeps r.inB

set_option genInjectivity false in
set_option genSizeOf false in
structure PX where
  C : Addr
  why : Str

noncomputable def ExcTb (h₀ h : Heap) (ea : Addr) (tb : Option Value) : Option Value → Prop
  | none => tb = some .none
  | some v3 => ∃ T oT ts, tb = some (.ref T) ∧ T ≠ ea ∧ h₀.get? T = none ∧ h.get? T = some oT ∧ oT.data = .fields ts ∧ ts[3]? = some v3
inductive ExcSt (h₀ h : Heap) (st : Option Value) (ea : Addr) (x : PX) : Prop
  | mk (oe : Obj) (vs : Array Value) (d : Addr) (od : Obj) (tk : Tok) (a0 : Value) (h1 : h.get? ea = some oe) (h2 : h₀.get? ea = none) (h3 : oe.cls = .ref x.C) (h4 : oe.dict = some d) (h5 : oe.data = .fields vs) (h6 : vs[0]? = some a0)
    (h7 : h.get? d = some od) (h70 : (∀ vs, od.data ≠ .fields vs) ∧ h₀.get? d = none) (h8 : lookIn "why" od = some (some (.str x.why tk))) (h9 : ExcTb h₀ h ea vs[1]? st)
noncomputable def ExcAt (h₀ h : Heap) (f : List Addr) (ea : Addr) (x : PX) : Prop := ∃ st, ExcSt h₀ h st ea x ∧ (st = none ∨ st = some .none ∨ ∃ L ∈ f, st = some (rawInt L))

structure Exn (l : List Env) (f : List Addr) (s : Shared) (e : Value) (x : PX) (s' : Shared) : Prop where
  kept : KeptF l s.heap s'.heap
  gens : s'.gens = s.gens
  os : s'.os = s.os
  exc : ∃ ea, e = .ref ea ∧ ExcAt s.heap s'.heap f ea x
theorem ExcSt.anchor {h₀ h₁ h : Heap} {st : Option Value} {ea : Addr} {x : PX} (k : ∀ a, h₁.get? a = none → h₀.get? a = none) (y : ExcSt h₁ h st ea x) : ExcSt h₀ h st ea x := by
  obtain ⟨oe, vs, d, od, tk, a0, h1, h2, h3, h4, h5, h6, h7, h70, h8, h9⟩ := y
  refine ⟨oe, vs, d, od, tk, a0, h1, k _ h2, h3, h4, h5, h6, h7, ⟨h70.1, k _ h70.2⟩, h8, ?_⟩
  cases st with
  | none => exact h9
  | some v => obtain ⟨T, oT, ts, t1, t2, t3, t4⟩ := h9; exact ⟨T, oT, ts, t1, t2, k _ t3, t4⟩
theorem ExcAt.anchor {h₀ h₁ h : Heap} {f : List Addr} {ea : Addr} {x : PX} (k : ∀ a, h₁.get? a = none → h₀.get? a = none) (y : ExcAt h₁ h f ea x) : ExcAt h₀ h f ea x := let ⟨st, a, b⟩ := y; ⟨st, a.anchor k, b⟩
theorem ExcAt.more {h₀ h : Heap} {f : List Addr} {ea : Addr} {x : PX} (y : ExcAt h₀ h [] ea x) : ExcAt h₀ h f ea x := let ⟨st, a, b⟩ := y; ⟨st, a, b.imp id (Or.imp id fun ⟨_, h, _⟩ => nomatch h)⟩
theorem Exn.anchor {l : List Env} {f : List Addr} {I I' : Im} {s s₁ s' : Shared} {e : Value} {x : PX} (p : Post l I s I' s₁) (y : Exn l f s₁ e x s') : Exn l f s e x s' :=
  ⟨p.kept.trans y.kept, y.gens.trans p.gens, y.os.trans p.os, let ⟨ea, q, r⟩ := y.exc; ⟨ea, q, r.anchor fun _ e => p.kept.none e⟩⟩

inductive QV (c : Cx) (I : Im) (s : Shared) (Q : PV → Prop) (v : Value) (s' : Shared) : Prop
  | mk (I' : Im) (p : PV) (a : Post c.l I s I' s') (b : Rep I' v p) (d : Q p)
inductive QE (c : Cx) (s : Shared) (X : PX → Prop) (e : Value) (s' : Shared) : Prop
  | mk (x : PX) (a : Exn c.l [] s e x s') (b : X x)

noncomputable def Ev (c : Cx) (ρ : PEnv) (t : Sem Value) (Q : PV → Prop) (X : PX → Prop) : Prop :=
  ∀ I s, Rd c ρ I s → wpAny c.M c.A t (QV c I s Q) (QE c s X) s

theorem Ev.mono {c : Cx} {ρ : PEnv} {t : Sem Value} {Q Q' : PV → Prop} {X X' : PX → Prop} (h : Ev c ρ t Q X) (hQ : ∀ p, Q p → Q' p) (hX : ∀ x, X x → X' x) : Ev c ρ t Q' X' :=
  fun I s r => wpAny_mono (h I s r) (fun _ _ ⟨I', p, a, b, d⟩ => ⟨I', p, a, b, hQ p d⟩) fun _ _ ⟨x, a, b⟩ => ⟨x, a, hX x b⟩

theorem Ev.then {c : Cx} {ρ : PEnv} {t : Sem Value} {Q : PV → Prop} {X : PX → Prop} {I : Im} {s : Shared} {R : Value → Shared → Prop} {E : Value → Shared → Prop}
    (h : Ev c ρ t Q X) (r : Rd c ρ I s) (k : ∀ v s' I' p, Post c.l I s I' s' → Rd c ρ I' s' → Rep I' v p → Q p → R v s') (kE : ∀ e s' x, Exn c.l [] s e x s' → X x → E e s') :
    wpAny c.M c.A t R E s :=
  wpAny_mono (h I s r) (fun v s' ⟨I', p, a, b, d⟩ => k v s' I' p a (r.post a) b d) fun e s' ⟨x, a, b⟩ => kE e s' x a b

theorem QV.post {c : Cx} {I I' : Im} {s s' : Shared} {Q : PV → Prop} (p : Post c.l I s I' s') {v : Value} {s'' : Shared} (q : QV c I' s' Q v s'') : QV c I s Q v s'' :=
  let ⟨J, d, a, b, e⟩ := q; ⟨J, d, p.trans a, b, e⟩
theorem QE.post {c : Cx} {I I' : Im} {s s' : Shared} {X : PX → Prop} (p : Post c.l I s I' s') {v : Value} {s'' : Shared} (q : QE c s' X v s'') : QE c s X v s'' :=
  let ⟨x, a, b⟩ := q; ⟨x, a.anchor p, b⟩
theorem ev_post {c : Cx} {t : Sem Value} {I I' : Im} {s s' : Shared} {Q : PV → Prop} {X : PX → Prop} (p : Post c.l I s I' s') (h : wpAny c.M c.A t (QV c I' s' Q) (QE c s' X) s') : wpAny c.M c.A t (QV c I s Q) (QE c s X) s' :=
  wpAny_mono h (fun _ _ q => QV.post p q) fun _ _ q => QE.post p q

theorem QV.now {c : Cx} {I : Im} {s : Shared} {Q : PV → Prop} {v : Value} {p : PV} (h : Sub I s.heap) (r : Rep I v p) (q : Q p) (t : Nat) : QV c I s Q v { s with toks := t } := ⟨I, p, Post.tok h t, r, q⟩
theorem QV.now' {c : Cx} {I : Im} {s : Shared} {Q : PV → Prop} {v : Value} {p : PV} (h : Sub I s.heap) (r : Rep I v p) (q : Q p) : QV c I s Q v s := ⟨I, p, Post.refl h, r, q⟩

noncomputable def V1 (c : Cx) (f : Value → Sem Value) (a : PV) (Q : PV → Prop) (X : PX → Prop) : Prop :=
  ∀ I s va, Rd c [] I s → Rep I va a → wpAny c.M c.A (f va) (QV c I s Q) (QE c s X) s
noncomputable def V2 (c : Cx) (f : Value → Value → Sem Value) (a b : PV) (Q : PV → Prop) (X : PX → Prop) : Prop :=
  ∀ I s va vb, Rd c [] I s → Rep I va a → Rep I vb b → wpAny c.M c.A (f va vb) (QV c I s Q) (QE c s X) s
noncomputable def CallV (c : Cx) (f : Value) (args : List PV) (Q : PV → Prop) (X : PX → Prop) : Prop :=
  ∀ I s vs, Rd c [] I s → RepAll I vs args → wpAny c.M c.A (call f vs) (QV c I s Q) (QE c s X) s

section
variable {c : Cx} {ρ : PEnv} {Q : PV → Prop} {X : PX → Prop}

theorem Ev_int {i : Int} {k pos} (h : Q (.int i)) : Ev c ρ (eval (.Constant (.int i) k pos) c.env) Q X := fun _ s r => wpAny_Constant_int (QV.now r.sub (.int i s.toks) h _)
theorem Ev_bool {b : Bool} {k pos} (h : Q (.bool b)) : Ev c ρ (eval (.Constant (.bool b) k pos) c.env) Q X := fun _ s r => wpAny_pure (QV.now' r.sub (.bool b) h)
theorem Ev_none {k pos} (h : Q .none) : Ev c ρ (eval (.Constant .none k pos) c.env) Q X := fun _ s r => wpAny_pure (QV.now' r.sub .none h)
theorem Ev_str {x : Str} {k pos} (h : Q (.str x)) : Ev c ρ (eval (.Constant (.str x) k pos) c.env) Q X := fun _ s r => Calls.Constant_str (QV.now r.sub (.str x s.toks) h _)
theorem Ev_bytes {b : List UInt8} {k pos} (h : Q (.bytes (octs b.toArray))) : Ev c ρ (eval (.Constant (.bytes b) k pos) c.env) Q X := fun I s r => by
  show wpAny c.M c.A (fresh >>= fun t => pure (Value.bytes b.toArray t)) _ _ s
  exact wpAny_bind (wpAny_fresh (wpAny_pure (QV.now r.sub (.bytes b.toArray s.toks) h _)))

theorem Ev_name {x : Str} {pos : Pos} {p : PV} (hp : ρ.lookup x = some p) (h : Q p) (hd : (x == ("__debug__" : Str)) = false := by decide) (hn : (x == ("__classdict__" : Str)) = false := by decide) :
    Ev c ρ (eval (.Name x pos) c.env) Q X := fun I s r => by
  obtain ⟨v, hv, hr⟩ := r.vars x p hp
  have fin := QV.now' (c := c) r.sub hr h
  refine wpAny_Name ?_ hd
  rcases hv with ⟨hk, m, hm, e⟩ | ⟨hk | hk, cl, hc, hcell⟩
  · exact wpAny_loadName_local r.ok.kind hk hm e fin
  · exact wpAny_loadName_cell r.ok.kind hk hc hcell fin
  · exact wpAny_loadName_free r.ok.kind hk hc hcell fin hn

theorem Wd.glob (W : Wd) {x : Str} {v : Value} (e : nsIn W.K mainGlobals x = some (some v)) : W.mg x = some v := mg_of W.inK W.g e
end

noncomputable def NameIs (c : Cx) (x : Str) (v : Value) : Prop := c.env.kindOf x = some .globalImplicit ∧ (x == ("__debug__" : Str)) = false ∧
  (nsIn c.W.K mainGlobals x = some (some v) ∨ (nsIn c.W.K mainGlobals x = some none ∧ bootBuiltins x = some v ∧ x ≠ "__name__"))
theorem name_is {c : Cx} {ρ : PEnv} {x : Str} {pos : Pos} {v : Value} {I : Im} {s : Shared} {R E : Value → Shared → Prop} (r : Rd c ρ I s) (hx : NameIs c x v) (h : R v s) :
    wpAny c.M c.A (eval (.Name x pos) c.env) R E s := by
  obtain ⟨hk, hd, e⟩ := hx
  refine Calls.Name_function_global r.ok.kind hk ?_ hd
  rcases e with e | ⟨e, hb, hn⟩
  · exact Calls.loadGlobal_global (by rw [r.ok.globals]; exact c.W.g.keeps r.inB) (c.W.glob e) h
  · exact Calls.loadGlobal_builtin (by rw [r.ok.globals]; exact c.W.g.keeps r.inB) (mg_none_of c.W.inK c.W.g e) (by rw [r.ok.builtins]; exact c.W.b.keeps r.inB) ((c.W.blt x hn).trans hb) h

section
variable {c : Cx} {ρ : PEnv} {Q : PV → Prop} {X : PX → Prop}

theorem two {l r : Expr} {f : Value → Value → Sem Value} {I : Im} {s : Shared}
    (h : Ev c ρ (eval l c.env) (fun a => Ev c ρ (eval r c.env) (fun b => V2 c f a b Q X) X) X) (d : Rd c ρ I s) :
    wpAny c.M c.A (eval l c.env) (fun a s₁ => wpAny c.M c.A (eval r c.env) (fun b s₂ => wpAny c.M c.A (f a b) (QV c I s Q) (QE c s X) s₂) (QE c s X) s₁) (QE c s X) s :=
  h.then d (fun _ _ _ _ p₁ d₁ r₁ h₁ => h₁.then d₁ (fun _ _ _ _ p₂ d₂ r₂ h₂ => ev_post (p₁.trans p₂) (h₂ _ _ _ _ d₂.none (r₁.mono p₂.le) r₂)) fun _ _ x a b => ⟨x, a.anchor p₁, b⟩) fun _ _ x a b => ⟨x, a, b⟩
theorem Ev_bin {l r : Expr} {op : Operator} {pos : Pos}
    (h : Ev c ρ (eval l c.env) (fun a => Ev c ρ (eval r c.env) (fun b => V2 c (binaryOp op) a b Q X) X) X) : Ev c ρ (eval (.BinOp l op r pos) c.env) Q X :=
  fun _ _ d => wpAny_BinOp (two h d)
theorem Ev_cmp {l r : Expr} {op : CmpOp} {pos : Pos}
    (h : Ev c ρ (eval l c.env) (fun a => Ev c ρ (eval r c.env) (fun b => V2 c (compareOp op) a b Q X) X) X) (hm : behindInMarks op r = false := by with_unfolding_all rfl) : Ev c ρ (eval (.Compare l [op] [r] pos) c.env) Q X :=
  fun _ _ d => wpAny_Compare1 (two h d) hm

theorem V2.int {f : Value → Value → Sem Value} {x y r : Int}
    (h : ∀ {A : Around} {s : Shared} {R E : Value → Shared → Prop} (t u : Tok), R (.int r s.toks) { s with toks := s.toks + 1 } → wpAny c.M A (f (.int x t) (.int y u)) R E s) (q : Q (.int r)) : V2 c f (.int x) (.int y) Q X := by
  intro I s va vb d ra rb
  first | refine Rep.intE ra fun _ => ?_ | refine Rep.strE ra fun _ => ?_ | refine Rep.boolE ra ?_ | refine Rep.noneE ra ?_ | refine Rep.typeE ra ?_ | refine Rep.funcE ra ?_ | cases ra
  first | refine Rep.intE rb fun _ => ?_ | refine Rep.strE rb fun _ => ?_ | refine Rep.boolE rb ?_ | refine Rep.noneE rb ?_ | refine Rep.typeE rb ?_ | refine Rep.funcE rb ?_ | cases rb
  exact h _ _ (QV.now d.sub (.int _ _) q _)
theorem add_int {x y : Int} (q : Q (.int (x + y))) : V2 c (binaryOp .Add) (.int x) (.int y) Q X := V2.int (fun _ _ h => PyProof.Rows.add_int h) q
theorem sub_int {x y : Int} (q : Q (.int (x - y))) : V2 c (binaryOp .Sub) (.int x) (.int y) Q X := V2.int (fun _ _ h => PyProof.Rows.sub_int h) q
theorem mod_int {x y : Int} (hy : y ≠ 0) (q : Q (.int (x.fmod y))) : V2 c (binaryOp .Mod) (.int x) (.int y) Q X := V2.int (fun _ _ h => PyProof.Rows.mod_int hy h) q
end
end
section
open PySem PySem.W PySem.Calls PyProof.Rows
noncomputable def KeptX (l : List Env) (mu : List Addr) (h h' : Heap) : Prop :=
  ∀ a o, h.get? a = some o → (∃ o', h'.get? a = some o') ∧ (a ∉ mu → (∃ sl, h'.get? a = some { o with slots := sl }) ∧ (a ∉ l.filterMap (·.frame) → h'.get? a = some o))
theorem KeptX.of_keeps {l : List Env} {mu : List Addr} {h h' : Heap} (k : ∀ a o, h.get? a = some o → h'.get? a = some o) : KeptX l mu h h' := fun a o e => ⟨⟨o, k a o e⟩, fun _ => ⟨⟨o.slots, k a o e⟩, fun _ => k a o e⟩⟩
theorem KeptX.none {l : List Env} {mu : List Addr} {h h' : Heap} (x : KeptX l mu h h') {a : Addr} (e : h'.get? a = none) : h.get? a = none := by
  cases q : h.get? a with
  | none => rfl
  | some o => obtain ⟨o', r⟩ := (x a o q).1; rw [e] at r; cases r
theorem KeptX.toF {l : List Env} {h h' : Heap} (x : KeptX l [] h h') : KeptF l h h' := fun a o e => (x a o e).2 (nomatch ·)

set_option genInjectivity false in
set_option genSizeOf false in
inductive Own where
  | list (l : List PV)
  | inst (C : Addr) (fs : List (Str × PV))
  | dict (k : Nat)

noncomputable abbrev Ow := Option (Str × Addr × Own)

set_option genInjectivity false in
set_option genSizeOf false in
structure Fm where
  h₀ : Heap
  I₀ : Im
  outer : List Env
  mu : List Addr
  gens : Array GenState
  os : OsState

noncomputable def Mine1 (c : Cx) (F : Fm) (I : Im) (a : Addr) : Prop := I a = none ∧ (F.h₀.get? a = none ∨ a ∈ F.mu) ∧ a ∉ c.l.filterMap (·.frame)

noncomputable abbrev ownObj (o : Obj) (vs : List Value) : Prop := o.cls = .type "list" ∧ (∃ n, o.data = .seq vs.toArray n) ∧ o.dict = none ∧ o.slots = #[]
noncomputable def OwnAt (c : Cx) (F : Fm) (I : Im) (h : Heap) (a : Addr) : Own → Prop
  | .list ps => ∃ o vs, h.get? a = some o ∧ ownObj o vs ∧ RepAll I vs ps
  | .inst C fs => ∃ d es n, h.get? a = some (instObj C d) ∧ h.get? d = some (dictOf es n) ∧ RepFs I es fs ∧ Mine1 c F I d ∧ d ≠ a
  | .dict k => ∃ o kvs, h.get? a = some o ∧ o.IsDictOf (strKind c.W.prog c.W.w) kvs ∧ kvs.length ≤ k

structure St (c : Cx) (F : Fm) (ρ : PEnv) (σ : Ow) (I : Im) (s : Shared) : Prop where
  rd : Rd c ρ I s
  hl : c.l = c.env :: F.outer
  hf : c.env.frame = some c.env.locals
  kept : KeptX F.outer F.mu F.h₀ s.heap
  le₀ : Le F.I₀ I
  fresh₀ : ∀ a o, I a = some o → F.I₀ a = some o ∨ F.h₀.get? a = none
  gens : s.gens = F.gens
  os : s.os = F.os
  ns : ∃ m, s.heap.Ns c.env.locals m
  own : I c.env.locals = none ∧ F.h₀.get? c.env.locals = none
  cells : ∀ x a, c.env.cells.lookup x = some a → (∃ v, s.heap.IsCell a v) ∧ I a = none ∧ F.h₀.get? a = none
  apart : c.env.cells.Pairwise fun x y => x.2 ≠ y.2
  owned : ∀ x a ow, σ = some (x, a, ow) → Holds s.heap c.env x (.ref a) ∧ OwnAt c F I s.heap a ow ∧ Mine1 c F I a

theorem Mine1.post {c : Cx} {F : Fm} {I I' : Im} {s s' : Shared} {a : Addr} {o : Obj} (m : Mine1 c F I a) (p : Post c.l I s I' s') (e : s.heap.get? a = some o) : Mine1 c F I' a ∧ s'.heap.get? a = some o :=
  ⟨⟨p.none_of m.1 e, m.2⟩, (p.kept a o e).2 m.2.2⟩
theorem OwnAt.post {c : Cx} {F : Fm} {I I' : Im} {s s' : Shared} {a : Addr} {ow : Own} (x : OwnAt c F I s.heap a ow) (m : Mine1 c F I a) (p : Post c.l I s I' s') : OwnAt c F I' s'.heap a ow ∧ Mine1 c F I' a := by
  cases ow with
  | list ps => obtain ⟨o, vs, h1, h2, h3⟩ := x; exact ⟨⟨o, vs, (m.post p h1).2, h2, h3.mono p.le⟩, (m.post p h1).1⟩
  | inst C fs => obtain ⟨d, es, n, h1, h2, h3, h4, h5⟩ := x; exact ⟨⟨d, es, n, (m.post p h1).2, (h4.post p h2).2, h3.mono p.le, (h4.post p h2).1, h5⟩, (m.post p h1).1⟩
  | dict k => obtain ⟨o, kvs, h1, h2⟩ := x; exact ⟨⟨o, kvs, (m.post p h1).2, h2⟩, (m.post p h1).1⟩

theorem St.post {c : Cx} {F : Fm} {ρ : PEnv} {σ : Ow} {I I' : Im} {s s' : Shared} (x : St c F ρ σ I s) (p : Post c.l I s I' s') : St c F ρ σ I' s' where
  rd := x.rd.post p
  hl := x.hl
  hf := x.hf
  kept := fun a o e => by
    obtain ⟨⟨o', h0⟩, h00⟩ := x.kept a o e
    refine ⟨p.kept.some h0, fun hm => ?_⟩
    obtain ⟨⟨sl, h1⟩, h2⟩ := h00 hm
    have hL : a ≠ c.env.locals := fun q => by rw [q, x.own.2] at e; cases e
    refine ⟨let ⟨sl', h3⟩ := (p.kept a _ h1).1; ⟨sl', h3⟩, fun hn => (p.kept a o (h2 hn)).2 fun hm' => ?_⟩
    rw [x.hl, List.filterMap_cons, x.hf] at hm'
    rcases List.mem_cons.mp hm' with q | q
    · exact hL q
    · exact hn q
  le₀ := x.le₀.trans p.le
  fresh₀ := fun a o e => by
    rcases p.fresh a o e with q | q
    · exact x.fresh₀ a o q
    · exact .inr (x.kept.none q)
  gens := p.gens.trans x.gens
  os := p.os.trans x.os
  ns := let ⟨m, h⟩ := x.ns; ⟨m, p.kept.ns h⟩
  own := let ⟨m, o, _, _, ho, _⟩ := x.ns; ⟨p.none_of x.own.1 ho, x.own.2⟩
  cells := fun y a e => by
    obtain ⟨⟨v, o, ho, hd⟩, h2, h3⟩ := x.cells y a e
    exact ⟨⟨v, p.kept.cell ⟨o, ho, hd⟩⟩, p.none_of h2 ho, h3⟩
  apart := x.apart
  owned := fun y a ow e => by
    obtain ⟨h1, h2, h3⟩ := x.owned y a ow e
    obtain ⟨h4, h5⟩ := h2.post h3 p
    exact ⟨h1.kept p.kept, h4, h5⟩

set_option genInjectivity false in
set_option genSizeOf false in
structure PK where
  next : PEnv → Ow → Prop
  brk : PEnv → Ow → Prop := fun _ _ => False
  cont : PEnv → Ow → Prop := fun _ _ => False
  ret : PV → Ow → Prop
  exc : PX → Prop

structure ExnF (c : Cx) (F : Fm) (e : Value) (x : PX) (s' : Shared) : Prop where
  kept : KeptX F.outer F.mu F.h₀ s'.heap
  gens : s'.gens = F.gens
  os : s'.os = F.os
  frames : ∀ env ∈ c.l, env.scope.kind ≠ .module ∧ ∃ L o, env.frame = some L ∧ s'.heap.get? L = some o ∧ ∀ vs, o.data ≠ .fields vs
  exc : ∃ ea, e = .ref ea ∧ ExcAt F.h₀ s'.heap [c.env.locals] ea x

inductive StK (c : Cx) (F : Fm) (I' : Im) (P : PEnv → Ow → Prop) (s' : Shared) : Prop
  | mk (ρ' : PEnv) (σ' : Ow) (S : St c F ρ' σ' I' s') (q : P ρ' σ')
inductive StR (c : Cx) (F : Fm) (I' : Im) (P : PV → Ow → Prop) (v : Value) (s' : Shared) : Prop
  | mk (p : PV) (σ' : Ow) (S : St c F [] σ' I' s') (r : Rep I' v p) (q : P p σ')
noncomputable abbrev QF (c : Cx) (F : Fm) (I' : Im) (K : PK) (s' : Shared) : Flow → Prop
  | .next => StK c F I' K.next s'
  | .brk => StK c F I' K.brk s'
  | .cont => StK c F I' K.cont s'
  | .ret v => StR c F I' K.ret v s'
inductive QS (c : Cx) (F : Fm) (I : Im) (K : PK) (fl : Flow) (s' : Shared) : Prop
  | mk (I' : Im) (le : Le I I') (f : QF c F I' K s' fl)
inductive ES (c : Cx) (F : Fm) (X : PX → Prop) (e : Value) (s' : Shared) : Prop
  | mk (x : PX) (a : ExnF c F e x s') (b : X x)

noncomputable def Sx (c : Cx) (F : Fm) (ρ : PEnv) (σ : Ow) (t : Sem Flow) (K : PK) : Prop :=
  ∀ I s, St c F ρ σ I s → wpAny c.M c.A t (QS c F I K) (ES c F K.exc) s

theorem St.exn {c : Cx} {F : Fm} {ρ : PEnv} {σ : Ow} {I : Im} {s s' : Shared} {e : Value} {x : PX} (S : St c F ρ σ I s) (y : Exn c.l [] s e x s') : ExnF c F e x s' where
  kept := fun a o e => by
    obtain ⟨⟨o', h0⟩, h00⟩ := S.kept a o e
    refine ⟨y.kept.some h0, fun hm => ?_⟩
    obtain ⟨⟨sl, h1⟩, h2⟩ := h00 hm
    have hL : a ≠ c.env.locals := fun q => by rw [q, S.own.2] at e; cases e
    refine ⟨let ⟨sl', h3⟩ := (y.kept a _ h1).1; ⟨sl', h3⟩, fun hn => (y.kept a o (h2 hn)).2 fun hm' => ?_⟩
    rw [S.hl, List.filterMap_cons, S.hf] at hm'
    rcases List.mem_cons.mp hm' with q | q
    · exact hL q
    · exact hn q
  gens := y.gens.trans S.gens
  os := y.os.trans S.os
  frames := fun env he => by
    obtain ⟨hk, L, o, hf, _, ho, hd⟩ := S.rd.stack env he
    obtain ⟨sl, hs⟩ := (y.kept L o ho).1
    exact ⟨hk, L, _, hf, hs, hd⟩
  exc := let ⟨ea, q, r⟩ := y.exc; ⟨ea, q, (r.anchor fun _ e => S.kept.none e).more⟩


section
variable {c : Cx} {F : Fm} {ρ : PEnv} {σ : Ow} {K : PK}
theorem St.nil {I : Im} {s : Shared} (S : St c F ρ σ I s) : St c F [] σ I s := { S with rd := S.rd.none }

theorem Sx_nil (h : K.next ρ σ) : Sx c F ρ σ (execs [] c.env) K := fun I _ S => wpAny_execs_nil ⟨I, .refl _, ρ, σ, S, h⟩
noncomputable abbrev PK.seq (c : Cx) (F : Fm) (rest : List Stmt) (K : PK) : PK := { K with next := fun ρ' σ' => Sx c F ρ' σ' (execs rest c.env) K }
theorem Sx_cons {st : Stmt} {rest : List Stmt} (h : Sx c F ρ σ (exec st c.env) (K.seq c F rest)) : Sx c F ρ σ (execs (st :: rest) c.env) K := fun I s S =>
  wpAny_execs_cons (wpAny_mono (h I s S) (fun fl s' ⟨I', hle, q⟩ => by
    cases fl with
    | next =>
      obtain ⟨ρ', σ', S', h'⟩ := q
      exact wpAny_mono (h' I' s' S') (fun _ _ ⟨J, hle', z⟩ => ⟨J, hle.trans hle', z⟩) fun _ _ z => z
    | brk => exact ⟨I', hle, q⟩
    | cont => exact ⟨I', hle, q⟩
    | ret v => exact ⟨I', hle, q⟩) fun _ _ z => z)
theorem Sx_ret {e : Expr} {pos : Pos} (h : Ev c ρ (eval e c.env) (fun p => K.ret p σ) K.exc) : Sx c F ρ σ (exec (.Return (some e) pos) c.env) K := fun I s S =>
  wpAny_Return_some (h.then S.rd (fun v s' I' p a _ r q => ⟨I', a.le, p, σ, (S.post a).nil, r, q⟩) fun _ _ x a b => ⟨x, S.exn a, b⟩)
theorem Sx_ret0 {pos : Pos} (h : K.ret .none σ) : Sx c F ρ σ (exec (.Return none pos) c.env) K := fun I s S => wpAny_Return_none ⟨I, .refl _, .none, σ, S.nil, .none, h⟩
end
end
section
open PySem PySem.W PySem.Calls PyProof.Rows
theorem ns_same {h : Heap} {a : Addr} {m m' : Str → Option Value} (x : h.Ns a m) (y : h.Ns a m') (n : Str) : m n = m' n := by
  obtain ⟨o, es, ep, ho, hd, _, hf⟩ := x
  obtain ⟨o', es', ep', ho', hd', _, hf'⟩ := y
  rw [ho] at ho'; cases ho'
  rw [hd] at hd'; cases hd'
  rw [← hf, ← hf']

section
variable {c : Cx} {F : Fm} {ρ ρ' : PEnv} {σ σ' : Ow} {I : Im} {s s' : Shared} {a₀ : Addr}

theorem St.turn (S : St c F ρ σ I s) (hs : ∀ b, b ≠ a₀ → s'.heap.get? b = s.heap.get? b) (hI : I a₀ = none) (h0 : F.h₀.get? a₀ = none ∨ a₀ ∈ F.mu)
    (still : ∃ o, s'.heap.get? a₀ = some o ∧ ∀ vs, o.data ≠ .fields vs) (hg : s'.gens = s.gens) (ho : s'.os = s.os) (hns : ∃ m, s'.heap.Ns c.env.locals m)
    (hcells : ∀ x a, c.env.cells.lookup x = some a → ∃ v, s'.heap.IsCell a v)
    (hv : ∀ x p, ρ'.lookup x = some p → ∃ v, Holds s'.heap c.env x v ∧ Rep I v p)
    (hw : ∀ x a ow, σ' = some (x, a, ow) → Holds s'.heap c.env x (.ref a) ∧ OwnAt c F I s'.heap a ow ∧ Mine1 c F I a) : St c F ρ' σ' I s' where
  rd := ⟨S.rd.ok, S.rd.base, fun a o e => (hs a (fun q => by rw [q, hI] at e; cases e)).trans (S.rd.sub a o e), fun env he => by
    obtain ⟨hk, L, o, hf, hL, hL2, hd⟩ := S.rd.stack env he
    by_cases q : L = a₀
    · obtain ⟨o', h1, h2⟩ := still
      exact ⟨hk, L, o', hf, hL, q ▸ h1, h2⟩
    · exact ⟨hk, L, o, hf, hL, (hs L q).trans hL2, hd⟩, hv⟩
  hl := S.hl
  hf := S.hf
  kept := fun a o e => by
    obtain ⟨⟨o1, h1⟩, h2⟩ := S.kept a o e
    by_cases q : a = a₀
    · obtain ⟨o', h3, _⟩ := still
      refine ⟨⟨o', q ▸ h3⟩, fun hm => ?_⟩
      rcases h0 with z | z
      · rw [← q, e] at z; cases z
      · exact absurd (q ▸ z) hm
    · rw [hs a q]; exact ⟨⟨o1, h1⟩, h2⟩
  le₀ := S.le₀
  fresh₀ := S.fresh₀
  gens := hg.trans S.gens
  os := ho.trans S.os
  ns := hns
  own := S.own
  cells := fun x a e => ⟨hcells x a e, (S.cells x a e).2⟩
  apart := S.apart
  owned := hw

theorem Holds.sameBut {h h' : Heap} {env : Env} {x : Str} {v : Value} (y : Holds h env x v) (hs : ∀ b, b ≠ a₀ → h'.get? b = h.get? b) (h1 : a₀ ≠ env.locals) (h2 : ∀ c, env.cells.lookup x = some c → c ≠ a₀) : Holds h' env x v := by
  rcases y with ⟨a, m, ⟨o, es, ep, ho, r⟩, e⟩ | ⟨a, cl, hc, o, ho, hd⟩
  · exact .inl ⟨a, m, ⟨o, es, ep, (hs _ (Ne.symm h1)).trans ho, r⟩, e⟩
  · exact .inr ⟨a, cl, hc, o, (hs _ (h2 cl hc)).trans ho, hd⟩

theorem Mine1.ne_locals (S : St c F ρ σ I s) {a : Addr} (m : Mine1 c F I a) : a ≠ c.env.locals := fun q => m.2.2 (by rw [S.hl, List.filterMap_cons, S.hf, q]; exact .head _)

theorem OwnAt.sameBut {h h' : Heap} {a : Addr} {ow : Own} (y : OwnAt c F I h a ow) (hs : ∀ b, b ≠ a₀ → h'.get? b = h.get? b) (h1 : a ≠ a₀) (h2 : ∀ d, Mine1 c F I d → d ≠ a₀) : OwnAt c F I h' a ow := by
  cases ow with
  | list ps => obtain ⟨o, vs, q, r⟩ := y; exact ⟨o, vs, (hs a h1).trans q, r⟩
  | inst C fs => obtain ⟨d, es, n, q1, q2, r, m, e⟩ := y; exact ⟨d, es, n, (hs a h1).trans q1, (hs d (h2 d m)).trans q2, r, m, e⟩
  | dict k => obtain ⟨o, kvs, q, r⟩ := y; exact ⟨o, kvs, (hs a h1).trans q, r⟩

theorem cell_ne {h : Heap} {a b : Addr} {v : Option Value} {m : Str → Option Value} (x : h.IsCell a v) (y : h.Ns b m) : a ≠ b := fun q => by
  obtain ⟨o, ho, hd⟩ := x
  obtain ⟨o', es, ep, ho', hd', _⟩ := y
  rw [q, ho'] at ho; cases ho
  rw [hd] at hd'; cases hd'

theorem St.store {x : Str} {v : Value} {p : PV} {E : Value → Shared → Prop} {Q : Unit → Shared → Prop} (S : St c F ρ σ I s) (r : Rep I v p) (hx : ∀ a ow, σ ≠ some (x, a, ow))
    (hk : c.env.kindOf x = some .local ∨ (c.env.kindOf x = some .cell ∧ (c.env.cells.lookup x).isSome = true))
    (h : ∀ s', St c F ((x, p) :: ρ) σ I s' → (∀ b o, s.heap.get? b = some o → b ≠ c.env.locals → (∀ v, o.data ≠ .cell v) → s'.heap.get? b = some o) → Q () s') : wpAny c.M c.A (storeName c.env x v) Q E s := by
  have hlook : ∀ (y : Str) (q : PV), ((x, p) :: ρ).lookup y = some q → (y = x ∧ q = p) ∨ (y ≠ x ∧ ρ.lookup y = some q) := fun y q e => by
    rw [List.lookup_cons] at e
    by_cases z : y = x
    · subst z; rw [beq_self_eq_true] at e; cases e; exact .inl ⟨rfl, rfl⟩
    · rw [beq_eq_false_iff_ne.mpr z] at e; exact .inr ⟨z, e⟩
  rcases hk with hk | ⟨hk, hc⟩
  · obtain ⟨m, hm⟩ := S.ns
    refine wpAny_storeName_local hk hm (fun h' hn hsb => h _ ?_ ?_) (by rw [S.rd.ok.kind]; rfl)
    rotate_left
    · exact fun b o hb hne _ => (hsb.2 b hne).trans hb
    have oth : ∀ y u, y ≠ x → Holds s.heap c.env y u → Holds h' c.env y u := fun y u hy hh => by
      rcases hh with ⟨a, m', hm', e⟩ | ⟨a, cl, hcl, hcell⟩
      · refine .inl ⟨a, _, hn, ?_⟩
        show (if y = x then some v else m y) = _
        rw [if_neg hy, ns_same hm hm' y, e]
      · exact .inr ⟨a, cl, hcl, hcell.sameBut hsb (cell_ne hcell hm)⟩
    refine S.turn (a₀ := c.env.locals) hsb.2 S.own.1 (.inl S.own.2) ?_ rfl rfl ⟨_, hn⟩ (fun y a e => ?_) (fun y q e => ?_) (fun y a ow e => ?_)
    · obtain ⟨o, es, ep, ho, hd, _⟩ := hn
      exact ⟨o, ho, fun vs q => by rw [hd] at q; cases q⟩
    · obtain ⟨⟨u, hu⟩, _⟩ := S.cells y a e
      exact ⟨u, hu.sameBut hsb (cell_ne hu hm)⟩
    · rcases hlook y q e with ⟨rfl, rfl⟩ | ⟨hy, e⟩
      · exact ⟨v, .inl ⟨hk, _, hn, if_pos rfl⟩, r⟩
      · obtain ⟨u, hu, hr⟩ := S.rd.vars y q e
        exact ⟨u, oth y u hy hu, hr⟩
    · obtain ⟨h1, h2, h3⟩ := S.owned y a ow e
      refine ⟨oth y _ (fun q => hx a ow (q ▸ e)) h1, h2.sameBut hsb.2 (h3.ne_locals S) fun d hd => hd.ne_locals S, h3⟩
  · obtain ⟨cl, hcl⟩ := Option.isSome_iff_exists.mp hc
    obtain ⟨⟨u₀, hu₀⟩, hI, h0⟩ := S.cells x cl hcl
    obtain ⟨m, hm⟩ := S.ns
    refine wpAny_storeName_cell S.rd.ok.kind hk hcl hu₀ (fun h' hcell hsb => h _ ?_ ?_)
    rotate_left
    · obtain ⟨oL, hoL, hdL⟩ := hu₀
      exact fun b o hb _ hd => (hsb.2 b fun q => by rw [q, hoL] at hb; cases hb; exact hd _ hdL).trans hb
    have hne := cell_ne hu₀ hm
    have oth : ∀ y u, y ≠ x → Holds s.heap c.env y u → Holds h' c.env y u := fun y u hy hh =>
      hh.sameBut hsb.2 hne fun c' hc' q => hy (name_of_addr S.apart (mem_of_lookup hc') (q ▸ mem_of_lookup hcl))
    refine S.turn (a₀ := cl) hsb.2 hI (.inl h0) ?_ rfl rfl ⟨m, hm.sameBut hsb (Ne.symm hne)⟩ (fun y a e => ?_) (fun y q e => ?_) (fun y a ow e => ?_)
    · obtain ⟨o, ho, hd⟩ := hcell
      exact ⟨o, ho, fun vs q => by rw [hd] at q; cases q⟩
    · by_cases z : a = cl
      · exact ⟨_, z ▸ hcell⟩
      · obtain ⟨⟨u, hu⟩, _⟩ := S.cells y a e
        exact ⟨u, hu.sameBut hsb z⟩
    · rcases hlook y q e with ⟨rfl, rfl⟩ | ⟨hy, e⟩
      · exact ⟨v, .inr ⟨.inl hk, cl, hcl, hcell⟩, r⟩
      · obtain ⟨u, hu, hr⟩ := S.rd.vars y q e
        exact ⟨u, oth y u hy hu, hr⟩
    · obtain ⟨h1, h2, h3⟩ := S.owned y a ow e
      have ha : ∀ d, (∃ o, s.heap.get? d = some o ∧ ∀ v, o.data ≠ .cell v) → d ≠ cl := fun d ⟨o, ho, hd⟩ q => by
        obtain ⟨o', ho', hd'⟩ := hu₀
        rw [q, ho'] at ho; cases ho
        exact hd _ hd'
      refine ⟨oth y _ (fun q => hx a ow (q ▸ e)) h1, ?_, h3⟩
      cases ow with
      | list ps => obtain ⟨o, vs, q, ⟨q1, ⟨n, q2⟩, q3⟩, rr⟩ := h2; exact ⟨o, vs, (hsb.2 a (ha a ⟨o, q, fun v z => by rw [q2] at z; cases z⟩)).trans q, ⟨q1, ⟨n, q2⟩, q3⟩, rr⟩
      | inst C fs =>
        obtain ⟨d, es, n, q1, q2, rr, mm, ee⟩ := h2
        exact ⟨d, es, n, (hsb.2 a (ha a ⟨_, q1, fun v z => nomatch z⟩)).trans q1, (hsb.2 d (ha d ⟨_, q2, fun v z => nomatch z⟩)).trans q2, rr, mm, ee⟩
      | dict k => obtain ⟨o, kvs, q, ⟨es, ep, q0, q1, q2⟩, rr⟩ := h2; exact ⟨o, kvs, (hsb.2 a (ha a ⟨o, q, fun v z => by rw [q1] at z; cases z⟩)).trans q, ⟨es, ep, q0, q1, q2⟩, rr⟩

end

noncomputable def Slot1 (c : Cx) (σ : Ow) (x : Str) : Prop := (∀ a ow, σ ≠ some (x, a, ow)) ∧ (c.env.kindOf x = some .local ∨ (c.env.kindOf x = some .cell ∧ (c.env.cells.lookup x).isSome = true))

section
variable {c : Cx} {F : Fm} {ρ ρ' : PEnv} {σ : Ow} {K : PK}

theorem Sx_assign {x : Str} {px pos : Pos} {e : Expr} (hx : Slot1 c σ x) (h : Ev c ρ (eval e c.env) (fun p => K.next ((x, p) :: ρ) σ) K.exc)
    (hs : swapsWith e (some (.Name x px)) pos.line c.env = pure false) : Sx c F ρ σ (exec (.Assign [.Name x px] e pos) c.env) K := fun I s S =>
  wpAny_Assign_Name (h.then S.rd (fun v s' I' p a _ r q => (S.post a).store r hx.1 hx.2 fun s'' S'' _ => ⟨I', a.le, _, _, S'', q⟩) fun _ _ x a b => ⟨x, S.exn a, b⟩) hs

theorem Sx_aug {x : Str} {px pos : Pos} {op : Operator} {e : Expr} {p₀ : PV} (hx : Slot1 c σ x) (hp : ρ.lookup x = some p₀)
    (h : Ev c ρ (eval e c.env) (fun p => V2 c (inplaceOp op) p₀ p (fun r => K.next ((x, r) :: ρ) σ) K.exc) K.exc) (hn : (x == ("__classdict__" : Str)) = false := by decide) :
    Sx c F ρ σ (exec (.AugAssign (.Name x px) op e pos) c.env) K := fun I s S => by
  refine wpAny_AugAssign_Name ?_
  obtain ⟨v₀, hv, hr⟩ := S.rd.vars x p₀ hp
  have fin : wpAny c.M c.A (eval e c.env) (fun v s₂ => wpAny c.M c.A (inplaceOp op v₀ v) (fun r s₃ => wpAny c.M c.A (storeName c.env x r) (fun _ => QS c F I K .next) (ES c F K.exc) s₃) (ES c F K.exc) s₂) (ES c F K.exc) s :=
    h.then S.rd (fun v s' I' p a r' r q => wpAny_mono (q I' s' v₀ v r'.none (hr.mono a.le) r) (fun v2 s2 ⟨I2, p2, a2, r2, q2⟩ => (S.post (a.trans a2)).store r2 hx.1 hx.2 fun s'' S'' _ => ⟨I2, (a.trans a2).le, _, _, S'', q2⟩)
      fun _ _ ⟨x, a2, b⟩ => ⟨x, (S.post a).exn a2, b⟩) fun _ _ x a b => ⟨x, S.exn a, b⟩
  rcases hv with ⟨hk, m, hm, e⟩ | ⟨hk | hk, cl, hc, hcell⟩
  · exact wpAny_loadName_local S.rd.ok.kind hk hm e fin
  · exact wpAny_loadName_cell S.rd.ok.kind hk hc hcell fin
  · exact wpAny_loadName_free S.rd.ok.kind hk hc hcell fin hn
end
end
section
open PySem PySem.W PySem.Calls PyProof.Rows
inductive QB (c : Cx) (I : Im) (s : Shared) (Q : Bool → Prop) (b : Bool) (s' : Shared) : Prop
  | mk (I' : Im) (a : Post c.l I s I' s') (q : Q b)
noncomputable def Tr (c : Cx) (ρ : PEnv) (t : Sem Bool) (Q : Bool → Prop) (X : PX → Prop) : Prop := ∀ I s, Rd c ρ I s → wpAny c.M c.A t (QB c I s Q) (QE c s X) s
noncomputable def TV (c : Cx) (p : PV) (Q : Bool → Prop) : Prop := ∀ I s v X, Rd c [] I s → Rep I v p → wpAny c.M c.A (truthy v) (QB c I s Q) (QE c s X) s

theorem QB.post {c : Cx} {I I' : Im} {s s' : Shared} {Q : Bool → Prop} (p : Post c.l I s I' s') {b : Bool} {s'' : Shared} (q : QB c I' s' Q b s'') : QB c I s Q b s'' := let ⟨J, a, e⟩ := q; ⟨J, p.trans a, e⟩
theorem tr_post {c : Cx} {t : Sem Bool} {I I' : Im} {s s' : Shared} {Q : Bool → Prop} {X : PX → Prop} (p : Post c.l I s I' s') (h : wpAny c.M c.A t (QB c I' s' Q) (QE c s' X) s') : wpAny c.M c.A t (QB c I s Q) (QE c s X) s' :=
  wpAny_mono h (fun _ _ q => QB.post p q) fun _ _ q => QE.post p q

section
variable {c : Cx} {ρ : PEnv} {Q : PV → Prop} {X : PX → Prop} {QT : Bool → Prop}

theorem TV_bool {b : Bool} (h : QT b) : TV c (.bool b) QT := fun I s v X r a => by cases a; exact wpAny_truthy_bool ⟨I, Post.refl r.sub, h⟩
theorem TV_list {l : List PV} (hl : l.length ≤ 2 ^ 20) (h : QT ((l.length : Int) != 0)) : TV c (.list l) QT := fun I s v X r a => by
  refine Rep.listE a fun ha ho hr => ?_
  ·
    rename_i a' o vs
    obtain ⟨h1, n, h2⟩ := ho
    have hlen := hr.length
    refine wpAny_truthy_list (items := vs.toArray) ⟨o, r.sub _ _ ha, h1, n, h2⟩ (by rw [List.size_toArray]; lia) ?_
    refine ⟨I, Post.keeps r.sub (fun _ _ e => e) rfl rfl, ?_⟩
    rw [show (!vs.toArray.isEmpty) = ((l.length : Int) != 0) by
      rw [← hlen]; cases vs with
      | nil => rfl
      | cons v vs => simp only [List.length_cons]; rw [eq_comm, bne_iff_ne.mpr (by lia)]; rfl]
    exact h

theorem Tr.mono {t : Sem Bool} {Q' : Bool → Prop} (h : Tr c ρ t QT X) (hQ : ∀ p, QT p → Q' p) : Tr c ρ t Q' X :=
  fun I s r => wpAny_mono (h I s r) (fun _ _ ⟨I', a, d⟩ => ⟨I', a, hQ _ d⟩) fun _ _ z => z
theorem Tr.then {t : Sem Bool} {I : Im} {s : Shared} {R : Bool → Shared → Prop} {E : Value → Shared → Prop}
    (h : Tr c ρ t QT X) (r : Rd c ρ I s) (k : ∀ b s' I', Post c.l I s I' s' → Rd c ρ I' s' → QT b → R b s') (kE : ∀ e s' x, Exn c.l [] s e x s' → X x → E e s') :
    wpAny c.M c.A t R E s :=
  wpAny_mono (h I s r) (fun v s' ⟨I', a, d⟩ => k v s' I' a (r.post a) d) fun e s' ⟨x, a, b⟩ => kE e s' x a b

theorem truth {e : Sem Value} {I : Im} {s : Shared} (h : Ev c ρ e (fun p => TV c p QT) X) (r : Rd c ρ I s) : wpAny c.M c.A e (fun v s₁ => wpAny c.M c.A (truthy v) (QB c I s QT) (QE c s X) s₁) (QE c s X) s :=
  h.then r (fun _ _ I' _ a d r' q => tr_post a (q I' _ _ X d.none r')) fun _ _ x a b => ⟨x, a, b⟩
theorem Tr_val {e : Expr} (h : Ev c ρ (eval e c.env) (fun p => TV c p QT) X)
    (he : isTrue e c.env (eval e c.env) = (do let v ← eval e c.env; standAt e.pos; holding [v] (truthy v)) := by rfl) : Tr c ρ (isTrue e c.env (eval e c.env)) QT X :=
  fun I s r => isTrue_plain (truth h r) he
theorem Tr_cmp {l r : Expr} {op : CmpOp} {pos : Pos} {wh : Sem Value}
    (h : Ev c ρ (eval l c.env) (fun a => Ev c ρ (eval r c.env) (fun b => V2 c (compareOp op) a b (fun p => TV c p QT) X) X) X) (hm : behindInMarks op r = false := by with_unfolding_all rfl) :
    Tr c ρ (isTrue (.Compare l [op] [r] pos) c.env wh) QT X := fun I s d => by
  refine wpAny_isTrue_Compare1 ?_ hm
  refine h.then d (fun _ _ _ _ p₁ d₁ r₁ h₁ => h₁.then d₁ (fun _ _ _ _ p₂ d₂ r₂ h₂ => ?_) fun _ _ x a b => ⟨x, a.anchor p₁, b⟩) fun _ _ x a b => ⟨x, a, b⟩
  refine wpAny_mono (h₂ _ _ _ _ d₂.none (r₁.mono p₂.le) r₂) (fun v s₃ ⟨I₃, p, p₃, r₃, q₃⟩ => tr_post ((p₁.trans p₂).trans p₃) (q₃ _ _ _ X (d₂.post p₃).none r₃)) fun _ _ q => QE.post (p₁.trans p₂) q
theorem Tr_not {e : Expr} {pos : Pos} {wh : Sem Value} (h : Tr c ρ (isTrue e c.env (eval e c.env)) (fun b => QT (!b)) X) : Tr c ρ (isTrue (.UnaryOp .Not e pos) c.env wh) QT X := fun I s d => isTrue_not (wpAny_mono (h I s d) (fun _ _ ⟨I', a, q⟩ => ⟨I', a, q⟩) fun _ _ q => q)
theorem Tr_and_nil {pos : Pos} {wh : Sem Value} (h : QT true) : Tr c ρ (isTrue (.BoolOp .And [] pos) c.env wh) QT X := fun I s d => isTrue_and_nil ⟨I, Post.refl d.sub, h⟩
theorem Tr_or_nil {pos : Pos} {wh : Sem Value} (h : QT false) : Tr c ρ (isTrue (.BoolOp .Or [] pos) c.env wh) QT X := fun I s d => isTrue_or_nil ⟨I, Post.refl d.sub, h⟩
theorem Tr_and {x : Expr} {rest : List Expr} {pos : Pos} {wh : Sem Value} (h : Tr c ρ (isTrue x c.env (eval x c.env)) (fun b => if b then Tr c ρ (isTrue (.BoolOp .And rest pos) c.env wh) QT X else QT false) X) :
    Tr c ρ (isTrue (.BoolOp .And (x :: rest) pos) c.env wh) QT X := fun I s d => isTrue_and (h.then d (fun b s' I' a r q => by
      cases b with
      | false => exact ⟨I', a, q⟩
      | true => exact tr_post a (q I' s' r)) fun _ _ x a b => ⟨x, a, b⟩)
theorem Tr_or {x : Expr} {rest : List Expr} {pos : Pos} {wh : Sem Value} (h : Tr c ρ (isTrue x c.env (eval x c.env)) (fun b => if b then QT true else Tr c ρ (isTrue (.BoolOp .Or rest pos) c.env wh) QT X) X) :
    Tr c ρ (isTrue (.BoolOp .Or (x :: rest) pos) c.env wh) QT X := fun I s d => isTrue_or (h.then d (fun b s' I' a r q => by
      cases b with
      | true => exact ⟨I', a, q⟩
      | false => exact tr_post a (q I' s' r)) fun _ _ x a b => ⟨x, a, b⟩)

theorem Ev_ifexp {t b o : Expr} {pos : Pos} (h : Tr c ρ (isTrue t c.env (eval t c.env)) (fun z => if z then Ev c ρ (eval b c.env) Q X else Ev c ρ (eval o c.env) Q X) X) : Ev c ρ (eval (.IfExp t b o pos) c.env) Q X :=
  fun I s d => IfExp_ (h.then d (fun z s' I' a r q => by cases z <;> exact ev_post a (q I' s' r)) fun _ _ x a b => ⟨x, a, b⟩)
theorem Ev_bool1 {op : BoolOp} {e : Expr} {pos : Pos} (h : Ev c ρ (eval e c.env) Q X) : Ev c ρ (eval (.BoolOp op [e] pos) c.env) Q X := fun I s d => BoolOp_one (h I s d)
theorem Ev_and {e e' : Expr} {rest : List Expr} {pos : Pos} (h : Ev c ρ (eval e c.env) (fun p => TV c p (fun b => if b then Ev c ρ (eval (.BoolOp .And (e' :: rest) pos) c.env) Q X else Q p)) X) :
    Ev c ρ (eval (.BoolOp .And (e :: e' :: rest) pos) c.env) Q X := fun I s d => by
  refine BoolOp_and (h.then d (fun v s' I' p a r r' q => ?_) fun _ _ x a b => ⟨x, a, b⟩)
  refine wpAny_mono (q I' s' v X r.none r') (fun z s₂ ⟨I₂, a₂, q₂⟩ => ?_) fun _ _ q => QE.post a q
  cases z with
  | true => exact ev_post (a.trans a₂) (q₂ I₂ s₂ (r.post a₂))
  | false => exact ⟨I₂, p, a.trans a₂, r'.mono a₂.le, q₂⟩
theorem Ev_or {e e' : Expr} {rest : List Expr} {pos : Pos} (h : Ev c ρ (eval e c.env) (fun p => TV c p (fun b => if b then Q p else Ev c ρ (eval (.BoolOp .Or (e' :: rest) pos) c.env) Q X)) X) :
    Ev c ρ (eval (.BoolOp .Or (e :: e' :: rest) pos) c.env) Q X := fun I s d => by
  refine BoolOp_or (h.then d (fun v s' I' p a r r' q => ?_) fun _ _ x a b => ⟨x, a, b⟩)
  refine wpAny_mono (q I' s' v X r.none r') (fun z s₂ ⟨I₂, a₂, q₂⟩ => ?_) fun _ _ q => QE.post a q
  cases z with
  | false => exact ev_post (a.trans a₂) (q₂ I₂ s₂ (r.post a₂))
  | true => exact ⟨I₂, p, a.trans a₂, r'.mono a₂.le, q₂⟩

noncomputable def EvL (c : Cx) (ρ : PEnv) : List Expr → (List PV → Prop) → (PX → Prop) → Prop
  | [], Q, _ => Q []
  | e :: es, Q, X => Ev c ρ (eval e c.env) (fun p => EvL c ρ es (fun ps => Q (p :: ps)) X) X
theorem EvL.spliced {args : List (Bool × Sem Value)} : ∀ {es : List Expr} {Q : List PV → Prop} {X : PX → Prop} {I : Im} {s : Shared} {R : List Value → Shared → Prop} {E : Value → Shared → Prop},
    args = es.map (fun e => (false, eval e c.env)) → EvL c ρ es Q X → Rd c ρ I s →
    (∀ vs s' I' ps, Post c.l I s I' s' → Rd c ρ I' s' → RepAll I' vs ps → Q ps → R vs s') → (∀ e s' x, Exn c.l [] s e x s' → X x → E e s') → wpAny c.M c.A (PySem.spliced args) R E s := by
  intro es
  induction es generalizing args with
  | nil => intro Q X I s R E ha h r k _; subst ha; exact spliced_nil (k [] s I [] (Post.refl r.sub) r .nil h)
  | cons e es ih =>
    intro Q X I s R E ha h r k kE
    subst ha
    refine spliced_cons (h.then r (fun v s' I' p a r' rv q => ?_) kE)
    exact ih rfl q r' (fun vs s'' I'' ps a' r'' rvs q' => k (v :: vs) s'' I'' (p :: ps) (a.trans a') r'' (.cons (rv.mono a'.le) rvs) q') fun e s' x y z => kE e s' x (y.anchor a) z

noncomputable def Keeps (c : Cx) (f : Value) : Prop := ∀ I s, Rd c [] I s → ∃ k, (k = Keeper.frame ∨ k = Keeper.machine ∨ k = Keeper.boundFrame) ∧ Looks c.M s.heap (keeperOf f) k
theorem Keeps.builtin (i : String) : Keeps c (.builtin i) := fun _ _ _ => ⟨.machine, .inr (.inl rfl), .now⟩
theorem Keeps.type (i : String) : Keeps c (.type i) := fun _ _ _ => ⟨.machine, .inr (.inl rfl), .now⟩
theorem Keeps.K {f : Value} (h : keepIn c.W.K f = true) : Keeps c f := fun _ _ r => keeps_K h _ r.inK

theorem backTo_map {pos : Pos} {env : Env} : ∀ {es : List Expr}, starEach es env = es.map (fun e => (false, eval e env)) → backTo pos (starEach es env) = es.map fun e => (false, eval e env) := by
  intro es h
  rw [h]
  unfold backTo
  rw [List.map_map]
  rfl
theorem callWith_ev {pos : Pos} {f : Value} {args : List (Bool × Sem Value)} {es : List Expr} {I : Im} {s : Shared} (hk : Keeps c f) (ha : args = es.map fun e => (false, eval e c.env)) (h : EvL c ρ es (fun ps => CallV c f ps Q X) X) (r : Rd c ρ I s) :
    wpAny c.M c.A (callWith pos f [] args []) (QV c I s Q) (QE c s X) s := by
  have hp : (args.any (·.1) || ([] : List (Option Str × Sem Value)).any (·.1.isNone)) = false := by
    rw [ha]; simp
  refine callWith_of (P := fun h => ∃ k, (k = Keeper.frame ∨ k = Keeper.machine ∨ k = Keeper.boundFrame) ∧ Looks c.M h (keeperOf f) k) hp (fun h hk => hk) ?_
  have fin : ∀ vs s' I' ps, Post c.l I s I' s' → Rd c ρ I' s' → RepAll I' vs ps → CallV c f ps Q X →
      (∃ k, (k = Keeper.frame ∨ k = Keeper.machine ∨ k = Keeper.boundFrame) ∧ Looks c.M s'.heap (keeperOf f) k) ∧ wpAny c.M c.A (call f ([] ++ vs) []) (QV c I s Q) (QE c s X) s' :=
    fun vs s' I' ps a r' rv q => ⟨hk I' s' r'.none, ev_post a (q I' s' vs r'.none rv)⟩
  cases es with
  | nil => subst ha; exact evalArgs_nil3 (fin [] s I [] (Post.refl r.sub) r .nil h)
  | cons e es =>
    subst ha
    exact evalArgs_plain (EvL.spliced rfl h r fin fun e s' x y z => ⟨x, y, z⟩)

theorem Ev_call {x : Str} {px pos : Pos} {es : List Expr} {f : Value} (hx : NameIs c x f) (hk : Keeps c f) (h : EvL c ρ es (fun ps => CallV c f ps Q X) X)
    (hs : starEach es c.env = es.map (fun e => (false, eval e c.env)) := by rfl) : Ev c ρ (eval (.Call (.Name x px) es [] pos) c.env) Q X := fun I s r => by
  show wpAny c.M c.A (do callWith pos (← eval (.Name x px) c.env) [] (backTo pos (starEach es c.env)) (backToKw pos (keywordEach [] c.env))) _ _ s
  exact wpAny_bind (name_is r hx (callWith_ev hk (backTo_map hs) h r))
theorem Ev_callv {x : Str} {px pos : Pos} {es : List Expr} {a : Addr} (hx : ρ.lookup x = some (.func a)) (hk : keepIn c.W.K (.ref a) = true) (h : EvL c ρ es (fun ps => CallV c (.ref a) ps Q X) X)
    (hs : starEach es c.env = es.map (fun e => (false, eval e c.env)) := by rfl) (hd : (x == ("__debug__" : Str)) = false := by decide) (hn : (x == ("__classdict__" : Str)) = false := by decide) : Ev c ρ (eval (.Call (.Name x px) es [] pos) c.env) Q X := fun I s r => by
  show wpAny c.M c.A (do callWith pos (← eval (.Name x px) c.env) [] (backTo pos (starEach es c.env)) (backToKw pos (keywordEach [] c.env))) _ _ s
  refine wpAny_bind ?_
  obtain ⟨v, hv, hr⟩ := r.vars x _ hx
  cases hr
  have fin := callWith_ev (pos := pos) (Keeps.K hk) (backTo_map (pos := pos) hs) h r
  refine wpAny_Name ?_ hd
  rcases hv with ⟨hk, m, hm, e⟩ | ⟨hk | hk, cl, hc, hcell⟩
  · exact wpAny_loadName_local r.ok.kind hk hm e fin
  · exact wpAny_loadName_cell r.ok.kind hk hc hcell fin
  · exact wpAny_loadName_free r.ok.kind hk hc hcell fin hn
end

section
variable {c : Cx} {F : Fm} {ρ : PEnv} {σ : Ow} {K : PK}
theorem Sx_if {t : Expr} {b o : List Stmt} {pos : Pos} (h : Tr c ρ (isTrue t c.env (eval t c.env)) (fun z => if z then Sx c F ρ σ (execs b c.env) K else Sx c F ρ σ (execs o c.env) K) K.exc) :
    Sx c F ρ σ (exec (.If t b o pos) c.env) K := fun I s S =>
  wpAny_If (h.then S.rd (fun z s' I' a r q => by
    cases z <;> exact wpAny_mono (q I' s' (S.post a)) (fun _ _ ⟨J, hle, y⟩ => ⟨J, a.le.trans hle, y⟩) fun _ _ y => y) fun _ _ x a b => ⟨x, S.exn a, b⟩)
end
end
section
open PySem PySem.W PySem.Calls PyProof.Rows
structure ExnS (c : Cx) (F : Fm) (st : Option Value) (ea : Addr) (x : PX) (s' : Shared) : Prop where
  kept : KeptX F.outer F.mu F.h₀ s'.heap
  gens : s'.gens = F.gens
  os : s'.os = F.os
  frames : ∀ env ∈ c.l, env.scope.kind ≠ .module ∧ ∃ L o, env.frame = some L ∧ s'.heap.get? L = some o ∧ ∀ vs, o.data ≠ .fields vs
  exc : ExcSt F.h₀ s'.heap st ea x

theorem ExnF.st {c : Cx} {F : Fm} {e : Value} {x : PX} {s' : Shared} (y : ExnF c F e x s') : ∃ ea st, e = .ref ea ∧ (st = none ∨ st = some .none ∨ st = some (rawInt c.env.locals)) ∧ ExnS c F st ea x s' := by
  obtain ⟨ea, q, st, a, b⟩ := y.exc
  refine ⟨ea, st, q, b.imp id (Or.imp id fun ⟨L, hm, e⟩ => ?_), y.kept, y.gens, y.os, y.frames, a⟩
  rw [List.mem_singleton.mp hm] at e; exact e

theorem ExnS.turn {c : Cx} {F : Fm} {st st' : Option Value} {ea : Addr} {x : PX} {s' s'' : Shared} (y : ExnS c F st ea x s')
    (hs : ∀ b o, s'.heap.get? b = some o → (∀ vs, o.data ≠ .fields vs) → ∃ sl, s''.heap.get? b = some { o with slots := sl })
    (hr : ∀ b o, s'.heap.get? b = some o → F.h₀.get? b ≠ none → b ∉ c.l.filterMap (·.frame) → s''.heap.get? b = some o)
    (hl : c.l = c.env :: F.outer) (hf : c.env.frame = some c.env.locals) (hL : F.h₀.get? c.env.locals = none)
    (hg : s''.gens = s'.gens) (ho : s''.os = s'.os) (he : ExcSt F.h₀ s''.heap st' ea x) : ExnS c F st' ea x s'' where
  kept := fun a o e => by
    obtain ⟨⟨o', h0⟩, h1⟩ := y.kept a o e
    have hne : F.h₀.get? a ≠ none := by rw [e]; exact fun q => nomatch q
    have haL : a ≠ c.env.locals := fun q => by rw [q, hL] at e; cases e
    by_cases hm : a ∈ c.l.filterMap (·.frame)
    · obtain ⟨env, henv, hfe⟩ := List.mem_filterMap.mp hm
      obtain ⟨_, L, oL, hfL, hoL, hd⟩ := y.frames env henv
      rw [hfe] at hfL; cases hfL
      rw [h0] at hoL; cases hoL
      obtain ⟨sl, hsl⟩ := hs a o' h0 hd
      refine ⟨⟨_, hsl⟩, fun hmu => ?_⟩
      obtain ⟨⟨sl1, h2⟩, h3⟩ := h1 hmu
      rw [h0] at h2; cases h2
      refine ⟨⟨sl, hsl⟩, fun hn => absurd hm fun hm' => ?_⟩
      rw [hl, List.filterMap_cons, hf] at hm'
      rcases List.mem_cons.mp hm' with q | q
      · exact haL q
      · exact hn q
    · have h2 := hr a o' h0 hne hm
      refine ⟨⟨o', h2⟩, fun hmu => ?_⟩
      obtain ⟨⟨sl1, h3⟩, h4⟩ := h1 hmu
      refine ⟨⟨sl1, hr a _ h3 hne hm⟩, fun hn => hr a o (h4 hn) hne hm⟩
  gens := hg.trans y.gens
  os := ho.trans y.os
  frames := fun env henv => by
    obtain ⟨hk, L, o, hf', ho', hd⟩ := y.frames env henv
    obtain ⟨sl, hsl⟩ := hs L o ho' hd
    exact ⟨hk, L, _, hf', hsl, hd⟩
  exc := he

theorem ExnS.fun {c : Cx} {F : Fm} {st : Option Value} {ea : Addr} {x : PX} {s' : Shared} (y : ExnS c F st ea x s') {base : Heap} (hb : ∀ env ∈ c.l, ∀ L, env.frame = some L → base.get? L = none) : s'.heap.FunFrames base c.l := by
  have key : ∀ l : List Env, (∀ env ∈ l, env ∈ c.l) → s'.heap.FunFrames base l := by
    intro l
    induction l with
    | nil => intro _; trivial
    | cons env r ih =>
      intro h
      obtain ⟨hk, L, o, hf, ho, hd⟩ := y.frames env (h env (.head _))
      exact ⟨hk, ⟨L, o, hf, hb env (h env (.head _)) L hf, ho, hd⟩, ih fun e he => h e (.tail _ he)⟩
  exact key c.l fun _ h => h

theorem hide_frames {c : Cx} : ∀ env ∈ c.l, ∀ L, env.frame = some L → ({} : Heap).get? L = none := fun _ _ _ _ => rfl

section
variable {c : Cx} {F : Fm} {ea : Addr} {x : PX} {s : Shared} {A : Around} {E : Value → Shared → Prop} {Q : Unit → Shared → Prop}

theorem new_entry {st : Option Value} {head : Value} {had : Bool} (hA : A.frames = some c.l) (hl : c.l = c.env :: F.outer) (hf : c.env.frame = some c.env.locals) (hL : F.h₀.get? c.env.locals = none) (y : ExnS c F st ea x s)
    (h : ∀ s', ExnS c F (some (rawInt c.env.locals)) ea x s' → Q () s') :
    wpAny c.M A (do let a ← frameOf c.env; let pl ← entryPlaceOf c.env.locals had; let b ← EntryCells.newEntry head a .none (rawInt c.env.locals) .none pl; setField (.ref ea) 1 b) Q E s := by
  obtain ⟨oe, vs, d, od, tk, a0, e1, e2, e3, e4, e5, e6, e7, e8, e9, e10⟩ := y.exc
  have hfun := y.fun (base := {}) hide_frames
  have hea : ea ∉ c.l.filterMap (·.frame) := fun hm => by
    obtain ⟨env, he, hfe⟩ := List.mem_filterMap.mp hm
    obtain ⟨_, L, o, hf', ho, hd⟩ := y.frames env he
    rw [hfe] at hf'; cases hf'
    rw [e1] at ho; cases ho
    exact hd vs e5
  have hvs : 1 < vs.size := by
    cases st with
    | none => exact (Array.getElem?_eq_some_iff.mp e10).1
    | some v => obtain ⟨T, oT, ts, t1, _⟩ := e10; exact (Array.getElem?_eq_some_iff.mp t1).1
  have hA' : A.frames = some (c.env :: F.outer) := by rw [hA, hl]
  rw [hl] at hfun
  refine wpAny_bind (wpAny_frameOf_fun hA' hfun hf fun h₁ hs₁ => ?_)
  rw [← hl] at hs₁
  refine wpAny_bind (wpAny_entryPlaceOf fun pl hpl => ?_)
  unfold EntryCells.newEntry newFields
  refine wpAny_bind (wpAny_newObj_type ?_ (hpl.sizeOk5 _ _ _ _ _))
  generalize hoT : ({ cls := .type "traceback", dict := none, data := .fields ([head, .ref c.env.locals, .none, rawInt c.env.locals, .none] ++ (if pl.isEmpty then List.replicate 6 Value.none else pl)).toArray } : Obj) = oT
  have hTf : oT.isFreed = false := by rw [← hoT]; rfl
  have hTd : ∃ ts, oT.data = .fields ts ∧ ts[3]? = some (rawInt c.env.locals) := by rw [← hoT]; exact ⟨_, rfl, by simp⟩
  have ea₁ : h₁.get? ea = some oe := (hs₁.2.1 ea hea).trans e1
  have ea₂ := Heap.get?_push_of_some oT ea₁
  have hTe : h₁.objs.size ≠ ea := Nat.ne_of_gt (Heap.lt_size ea₁)
  refine wpAny_setField ea₂ e5 hvs (h _ ?_)
  have hd₃ := Obj.data_mapFields e5 (·.setIfInBounds 1 (Value.ref h₁.objs.size))
  have keep : ∀ b o, b ≠ ea → h₁.get? b = some o → ((h₁.push oT).update ea (Obj.mapFields (·.setIfInBounds 1 (Value.ref h₁.objs.size)))).get? b = some o := fun b o hb q => by
    rw [Heap.get?_update_other _ _ (Ne.symm hb)]; exact Heap.get?_push_of_some _ q
  have hfree : F.h₀.get? h₁.objs.size = none := by
    cases q : F.h₀.get? h₁.objs.size with
    | none => rfl
    | some o =>
      obtain ⟨⟨o', q'⟩, _⟩ := y.kept _ _ q
      have := Heap.lt_size q'
      rw [hs₁.1] at this
      exact absurd this (Nat.lt_irrefl _)
  refine y.turn (fun b o hb hn => ?_) (fun b o hb hne hm => ?_) hl hf hL rfl rfl ?_
  · obtain ⟨sl, hsl⟩ := hs₁.2.2 b o hb
    exact ⟨sl, keep b _ (fun q => by rw [q, e1] at hb; cases hb; exact hn vs e5) hsl⟩
  · exact keep b o (fun q => hne (q ▸ e2)) ((hs₁.2.1 b hm).trans hb)
  · obtain ⟨sl, hsl⟩ := hs₁.2.2 d od e7
    obtain ⟨ts, ht, ht3⟩ := hTd
    refine ⟨_, _, d, _, tk, a0, Heap.get?_update_self _ ea₂ (Obj.isFreed_of_fields hd₃), e2, (Obj.cls_mapFields ..).trans e3, ?_, hd₃, ?_, keep d _ (fun q => ?_) hsl, ?_, ?_, h₁.objs.size, oT, ts, ?_, hTe, hfree, ?_, ht, ht3⟩
    · obtain ⟨_, _, dt, _⟩ := oe
      cases e5; exact e4
    · rw [Array.getElem?_setIfInBounds_ne (by decide)]; exact e6
    · rw [q, e1] at e7; cases e7; exact e8.1 vs e5
    · exact ⟨fun vs' q => e8.1 vs' q, e8.2⟩
    · exact e9
    · simp [hvs]
    · rw [Heap.get?_update_other _ _ (Ne.symm hTe)]; exact Heap.get?_push_size _ hTf

theorem mark_entry {v v' : Value} (hl : c.l = c.env :: F.outer) (hf : c.env.frame = some c.env.locals) (hL : F.h₀.get? c.env.locals = none) (y : ExnS c F (some v) ea x s) :
    ∃ T, wpAny c.M A (field (.ref ea) 1) (fun tb s' => tb = .ref T ∧ s' = s) E s ∧ (∀ R : Unit → Shared → Prop, (∀ s', ExnS c F (some v') ea x s' → R () s') → wpAny c.M A (setField (.ref T) 3 v') R E s) ∧ wpAny c.M A (field (.ref T) 3) (fun u s' => u = v ∧ s' = s) E s := by
  obtain ⟨oe, vs, d, od, tk, a0, e1, e2, e3, e4, e5, e6, e7, e8, e9, T, oT, ts, t1, t2, t3, t4, t5, t6⟩ := y.exc
  refine ⟨T, wpAny_field e1 e5 t1 ⟨rfl, rfl⟩, fun R h => ?_, wpAny_field t4 t5 t6 ⟨rfl, rfl⟩⟩
  have h3 : 3 < ts.size := (Array.getElem?_eq_some_iff.mp t6).1
  refine wpAny_setField t4 t5 h3 (h _ ?_)
  have hd₃ := Obj.data_mapFields t5 (·.setIfInBounds 3 v')
  have keep : ∀ b, b ≠ T → (s.heap.update T (Obj.mapFields (·.setIfInBounds 3 v'))).get? b = s.heap.get? b := fun b hb => Heap.get?_update_other _ _ (Ne.symm hb)
  refine y.turn (fun b o hb hn => ⟨o.slots, (keep b (fun q => ?_)).trans hb⟩) (fun b o hb hne hm => (keep b (fun q => hne (q ▸ t3))).trans hb) hl hf hL rfl rfl ?_
  · rw [q, t4] at hb; cases hb; exact hn ts t5
  · refine ⟨oe, vs, d, od, tk, a0, (keep ea (Ne.symm t2)).trans e1, e2, e3, e4, e5, e6, (keep d fun q => ?_).trans e7, e8, e9, T, _, _, t1, t2, t3, Heap.get?_update_self _ t4 (Obj.isFreed_of_fields hd₃), hd₃, by simp [h3]⟩
    rw [q, t4] at e7; cases e7; exact e8.1 ts t5

theorem note_x {st : Option Value} (hst : st = none ∨ st = some .none ∨ st = some (rawInt c.env.locals)) (hA : A.frames = some c.l) (hl : c.l = c.env :: F.outer) (hf : c.env.frame = some c.env.locals) (hL : F.h₀.get? c.env.locals = none) (y : ExnS c F st ea x s)
    (h : ∀ s', ExnS c F (some (rawInt c.env.locals)) ea x s' → Q () s') : wpAny c.M A (noteFrame (.ref ea) c.env) Q E s := by
  unfold noteFrame
  simp only [hf]
  rcases hst with rfl | rfl | rfl
  · obtain ⟨oe, vs, d, od, tk, a0, e1, e2, e3, e4, e5, e6, e7, e8, e9, e10⟩ := id y.exc
    refine wpAny_bind (wpAny_field e1 e5 e10 ?_)
    rw [if_neg (by decide)]
    exact new_entry hA hl hf hL y h
  · obtain ⟨T, q1, q2, q3⟩ := mark_entry (A := A) (E := E) (v' := .none) hl hf hL y
    refine wpAny_bind (wpAny_mono q1 (fun tb s' ⟨a, b⟩ => ?_) fun _ _ z => z)
    subst a b
    rw [if_pos (show (Value.ref T != Value.none) = true from by simp)]
    refine wpAny_bind (wpAny_mono q3 (fun u s'' ⟨a, b⟩ => ?_) fun _ _ z => z)
    subst a b
    rw [if_neg (show ¬ ((Value.none == rawInt c.env.locals) = true) from by simp [rawInt])]
    exact wpAny_bind (q2 _ fun s' y' => new_entry hA hl hf hL y' h)
  · obtain ⟨T, q1, q2, q3⟩ := mark_entry (A := A) (E := E) (v' := .none) hl hf hL y
    refine wpAny_bind (wpAny_mono q1 (fun tb s' ⟨a, b⟩ => ?_) fun _ _ z => z)
    subst a b
    rw [if_pos (show (Value.ref T != Value.none) = true from by simp)]
    refine wpAny_bind (wpAny_mono q3 (fun u s'' ⟨a, b⟩ => ?_) fun _ _ z => z)
    subst a b
    rw [if_pos (show (rawInt c.env.locals == rawInt c.env.locals) = true from by simp)]
    exact wpAny_pure (h _ y)

theorem flight_x {v : Value} {fr : Option Addr} (hl : c.l = c.env :: F.outer) (hf : c.env.frame = some c.env.locals) (hL : F.h₀.get? c.env.locals = none) (y : ExnS c F (some v) ea x s)
    (h : ∀ s', ExnS c F (some (fr.elim .none fun f => rawInt f)) ea x s' → Q () s') : wpAny c.M A (setFlight (.ref ea) fr) Q E s := by
  unfold setFlight
  obtain ⟨T, q1, q2, q3⟩ := mark_entry (A := A) (E := E) (v' := fr.elim .none fun f => rawInt f) hl hf hL y
  refine wpAny_bind (wpAny_mono q1 (fun tb s' ⟨a, b⟩ => ?_) fun _ _ z => z)
  subst a b
  rw [if_pos (show (Value.ref T != Value.none) = true from by simp)]
  exact q2 _ h

theorem leave_x {e : Value} (hA : A.frames = some c.l) (hl : c.l = c.env :: F.outer) (hf : c.env.frame = some c.env.locals) (hL : F.h₀.get? c.env.locals = none) (hmu : F.mu = []) (y : ExnF c F e x s)
    (h : ∀ s' s₀, s₀.heap = F.h₀ → s₀.gens = F.gens → s₀.os = F.os → Exn F.outer [] s₀ e x s' → Q () s') : wpAny c.M A (leaving c.env e) Q E s := by
  obtain ⟨ea, st, rfl, hst, y'⟩ := y.st
  unfold leaving
  refine wpAny_bind (note_x hst hA hl hf hL y' fun s₁ y₁ => flight_x hl hf hL y₁ fun s₂ y₂ => ?_)
  refine h s₂ ⟨F.h₀, F.gens, {}, 0, F.os⟩ rfl rfl rfl ⟨?_, y₂.gens, y₂.os, ea, rfl, _, y₂.exc, .inr (.inl rfl)⟩
  have k := y₂.kept
  rw [hmu] at k
  exact k.toF
end
end
section
open PySem PySem.W PySem.Calls PyProof.Rows
inductive RepB (I : Im) : List (Str × Value) → PEnv → Prop
  | nil : RepB I [] []
  | cons {n : Str} {v : Value} {p : PV} {bs : List (Str × Value)} {ρ : PEnv} : Rep I v p → RepB I bs ρ → RepB I ((n, v) :: bs) ((n, p) :: ρ)
theorem RepB.find {I : Im} {bs : List (Str × Value)} {ρ : PEnv} (h : RepB I bs ρ) : ∀ {x : Str} {p : PV}, ρ.lookup x = some p → ∃ v, (x, v) ∈ bs ∧ Rep I v p := by
  induction h with
  | nil => intro x p e; cases e
  | @cons n _ _ _ _ a _ ih =>
    intro x p e
    rw [List.lookup_cons] at e
    by_cases z : x = n
    · subst z; rw [beq_self_eq_true] at e; cases e; exact ⟨_, .head _, a⟩
    · rw [beq_eq_false_iff_ne.mpr z] at e; obtain ⟨v, h1, h2⟩ := ih e; exact ⟨v, .tail _ h1, h2⟩

theorem bindL_out {kf : Str → Option NameKind} : ∀ {bs : List (Str × Value)} {m : Str → Option Value} {x : Str}, x ∉ bs.map (·.1) → bindL kf bs m x = m x
  | [], _, _, _ => rfl
  | (n, v) :: r, m, x, h => by
    rw [bindL, bindL_out (fun q => h (List.mem_cons_of_mem _ q))]
    split
    · exact if_neg fun (q : x = n) => h (q ▸ List.mem_cons_self)
    · rfl
theorem bindL_in {kf : Str → Option NameKind} : ∀ {bs : List (Str × Value)} {m : Str → Option Value} {x : Str} {v : Value}, (bs.map (·.1)).Nodup → (x, v) ∈ bs → kf x = some .local → bindL kf bs m x = some v
  | (n, u) :: r, m, x, v, hn, hm, hk => by
    rw [List.map_cons, List.nodup_cons] at hn
    rw [bindL]
    rcases List.mem_cons.mp hm with q | q
    · cases q
      rw [bindL_out hn.1, if_pos hk]; exact if_pos rfl
    · exact bindL_in hn.2 q hk
theorem bindC_out {kf : Str → Option NameKind} : ∀ {bs : List (Str × Value)} {m : Str → Option Value} {x : Str}, x ∉ bs.map (·.1) → bindC kf bs m x = m x
  | [], _, _, _ => rfl
  | (n, v) :: r, m, x, h => by
    rw [bindC, bindC_out (fun q => h (List.mem_cons_of_mem _ q))]
    split
    · rfl
    · exact if_neg fun (q : x = n) => h (q ▸ List.mem_cons_self)
theorem bindC_in {kf : Str → Option NameKind} : ∀ {bs : List (Str × Value)} {m : Str → Option Value} {x : Str} {v : Value}, (bs.map (·.1)).Nodup → (x, v) ∈ bs → kf x ≠ some .local → bindC kf bs m x = some v
  | (n, u) :: r, m, x, v, hn, hm, hk => by
    rw [List.map_cons, List.nodup_cons] at hn
    rw [bindC]
    rcases List.mem_cons.mp hm with q | q
    · cases q
      rw [bindC_out hn.1, if_neg hk]; exact if_pos rfl
    · exact bindC_in hn.2 q hk

theorem cells_some : ∀ {names : List (Str × NameKind)} {n : Nat} {acc : List (Str × Addr)} {x : Str}, ((acc.lookup x).isSome = true ∨ names.lookup x = some .cell) → ((cellsFrom n names acc).lookup x).isSome = true
  | [], _, _, _, h => h.elim id fun h => nomatch h
  | (y, k) :: r, n, acc, x, h => by
    unfold cellsFrom
    split
    · rename_i hk
      refine cells_some ?_
      rw [List.lookup_cons] at h ⊢
      by_cases z : x = y
      · subst z; rw [beq_self_eq_true]; exact .inl rfl
      · rw [beq_eq_false_iff_ne.mpr z] at h ⊢; exact h
    · rename_i hk
      refine cells_some ?_
      rw [List.lookup_cons] at h
      by_cases z : x = y
      · subst z
        rw [beq_self_eq_true] at h
        rcases h with h | h
        · exact .inl h
        · cases h; exact absurd rfl hk
      · rw [beq_eq_false_iff_ne.mpr z] at h; exact h

noncomputable def inside (c : Cx) (fd : FuncData) (N a : Addr) : Cx := ⟨c.W, callEnvC fd N a, c.A.deeper (callEnvC fd N a), callEnvC fd N a :: c.l, c.n - 1⟩

noncomputable def kindsOk (fd : FuncData) (ρ : PEnv) : Bool := ρ.all fun x => fd.scope.names.lookup x.1 == some .local || fd.scope.names.lookup x.1 == some .cell

noncomputable def plainFd (fd : FuncData) : Prop := fd.scope.isCoroutine = false ∧ fd.scope.isGenerator = false ∧ fd.scope.kind = .function ∧ fd.globals = mainGlobals ∧ fd.builtins = builtinsNs ∧ fd.closure = []


noncomputable def Binds (c : Cx) (fd : FuncData) (args : List PV) (ρ : PEnv) : Prop := ∀ I s vs, Rd c [] I s → RepAll I vs args → ∃ bs, BindsTo s fd ⟨vs, []⟩ bs ∧ RepB I bs ρ ∧ bs.map (·.1) = ρ.map (·.1)

theorem wpAny_enter {c : Cx} {R : Result → Shared → Prop} {s : Shared} {a : Addr} {o : Obj} {fd : FuncData} {body : List Stmt} {vals : List Value} {binds : List (Str × Value)}
    (hroom : c.A.depth < recursionLimit) (ho : s.heap.get? a = some o) (hdata : o.data = .func fd) (hlim : s.heap.NoLimit) (hcd : s.heap.CodeRec fd.code fd.qualname)
    (hbody : fd.body = .stmts body) (hbind : BindsTo s fd ⟨vals, []⟩ binds) (hp : plainFd fd)
    (hkind : ∀ x ∈ binds, fd.scope.names.lookup x.1 = some .local ∨ (fd.scope.names.lookup x.1 = some .cell ∧ ((cellsFrom (s.heap.objs.size + 1) fd.scope.names []).lookup x.1).isSome = true))
    (h : ∀ s₁, InCallC s (callEnvC fd s.heap.objs.size a).locals (bindL (callEnvC fd s.heap.objs.size a).kindOf binds fun _ => none) (callEnvC fd s.heap.objs.size a).cells
        (bindC (callEnvC fd s.heap.objs.size a).kindOf binds fun _ => none) s₁ →
      wpAny c.M (c.A.deeper (callEnvC fd s.heap.objs.size a)) (execs body (callEnvC fd s.heap.objs.size a)) (fun f s' => R (.ok (.ret (match f with | .ret v => v | _ => .none))) s')
        (fun e s' => wpAny c.M (c.A.deeper (callEnvC fd s.heap.objs.size a)) (leaving (callEnvC fd s.heap.objs.size a) e) (fun _ s'' => R (.error e) s'') (fun e' s'' => R (.error e') s'') s') s₁) :
    codeAny c.M c.A (.call (.ref a) ⟨vals, []⟩) R s := by
  obtain ⟨hco, hgen, hk, hg, hb, hclo⟩ := hp
  refine codeAny_call_function hroom ho hdata hco hgen hbody hcd (hbind _ _ _ _ ?_)
  rw [hclo]
  refine wpAny_newFunctionEnv_cells hk hkind fun env he s' x => ?_
  subst he
  exact ⟨hlim.keeps x.toInCall.keep, codeAny_func (h s' x)⟩

theorem StackOk.inside {c : Cx} {I : Im} {s s₁ : Shared} {env : Env} {L : Addr} {m : Str → Option Value} (hk : env.scope.kind = .function) (hf : env.frame = some L) (hI : I L = none) (hn : s₁.heap.Ns L m) (x : Stack c.l I s.heap)
    (k : ∀ b o, s.heap.get? b = some o → s₁.heap.get? b = some o) : Stack (env :: c.l) I s₁.heap := fun e he => by
  rcases List.mem_cons.mp he with rfl | he
  · obtain ⟨o, es, ep, ho, hd, _⟩ := hn
    exact ⟨by rw [hk]; decide, L, o, hf, hI, ho, fun vs q => by rw [hd] at q; cases q⟩
  · obtain ⟨h1, L', o, h2, h3, h4, h5⟩ := x e he
    exact ⟨h1, L', o, h2, h3, k _ _ h4, h5⟩

noncomputable abbrev PK.fn (Q : PV → Prop) (X : PX → Prop) : PK := { next := fun _ _ => Q .none, ret := fun p _ => Q p, exc := X }
theorem call_def {c : Cx} {a : Addr} {o : Obj} {fd : FuncData} {body : List Stmt} {args : List PV} {ρ : PEnv} {Q : PV → Prop} {X : PX → Prop}
    (hK : c.W.K.lookup a = some o) (hdata : o.data = .func fd) (hcd : codeIn c.W.K fd.code fd.qualname = true) (hbody : fd.body = .stmts body) (hp : plainFd fd) (hn : 1 ≤ c.n)
    (hb : Binds c fd args ρ) (hko : kindsOk fd ρ = true) (hnd : (ρ.map (·.1)).Nodup)
    (h : ∀ N F, F.mu = [] → F.outer = c.l → Sx (inside c fd N a) F ρ none (execs body (inside c fd N a).env) (PK.fn Q X)) :
    CallV c (.ref a) args Q X := by
  intro I s vs r hr
  refine wpAny_call ?_
  obtain ⟨bs, hbt, hrb, hns⟩ := hb I s vs r hr
  have hroom : c.A.depth < recursionLimit := by have := r.ok.depth; show c.A.depth < 1000; lia
  have hkb : ∀ x ∈ bs, fd.scope.names.lookup x.1 = some .local ∨ fd.scope.names.lookup x.1 = some .cell := fun x hx => by
    have hm : x.1 ∈ ρ.map (·.1) := hns ▸ List.mem_map_of_mem hx
    obtain ⟨q, hq, hqe⟩ := List.mem_map.mp hm
    have := List.all_eq_true.mp hko q hq
    rw [Bool.or_eq_true, beq_iff_eq, beq_iff_eq, hqe] at this
    exact this
  refine wpAny_enter hroom (r.inK _ _ hK) hdata r.lim (codeRec_of r.inK hcd) hbody hbt hp (fun x hx => (hkb x hx).imp id fun q => ⟨q, cells_some (.inr q)⟩) fun s₁ x => ?_
  generalize hN : s.heap.objs.size = N at x ⊢
  have hIN : I N = none := hN ▸ r.sub.none_new
  have hsN : s.heap.get? N = none := hN ▸ get?_size _
  have keep := x.toInCall.keep
  obtain ⟨h₁, tk, hs₁⟩ := x.toInCall.same
  let F : Fm := ⟨s.heap, I, c.l, [], s.gens, s.os⟩
  have hcl : ∀ y cc, (callEnvC fd N a).cells.lookup y = some cc → N < cc := fun y cc e => x.above y cc (mem_of_lookup e)
  have S : St (inside c fd N a) F ρ none I s₁ := by
    refine ⟨⟨⟨?_, ?_, ?_, r.ok.handled, hp.2.2.1, hp.2.2.2.1, hp.2.2.2.2.1, r.ok.guards⟩, r.base, fun b o' e => keep b o' (r.sub b o' e), StackOk.inside hp.2.2.1 rfl hIN x.toInCall.ns r.stack keep, fun y p e => ?_⟩, rfl, rfl, .of_keeps keep, .refl _, fun _ _ e => .inl e, ?_, ?_, ⟨_, x.toInCall.ns⟩, ⟨hIN, hsN⟩, fun y cc e => ?_, x.apart, fun _ _ _ e => nomatch e⟩
    · exact Around.frames_deeper r.ok.frames
    · have := r.ok.depth; show c.A.depth + 1 + (c.n - 1) < 900; lia
    · have := r.ok.units; show c.A.units + 3 + 20 * (c.n - 1) + 100 < cLine; lia
    · obtain ⟨v, hv, hrv⟩ := hrb.find e
      refine ⟨v, ?_, hrv⟩
      have hnd' : (bs.map (·.1)).Nodup := hns ▸ hnd
      rcases hkb (y, v) hv with q | q
      · exact .inl ⟨q, _, x.toInCall.ns, bindL_in hnd' hv q⟩
      · obtain ⟨cc, hcc⟩ := Option.isSome_iff_exists.mp (cells_some (n := N + 1) (acc := []) (.inr q))
        refine .inr ⟨.inl q, cc, hcc, ?_⟩
        have := x.cell y cc hcc
        rwa [bindC_in hnd' hv (by show fd.scope.names.lookup y ≠ _; rw [q]; decide)] at this
    · rw [hs₁]
    · rw [hs₁]
    · have hlt := hcl y cc e
      have hnone : s.heap.get? cc = none := by
        cases q : s.heap.get? cc with
        | none => rfl
        | some o' => have := Heap.lt_size q; rw [hN] at this; exact absurd this (Nat.not_lt.mpr (Nat.le_of_lt hlt))
      refine ⟨⟨_, x.cell y cc e⟩, ?_, hnone⟩
      cases q : I cc with
      | none => rfl
      | some o' => have := r.sub _ _ q; rw [hnone] at this; cases this
  have fin : ∀ {σ : Ow} {ρ' : PEnv} {I' : Im} {s' : Shared}, St (inside c fd N a) F ρ' σ I' s' → Post c.l I s I' s' := fun S' => ⟨S'.le₀, S'.rd.sub, S'.fresh₀, S'.kept.toF, S'.gens, S'.os⟩
  refine wpAny_mono (h N F rfl rfl I s₁ S) (fun fl s' ⟨I', hle, q⟩ => ?_) fun e s' ⟨y, q, hX⟩ => ?_
  · cases fl with
    | next => obtain ⟨ρ', σ', S', hq⟩ := q; exact ⟨I', .none, fin S', .none, hq⟩
    | brk => obtain ⟨ρ', σ', S', hq⟩ := q; exact hq.elim
    | cont => obtain ⟨ρ', σ', S', hq⟩ := q; exact hq.elim
    | ret v => obtain ⟨p, σ', S', hr', hq⟩ := q; exact ⟨I', p, fin S', hr', hq⟩
  · refine leave_x (c := inside c fd N a) S.rd.ok.frames rfl rfl hsN rfl q fun s'' s₀ e1 e2 e3 z => ?_
    refine ⟨y, ⟨?_, z.gens.trans e2, z.os.trans e3, ?_⟩, hX⟩
    · have := z.kept; rw [e1] at this; exact this
    · obtain ⟨ea, w1, w2⟩ := z.exc; rw [e1] at w2; exact ⟨ea, w1, w2⟩
end
section
open PySem PySem.W PySem.Calls PyProof.Rows
theorem es_noted {c : Cx} {F : Fm} {ρ : PEnv} {σ : Ow} {I : Im} {s : Shared} {X : PX → Prop} (S : St c F ρ σ I s) {e : Value} {s' : Shared} (h : ES c F X e s') :
    notedBy c.M c.A c.env (cameBackBy c.M c.A c.env (ES c F X)) e s' := by
  obtain ⟨x, y, hX⟩ := h
  obtain ⟨ea, st, rfl, hst, y'⟩ := y.st
  refine note_x hst S.rd.ok.frames S.hl S.hf S.own.2 y' fun s₁ y₁ => ?_
  unfold cameBackBy
  obtain ⟨oe, vs, d, od, tk, a0, e1, e2, e3, e4, e5, e6, e7, e8, e9, T, oT, ts, t1, t2, t3, t4, t5, t6⟩ := id y₁.exc
  refine wpAny_bind (wpAny_field e1 e5 t1 ?_)
  rw [if_neg (by simp)]
  refine flight_x S.hl S.hf S.own.2 y₁ fun s₂ y₂ => ?_
  rw [S.hf] at y₂
  exact ⟨x, ⟨y₂.kept, y₂.gens, y₂.os, y₂.frames, ea, rfl, _, y₂.exc, .inr (.inr ⟨_, .head _, rfl⟩)⟩, hX⟩

noncomputable def Loose1 (o : Obj) : Prop := ¬ Solid o ∧ ∃ vs, o.data = .fields vs

section
variable {c : Cx} {F : Fm} {ρ : PEnv} {σ : Ow} {I : Im} {s s' : Shared} {it : Addr}

theorem Stack.not_rec {l : List Env} {h : Heap} (x : Stack l I h) {o : Obj} {vs : Array Value} (e : h.get? it = some o) (hd : o.data = .fields vs) : it ∉ l.filterMap (·.frame) := fun hm => by
  obtain ⟨env, he, hf⟩ := List.mem_filterMap.mp hm
  obtain ⟨_, L, o', hf', _, ho, hn⟩ := x env he
  rw [hf] at hf'; cases hf'
  rw [e] at ho; cases ho
  exact hn vs hd

theorem St.off (S : St c F ρ σ I s) {o : Obj} (e : s.heap.get? it = some o) (hl : Loose1 o) (hI : I it = none) (h0 : F.h₀.get? it = none)
    (k : ∀ b o, b ≠ it → s.heap.get? b = some o → s'.heap.get? b = some o) (hg : s'.gens = s.gens) (ho : s'.os = s.os) : St c F ρ σ I s' := by
  obtain ⟨_, vs, hd⟩ := hl
  have nf : ∀ b o', s.heap.get? b = some o' → (∀ vs, o'.data ≠ .fields vs) → s'.heap.get? b = some o' := fun b o' hb hn => k b o' (fun q => by rw [q, e] at hb; cases hb; exact hn vs hd) hb
  have hns : ∀ {a m}, s.heap.Ns a m → s'.heap.Ns a m := fun ⟨o', es, ep, ho', hd', r⟩ => ⟨o', es, ep, nf _ _ ho' fun vs q => by (rw [hd'] at q; cases q), hd', r⟩
  have hcell : ∀ {a v}, s.heap.IsCell a v → s'.heap.IsCell a v := fun ⟨o', ho', hd'⟩ => ⟨o', nf _ _ ho' fun vs q => by (rw [hd'] at q; cases q), hd'⟩
  have hold : ∀ {x v}, Holds s.heap c.env x v → Holds s'.heap c.env x v := fun h => by
    rcases h with ⟨a, m, hm, q⟩ | ⟨a, cl, hc, hv⟩
    · exact .inl ⟨a, m, hns hm, q⟩
    · exact .inr ⟨a, cl, hc, hcell hv⟩
  exact {
    rd := ⟨S.rd.ok, S.rd.base, fun a o' q => k a o' (fun z => by rw [z, hI] at q; cases q) (S.rd.sub a o' q), fun env he => by
      obtain ⟨hk, L, o', hf, hL, hL2, hd'⟩ := S.rd.stack env he
      exact ⟨hk, L, o', hf, hL, nf _ _ hL2 hd', hd'⟩, fun x p q => let ⟨v, h1, h2⟩ := S.rd.vars x p q; ⟨v, hold h1, h2⟩⟩
    hl := S.hl
    hf := S.hf
    kept := fun a o' q => by
      have hne : a ≠ it := fun z => by rw [z, h0] at q; cases q
      obtain ⟨⟨o1, h1⟩, h2⟩ := S.kept a o' q
      refine ⟨⟨o1, k a o1 hne h1⟩, fun hm => ?_⟩
      obtain ⟨⟨sl, h3⟩, h4⟩ := h2 hm
      exact ⟨⟨sl, k a _ hne h3⟩, fun hn => k a o' hne (h4 hn)⟩
    le₀ := S.le₀
    fresh₀ := S.fresh₀
    gens := hg.trans S.gens
    os := ho.trans S.os
    ns := let ⟨m, hm⟩ := S.ns; ⟨m, hns hm⟩
    own := S.own
    cells := fun x a q => let ⟨⟨v, hv⟩, r⟩ := S.cells x a q; ⟨⟨v, hcell hv⟩, r⟩
    apart := S.apart
    owned := fun x a ow q => by
      obtain ⟨h1, h2, h3⟩ := S.owned x a ow q
      refine ⟨hold h1, ?_, h3⟩
      cases ow with
      | list ps => obtain ⟨o1, vs1, q1, ⟨q2, ⟨n, q3⟩, q4⟩, r⟩ := h2; exact ⟨o1, vs1, nf _ _ q1 (fun vs z => by rw [q3] at z; cases z), ⟨q2, ⟨n, q3⟩, q4⟩, r⟩
      | inst C fs => obtain ⟨d, es, n, q1, q2, r, m, z⟩ := h2; exact ⟨d, es, n, nf _ _ q1 (fun vs z => nomatch z), nf _ _ q2 (fun vs z => nomatch z), r, m, z⟩
      | dict k => obtain ⟨o, kvs, q, ⟨es, ep, q0, q1, q2⟩, r⟩ := h2; exact ⟨o, kvs, nf _ _ q (fun vs z => by rw [q1] at z; cases z), ⟨es, ep, q0, q1, q2⟩, r⟩ }

theorem St.hold (S : St c F ρ σ I s) {o : Obj} (e : s.heap.get? it = some o) (hl : Loose1 o) (hI : I it = none) (h0 : F.h₀.get? it = none) : St c F ρ σ (I.put it o) s := by
  obtain ⟨_, vs, hd⟩ := hl
  have hle := Im.le_put hI o
  have ne : ∀ {b o'}, s.heap.get? b = some o' → (∀ vs, o'.data ≠ .fields vs) → b ≠ it := fun hb hn z => by
    subst z; rw [e] at hb; cases hb; exact hn vs hd
  have m1 : ∀ {b o'}, s.heap.get? b = some o' → (∀ vs, o'.data ≠ .fields vs) → Mine1 c F I b → Mine1 c F (I.put it o) b := fun hb hn m => ⟨(Im.put_ne I o (ne hb hn)).trans m.1, m.2⟩
  exact {
    rd := ⟨S.rd.ok, fun a o' q => hle _ _ (S.rd.base a o' q), fun a o' q => by
      by_cases z : a = it
      · subst z; rw [Im.put_self] at q; cases q; exact e
      · rw [Im.put_ne _ _ z] at q; exact S.rd.sub a o' q, fun env he => by
      obtain ⟨hk, L, o', hf, hL, hL2, hd'⟩ := S.rd.stack env he
      exact ⟨hk, L, o', hf, (Im.put_ne I o (ne hL2 hd')).trans hL, hL2, hd'⟩, fun x p q => let ⟨v, h1, h2⟩ := S.rd.vars x p q; ⟨v, h1, h2.mono hle⟩⟩
    hl := S.hl
    hf := S.hf
    kept := S.kept
    le₀ := S.le₀.trans hle
    fresh₀ := fun a o' q => by
      by_cases z : a = it
      · subst z; exact .inr h0
      · rw [Im.put_ne _ _ z] at q; exact S.fresh₀ a o' q
    gens := S.gens
    os := S.os
    ns := S.ns
    own := let ⟨m, o', es, ep, ho', hd', _⟩ := S.ns; ⟨(Im.put_ne I o (ne ho' fun vs q => by rw [hd'] at q; cases q)).trans S.own.1, S.own.2⟩
    cells := fun x a q => let ⟨⟨v, o', ho', hd'⟩, r1, r2⟩ := S.cells x a q; ⟨⟨v, o', ho', hd'⟩, (Im.put_ne I o (ne ho' fun vs q => by rw [hd'] at q; cases q)).trans r1, r2⟩
    apart := S.apart
    owned := fun x a ow q => by
      obtain ⟨h1, h2, h3⟩ := S.owned x a ow q
      refine ⟨h1, ?_⟩
      cases ow with
      | list ps => obtain ⟨o1, vs1, q1, ⟨q2, ⟨n, q3⟩, q4⟩, r⟩ := h2; exact ⟨⟨o1, vs1, q1, ⟨q2, ⟨n, q3⟩, q4⟩, r.mono hle⟩, m1 q1 (fun vs z => by rw [q3] at z; cases z) h3⟩
      | inst C fs => obtain ⟨d, es, n, q1, q2, r, m, z⟩ := h2; exact ⟨⟨d, es, n, q1, q2, r.mono hle, m1 q2 (fun vs z => nomatch z) m, z⟩, m1 q1 (fun vs z => nomatch z) h3⟩
      | dict k => obtain ⟨o, kvs, q, ⟨es, ep, q0, q1, q2⟩, r⟩ := h2; exact ⟨⟨o, kvs, q, ⟨es, ep, q0, q1, q2⟩, r⟩, m1 q (fun vs z => by rw [q1] at z; cases z) h3⟩ }

noncomputable def Im.drop (I : Im) (it : Addr) : Im := fun b => if b = it then none else I b
theorem St.drop (S : St c F ρ σ I s) {o : Obj} (e : s.heap.get? it = some o) (hl : Loose1 o) (h0 : F.I₀ it = none) (hB : c.W.B.get? it = none) : St c F ρ σ (I.drop it) s := by
  have ns : ∀ a o', I a = some o' → Solid o' → I.drop it a = some o' := fun a o' q hs => by
    have : a ≠ it := fun z => by
      subst z; have := S.rd.sub _ _ q; rw [e] at this; cases this; exact hl.1 hs
    exact (if_neg this).trans q
  have sub : ∀ a o', I.drop it a = some o' → I a = some o' := fun a o' q => by
    unfold Im.drop at q
    split at q
    · cases q
    · exact q
  have no : ∀ a, I a = none → I.drop it a = none := fun a q => by unfold Im.drop; split <;> first | rfl | exact q
  have m1 : ∀ {b}, Mine1 c F I b → Mine1 c F (I.drop it) b := fun m => ⟨no _ m.1, m.2⟩
  have ge : ∀ {J : Im}, J it = none → Le J I → Le J (I.drop it) := fun hJ h a o' q => (if_neg fun (z : a = it) => by rw [z, hJ] at q; cases q).trans (h a o' q)
  exact {
    rd := ⟨S.rd.ok, fun a o' q => (if_neg fun (z : a = it) => by rw [z, hB] at q; cases q).trans (S.rd.base a o' q), fun a o' q => S.rd.sub a o' (sub a o' q), fun env he => by
      obtain ⟨hk, L, o', hf, hL, r⟩ := S.rd.stack env he
      exact ⟨hk, L, o', hf, no _ hL, r⟩, fun x p q => let ⟨v, h1, h2⟩ := S.rd.vars x p q; ⟨v, h1, h2.solid ns⟩⟩
    hl := S.hl
    hf := S.hf
    kept := S.kept
    le₀ := ge h0 S.le₀
    fresh₀ := fun a o' q => S.fresh₀ a o' (sub a o' q)
    gens := S.gens
    os := S.os
    ns := S.ns
    own := ⟨no _ S.own.1, S.own.2⟩
    cells := fun x a q => let ⟨r0, r1, r2⟩ := S.cells x a q; ⟨r0, no _ r1, r2⟩
    apart := S.apart
    owned := fun x a ow q => by
      obtain ⟨h1, h2, h3⟩ := S.owned x a ow q
      refine ⟨h1, ?_, m1 h3⟩
      cases ow with
      | list ps => obtain ⟨o1, vs1, q1, r0, r⟩ := h2; exact ⟨o1, vs1, q1, r0, r.solid ns⟩
      | inst C fs => obtain ⟨d, es, n, q1, q2, r, m, z⟩ := h2; exact ⟨d, es, n, q1, q2, r.solid ns, m1 m, z⟩
      | dict k => exact h2 }
end

noncomputable def Quiet (o : Obj) : Prop := ∃ n vs, o.cls = .type n ∧ o.data = .fields vs ∧ (["enumerate", "zip", "dict_itemiterator", "dict_reverseitemiterator", "odict_iterator", "itertools.zip_longest", "itertools.pairwise"] : List String).contains n = false
structure Wk (c : Cx) (it : Addr) (J : Im) (items : List PV) (T : Nat → Heap → Prop) : Prop where
  obj : ∀ i h, T i h → ∃ o, h.get? it = some o ∧ Loose1 o ∧ Quiet o
  frame : ∀ i h h', T i h → (∀ o, h.get? it = some o → h'.get? it = some o) → T i h'
  item : ∀ i s (Q : Option Value → Shared → Prop) E, i < items.length → T i s.heap → Sub J s.heap →
    (∀ v h' tk p, items[i]? = some p → Rep J v p → T (i + 1) h' → (∀ b o, b ≠ it → s.heap.get? b = some o → h'.get? b = some o) → Q (some v) { s with heap := h', toks := tk }) → wpAny c.M c.A (pyNext (.ref it)) Q E s
  self : ∀ i s (Q : Value → Shared → Prop) E, T i s.heap → Q (.ref it) s → wpAny c.M c.A (pyIter (.ref it)) Q E s
  done : ∀ s (Q : Option Value → Shared → Prop) E, T items.length s.heap → Sub J s.heap →
    (∀ h' tk, (∀ b o, b ≠ it → s.heap.get? b = some o → h'.get? b = some o) → Q none { s with heap := h', toks := tk }) → wpAny c.M c.A (pyNext (.ref it)) Q E s

noncomputable def Iters (c : Cx) (p : PV) (items : List PV) : Prop := ∀ I s v (Q : Value → Shared → Prop) E, c.A.handled = none → Sub I s.heap → Rep I v p →
  (∀ h' T, Wk c s.heap.objs.size I items T → T 0 h' → (∀ b o, s.heap.get? b = some o → h'.get? b = some o) → Q (.ref s.heap.objs.size) { s with heap := h' }) → wpAny c.M c.A (pyIter v) Q E s

theorem loose_type {n : String} {vs : Array Value} {o : Obj} (hc : o.cls = .type n) (hd : o.data = .fields vs) (hn : (["list", "tuple", "bytearray", "dict", "range"] : List String).contains n = false) : Loose1 o := by
  refine ⟨fun h => ?_, vs, hd⟩
  unfold Solid at h
  rw [hc] at h
  simp only [List.contains_cons, List.contains_nil, Bool.or_false, Bool.or_eq_false_iff, beq_eq_false_iff_ne, ne_eq] at hn
  rcases h with h | h | h | h | h | ⟨C, d, h⟩
  case inr.inr.inr.inr.inr => rw [h] at hc; cases hc
  all_goals injection h with h
  · exact hn.1 h
  · exact hn.2.1 h
  · exact hn.2.2.1 h
  · exact hn.2.2.2.1 h
  · exact hn.2.2.2.2 h

theorem iters_list {c : Cx} {ps : List PV} : Iters c (.list ps) ps := fun I s v Q E hh hs r k => by
  refine Rep.listE r fun ha ho hr => ?_
  ·
    rename_i a o vs
    obtain ⟨h1, n, h2⟩ := ho
    have hlen := hr.length
    have lst : ∀ h, Sub I h → h.IsList a vs.toArray := fun h hsub => ⟨o, hsub _ _ ha, h1, n, h2⟩
    have hne : a ≠ s.heap.objs.size := Nat.ne_of_lt (Heap.lt_size (hs _ _ ha))
    refine wpAny_pyIter_list (lst _ hs) (k _ (fun i h => h.IsListIter s.heap.objs.size a i) ⟨fun i h ⟨o, q1, q2, q3⟩ => ⟨o, q1, loose_type q2 q3 (by decide), ⟨_, _, q2, q3, by decide⟩⟩, fun i h h' ⟨o, q1, q2⟩ hk => ⟨o, hk o q1, q2⟩, fun i s' Q E hi hT hsub kk => ?_, fun i s' Q E hT hq => wpAny_pyIter_listiter hT hq, fun s' Q E hT hsub kk => ?_⟩
      ⟨_, Heap.get?_push_size _ rfl, rfl, rfl⟩ fun b o e => Heap.get?_push_of_some _ e)
    · obtain ⟨v, hv, hrv⟩ := hr.get (i := i) (p := ps[i]) (by simp [hi])
      refine wpAny_pyNext_list_item hT (lst _ hsub) (x := v) (by simpa using hv) fun h' hT' hsb => ?_
      exact kk v h' s'.toks ps[i] (by simp [hi]) hrv hT' fun b o hb e => (hsb.2 b hb).trans e
    · refine wpAny_pyNext_list_end hh hT (lst _ hsub) (by simp [← hlen]) fun h' he => kk h' s'.toks fun b o hb e => he b o hb e
theorem iters_tuple {c : Cx} {ps : List PV} : Iters c (.tuple ps) ps := fun I s v Q E hh hs r k => by
  refine Rep.tupleE r fun ha ho hr => ?_
  ·
    rename_i a o vs
    obtain ⟨h1, n, h2⟩ := ho
    have hlen := hr.length
    have lst : ∀ h, Sub I h → h.IsTuple a vs.toArray := fun h hsub => ⟨o, hsub _ _ ha, h1, n, h2⟩
    refine wpAny_pyIter_tuple (lst _ hs) (k _ (fun i h => h.IsTupleIter s.heap.objs.size a i) ⟨fun i h ⟨o, q1, q2, q3⟩ => ⟨o, q1, loose_type q2 q3 (by decide), ⟨_, _, q2, q3, by decide⟩⟩, fun i h h' ⟨o, q1, q2⟩ hk => ⟨o, hk o q1, q2⟩, fun i s' Q E hi hT hsub kk => ?_, fun i s' Q E hT hq => wpAny_pyIter_tupleiter hT hq, fun s' Q E hT hsub kk => ?_⟩
      ⟨_, Heap.get?_push_size _ rfl, rfl, rfl⟩ fun b o e => Heap.get?_push_of_some _ e)
    · obtain ⟨v, hv, hrv⟩ := hr.get (i := i) (p := ps[i]) (by simp [hi])
      refine wpAny_pyNext_tuple_item hT (lst _ hsub) (x := v) (by simpa using hv) fun h' hT' hsb => ?_
      exact kk v h' s'.toks ps[i] (by simp [hi]) hrv hT' fun b o hb e => (hsb.2 b hb).trans e
    · refine wpAny_pyNext_tuple_end hh hT (lst _ hsub) (by simp [← hlen]) fun h' he => kk h' s'.toks fun b o hb e => he b o hb e
theorem iters_bytes {c : Cx} {l : List Int} : Iters c (.bytes l) (l.map .int) := fun I s v Q E hh hs r k => by
  refine Rep.bytesE r fun b t e0 => ?_
  subst e0
  ·
    refine KBw.pyIter_bytes (k _ (fun i h => KBw.IsBytesIter h s.heap.objs.size b t i) ⟨fun i h ⟨o, q1, q2, q3⟩ => ⟨o, q1, loose_type q2 q3 (by decide), ⟨_, _, q2, q3, by decide⟩⟩, fun i h h' ⟨o, q1, q2⟩ hk => ⟨o, hk o q1, q2⟩, fun i s' Q E hi hT hsub kk => ?_, fun i s' Q E hT hq => KBw.pyIter_self hT hq, fun s' Q E hT hsub kk => ?_⟩
      ⟨_, Heap.get?_push_size _ rfl, rfl, rfl⟩ fun b o e => Heap.get?_push_of_some _ e)
    · have hi' : i < b.size := by simpa [octs] using hi
      refine KBw.next_item hT (c := b[i]) (by simp [hi']) fun h' hT' hsb => ?_
      exact kk _ h' _ _ (by simp [octs, hi']) (.int _ _) hT' fun b o hb e => (hsb.2 b hb).trans e
    · refine KBw.next_end hh hT (by simp [octs]) fun h' he => kk h' s'.toks fun b o hb e => he b o hb e

noncomputable def rangeItems (a b c : Int) : List Int := (List.range (Builtin.Range.rangeSize a b c).toNat).map fun (k : Nat) => a + (k : Int) * c
theorem iters_range {c : Cx} {x y z : Int} (hsm : Builtin.Range.small x y z = true) (h0 : 0 ≤ Builtin.Range.rangeSize x y z) : Iters c (.range x y z) ((rangeItems x y z).map .int) := fun I s v Q E hh hs r k => by
  refine Rep.rangeE r fun ha ho => ?_
  ·
    rename_i a o
    obtain ⟨t, u, w, rfl⟩ := ho
    refine wpAny_pyIter_range (hs _ _ ha) hsm (k _ (fun i h => IsRangeIter h s.heap.objs.size (x + (i : Int) * z) (Builtin.Range.rangeSize x y z - i) z) ⟨fun i h q => ⟨_, q, loose_type rfl rfl (by decide), ⟨_, _, rfl, rfl, by decide⟩⟩, fun i h h' q hk => hk _ q, fun i s' Q E hi hT hsub kk => ?_, fun i s' Q E hT hq => wpAny_pyIter_rangeiter hT hq, fun s' Q E hT hsub kk => ?_⟩
      ?_ fun b o e => Heap.get?_push_of_some _ e)
    · have hi' : i < (Builtin.Range.rangeSize x y z).toNat := by simpa [rangeItems] using hi
      refine wpAny_pyNext_range_item hT (by lia) fun h' hT' hsb => ?_
      refine kk _ h' _ (.int (x + (i : Int) * z)) (by simp [rangeItems, hi']) (.int _ _) ?_ fun b o hb e => (hsb.2 b hb).trans e
      have e1 : x + (i : Int) * z + z = x + ((i + 1 : Nat) : Int) * z := by rw [Int.natCast_add, Int.add_mul]; lia
      have e2 : Builtin.Range.rangeSize x y z - (i : Int) - 1 = Builtin.Range.rangeSize x y z - ((i + 1 : Nat) : Int) := by lia
      rw [e1, e2] at hT'; exact hT'
    · have hl : ((rangeItems x y z).map PV.int).length = (Builtin.Range.rangeSize x y z).toNat := by simp [rangeItems]
      rw [hl] at hT
      refine wpAny_pyNext_range_end hh hT (by lia) fun h' he => kk h' s'.toks fun b o hb e => he b o hb e
    · show IsRangeIter _ _ _ _ _
      rw [show x + ((0 : Nat) : Int) * z = x by simp, show Builtin.Range.rangeSize x y z - ((0 : Nat) : Int) = Builtin.Range.rangeSize x y z by simp]
      exact Heap.get?_push_size _ rfl
end
section
open PySem PySem.W PySem.Calls PyProof.Rows
noncomputable abbrev PK.turn (K : PK) (next : PEnv → Ow → Prop) : PK := { next := next, cont := next, brk := K.next, ret := K.ret, exc := K.exc }
noncomputable def Loop (c : Cx) (F : Fm) (x : Str) (body : List Stmt) (K : PK) : List PV → PEnv → Ow → Prop
  | [], ρ, σ => K.next ρ σ
  | p :: ps, ρ, σ => Slot1 c σ x ∧ Sx c F ((x, p) :: ρ) σ (execs body c.env) (K.turn (Loop c F x body K ps))

section
variable {c : Cx} {F : Fm} {ρ : PEnv} {σ : Ow} {K : PK}

theorem St.keeps {I : Im} {s s' : Shared} (S : St c F ρ σ I s) (k : ∀ b o, s.heap.get? b = some o → s'.heap.get? b = some o) (hg : s'.gens = s.gens) (ho : s'.os = s.os) : St c F ρ σ I s' :=
  S.post (Post.keeps S.rd.sub k hg ho)

noncomputable abbrev FR (c : Cx) (F : Fm) (I : Im) (K : PK) : Result → Shared → Prop := fun r s' => match r with | .ok f => QS c F I K f s' | .error e => cameBackBy c.M c.A c.env (ES c F K.exc) e s'
structure Back (c : Cx) (F : Fm) (I : Im) (it : Addr) (T : Nat → Heap → Prop) (i : Nat) (ρ₁ : PEnv) (σ₁ : Ow) (I₁ : Im) (s₄ : Shared) : Prop where
  le : Le I I₁
  st : St c F ρ₁ σ₁ I₁ s₄
  t : T i s₄.heap
  no : I₁ it = none
inductive ForInv (c : Cx) (F : Fm) (I : Im) (L : List PV → PEnv → Ow → Prop) (it : Addr) (T : Nat → Heap → Prop) (items : List PV) (k : Nat) (s' : Shared) : Prop
  | mk (i : Nat) (ρ' : PEnv) (σ' : Ow) (I' : Im) (hk : k = items.length + 1 - i) (hi : i ≤ items.length) (b : Back c F I it T i ρ' σ' I' s') (q : L (items.drop i) ρ' σ')
structure Turns (c : Cx) (F : Fm) (J I : Im) (it : Addr) (items : List PV) (T : Nat → Heap → Prop) : Prop where
  W : Wk c it J items T
  hJ : Le J I
  h0 : F.h₀.get? it = none
  hI : I it = none
  hI₀ : F.I₀ it = none
  hB : c.W.B.get? it = none
theorem Turns.of {J I : Im} {it : Addr} {items : List PV} {T : Nat → Heap → Prop} {s : Shared} (W : Wk c it J items T) (S : St c F ρ σ I s) (hJ : Le J I) (h0 : F.h₀.get? it = none) (hI : I it = none) : Turns c F J I it items T := by
  refine ⟨W, hJ, h0, hI, ?_, ?_⟩
  · cases q : F.I₀ it with
    | none => rfl
    | some o => have := S.le₀ _ _ q; rw [hI] at this; cases this
  · cases q : c.W.B.get? it with
    | none => rfl
    | some o => have := S.rd.base _ _ q; rw [hI] at this; cases this
theorem Turns.step {x : Str} {px : Pos} {it : Addr} {J I I' : Im} {items : List PV} {T : Nat → Heap → Prop} {s' : Shared} {i : Nat} {N : Option Value → Shared → Prop} {E : Value → Shared → Prop} {G : Shared → Prop}
    (Z : Turns c F J I it items T) (B : Back c F I it T i ρ σ I' s') (hlt : i < items.length) (hx : ∀ p, items.drop i = p :: items.drop (i + 1) → Slot1 c σ x)
    (hN : ∀ v s₁, wpAny c.M c.A (assign (.Name x px) c.env v) (fun _ s₂ => G s₂) E s₁ → N (some v) s₁)
    (key : ∀ p s₂ I₂, items.drop i = p :: items.drop (i + 1) → Le I I₂ → St c F ((x, p) :: ρ) σ I₂ s₂ → (∀ {ρ₁ σ₁ I₁ s₄}, Le I₂ I₁ → St c F ρ₁ σ₁ I₁ s₄ → Back c F I it T (i + 1) ρ₁ σ₁ (I₁.drop it) s₄) → G s₂) :
    wpAny c.M c.A (pyNext (.ref it)) N E s' := by
  obtain ⟨o, ho, hlo, _⟩ := Z.W.obj i _ B.t
  refine Z.W.item i s' _ _ hlt B.t (Sub.of_le (Z.hJ.trans B.le) B.st.rd.sub) fun v h' tk p hp hr hT₁ hk => hN v _ ?_
  have hdrop : items.drop i = p :: items.drop (i + 1) := by
    obtain ⟨hi', e⟩ := List.getElem?_eq_some_iff.mp hp
    rw [List.drop_eq_getElem_cons hi', e]
  have S₁ : St c F ρ σ I' { s' with heap := h', toks := tk } := B.st.off ho hlo B.no Z.h0 hk rfl rfl
  refine wpAny_assign_Name (S₁.store (hr.mono (Z.hJ.trans B.le)) (hx p hdrop).1 (hx p hdrop).2 fun s₂ S₂ hrec => ?_)
  obtain ⟨o₁, ho₁, hlo₁, _⟩ := Z.W.obj (i + 1) h' hT₁
  have ho₂ : s₂.heap.get? it = some o₁ := let ⟨_, vs, hd⟩ := hlo₁; hrec it o₁ ho₁ (fun q => by obtain ⟨m, oL, _, _, hoL, hdL, _⟩ := S₁.ns; rw [← q, ho₁] at hoL; cases hoL; rw [hd] at hdL; cases hdL) fun v q => by rw [hd] at q; cases q
  refine key p s₂ _ hdrop (B.le.trans (Im.le_put B.no o₁)) (S₂.hold ho₂ hlo₁ B.no Z.h0) fun {ρ₁ σ₁ I₁ s₄} hle₁ S₄ => ?_
  have ho₄ : s₄.heap.get? it = some o₁ := S₄.rd.sub _ _ (hle₁ _ _ (Im.put_self I' it o₁))
  refine ⟨fun a o' q => (if_neg fun (z : a = it) => by rw [z, Z.hI] at q; cases q).trans (hle₁ _ _ (Im.le_put B.no o₁ _ _ (B.le _ _ q))), S₄.drop ho₄ hlo₁ Z.hI₀ Z.hB, Z.W.frame _ _ _ hT₁ fun o' q => ?_, if_pos rfl⟩
  rw [ho₁] at q; cases q; exact ho₄
theorem Turns.end {it : Addr} {J I I' : Im} {items : List PV} {T : Nat → Heap → Prop} {s' : Shared} {N : Option Value → Shared → Prop} {E : Value → Shared → Prop}
    (Z : Turns c F J I it items T) (B : Back c F I it T items.length ρ σ I' s') (key : ∀ s₁, St c F ρ σ I' s₁ → N none s₁) : wpAny c.M c.A (pyNext (.ref it)) N E s' := by
  obtain ⟨o, ho, hlo, _⟩ := Z.W.obj _ _ B.t
  exact Z.W.done s' _ _ B.t (Sub.of_le (Z.hJ.trans B.le) B.st.rd.sub) fun h' tk hk => key _ (B.st.off ho hlo B.no Z.h0 hk rfl rfl)
noncomputable def TurnTo (P Q : Prop) (R : Value → Prop) : Flow → Prop
  | .next => P
  | .cont => P
  | .brk => Q
  | .ret v => R v
theorem Turns.flow {it : Addr} {I I₂ : Im} {items : List PV} {T : Nat → Heap → Prop} {L : List PV → PEnv → Ow → Prop} {i : Nat} {fl : Flow} {s₄ : Shared}
    (hlt : i < items.length) (hle : Le I I₂) (back : ∀ {ρ₁ σ₁ I₁ s₄}, Le I₂ I₁ → St c F ρ₁ σ₁ I₁ s₄ → Back c F I it T (i + 1) ρ₁ σ₁ (I₁.drop it) s₄)
    (q : QS c F I₂ (K.turn (L (items.drop (i + 1)))) fl s₄) : TurnTo (ForInv c F I L it T items (items.length + 1 - (i + 1)) s₄) (QS c F I K .next s₄) (fun v => QS c F I K (.ret v) s₄) fl := by
  obtain ⟨I₁, hle₁, q⟩ := q
  cases fl with
  | next => obtain ⟨ρ₁, σ₁, S₄, q⟩ := q; exact ⟨i + 1, ρ₁, σ₁, _, rfl, hlt, back hle₁ S₄, q⟩
  | cont => obtain ⟨ρ₁, σ₁, S₄, q⟩ := q; exact ⟨i + 1, ρ₁, σ₁, _, rfl, hlt, back hle₁ S₄, q⟩
  | brk => obtain ⟨ρ₁, σ₁, S₄, q⟩ := q; exact ⟨_, (back hle₁ S₄).le, ρ₁, σ₁, (back hle₁ S₄).st, q⟩
  | ret v => obtain ⟨p₁, σ₁, S₄, r₁, q⟩ := q; exact ⟨I₁, hle.trans hle₁, p₁, σ₁, S₄, r₁, q⟩
theorem less_turn {n i : Nat} (h : i < n) : n + 1 - (i + 1) < n + 1 - i := by omega
theorem for_turns {x : Str} {px : Pos} {body : List Stmt} {it : Addr} {J I : Im} {items : List PV} {T : Nat → Heap → Prop} {s : Shared}
    (W : Wk c it J items T) (S : St c F ρ σ I s) (hJ : Le J I) (hT : T 0 s.heap) (h0 : F.h₀.get? it = none) (hI : I it = none) (h : Loop c F x body K items ρ σ) :
    codeAny c.M c.A (.forLoop (.Name x px) (.ref it) body [] c.env) (FR c F I K) s := by
  have Z := Turns.of W S hJ h0 hI
  refine codeAny_forLoop (R := FR c F I K) (ForInv c F I (Loop c F x body K) it T items) (fun k s' hi => ?_) (items.length + 1) ⟨0, ρ, σ, I, rfl, Nat.zero_le _, ⟨.refl _, S, hT, hI⟩, h⟩
  obtain ⟨i, ρ', σ', I', rfl, hi, B, hL⟩ := hi
  rcases Nat.lt_or_eq_of_le hi with hlt | rfl
  · refine Z.step (x := x) (px := px) B hlt (fun p e => ?_) (fun v s₁ z => z) fun p s₂ I₂ e hle S₃ back => ?_
    · rw [e] at hL; exact hL.1
    · rw [e] at hL
      refine wpAny_mono (hL.2 _ s₂ S₃) (fun fl s₄ q => ?_) fun e s₄ q => es_noted S q
      have z := Turns.flow hlt hle back q
      cases fl with
      | next => exact ⟨_, less_turn hlt, z⟩
      | cont => exact ⟨_, less_turn hlt, z⟩
      | brk => exact z
      | ret v => exact z
  · rw [List.drop_length] at hL
    exact Z.end B fun s₁ S₁ => wpAny_execs_nil ⟨I', B.le, ρ', σ', S₁, hL⟩

theorem Sx_for {x : Str} {px pos : Pos} {iter : Expr} {body : List Stmt} (h : Ev c ρ (eval iter c.env) (fun p => ∃ items, Iters c p items ∧ Loop c F x body K items ρ σ) K.exc)
    (hs : ∀ v, foldedSetIterable iter c.env v = pure v := by intro _; rfl) : Sx c F ρ σ (exec (.For (.Name x px) iter body [] pos) c.env) K := fun I s S => by
  refine wpAny_For (h.then S.rd (fun v s' I' p a r' rv ⟨items, hi, hl⟩ => ?_) fun _ _ x a b => ⟨x, S.exn a, b⟩) hs
  have S' := S.post a
  refine hi I' s' v _ _ r'.ok.handled r'.sub rv fun h' T W hT hk => ?_
  have S'' : St c F ρ σ I' { s' with heap := h' } := S'.keeps hk rfl rfl
  have hI : I' s'.heap.objs.size = none := r'.sub.none_new
  have h0 : F.h₀.get? s'.heap.objs.size = none := S'.kept.none (get?_size _)
  refine codeAny_mono (for_turns W S'' (.refl _) hT h0 hI hl) fun r s'' q => ?_
  cases r with
  | ok f => obtain ⟨J, hle, z⟩ := q; exact ⟨J, a.le.trans hle, z⟩
  | error e => exact q

noncomputable def LoopW (c : Cx) (F : Fm) (test : Expr) (body : List Stmt) (K : PK) : Nat → PEnv → Ow → Prop
  | 0, _, _ => False
  | n + 1, ρ, σ => Tr c ρ (isTrue test c.env (eval test c.env)) (fun b => if b then Sx c F ρ σ (execs body c.env) (K.turn (LoopW c F test body K n)) else K.next ρ σ) K.exc

theorem Sx_while {test : Expr} {body : List Stmt} {pos : Pos} (n : Nat) (h : LoopW c F test body K n ρ σ) : Sx c F ρ σ (exec (.While test body [] pos) c.env) K := fun I s S => by
  refine wpAny_While ?_
  refine codeAny_whileLoop (fun k s' => ∃ ρ' σ' I', Le I I' ∧ St c F ρ' σ' I' s' ∧ LoopW c F test body K k ρ' σ') ?_ n ⟨ρ, σ, I, .refl _, S, h⟩
  rintro k s' ⟨ρ', σ', I', hle, S', hL⟩
  cases k with
  | zero => exact hL.elim
  | succ k =>
    refine hL.then S'.rd (fun b s₁ I₁ a r q => ?_) fun e s₁ x a b => es_noted S ⟨x, S'.exn a, b⟩
    have S₁ := S'.post a
    cases b with
    | false => exact wpAny_execs_nil ⟨I₁, hle.trans a.le, ρ', σ', S₁, q⟩
    | true =>
      refine wpAny_mono (q I₁ s₁ S₁) (fun fl s₄ ⟨I₂, hle₂, q⟩ => ?_) fun e s₄ q => es_noted S q
      have hle' := (hle.trans a.le).trans hle₂
      cases fl with
      | next => obtain ⟨ρ₁, σ₁, S₄, q⟩ := q; exact ⟨k, Nat.lt_succ_self _, ρ₁, σ₁, I₂, hle', S₄, q⟩
      | cont => obtain ⟨ρ₁, σ₁, S₄, q⟩ := q; exact ⟨k, Nat.lt_succ_self _, ρ₁, σ₁, I₂, hle', S₄, q⟩
      | brk => obtain ⟨ρ₁, σ₁, S₄, q⟩ := q; exact ⟨I₂, hle', ρ₁, σ₁, S₄, q⟩
      | ret v => obtain ⟨p₁, σ₁, S₄, r₁, q⟩ := q; exact ⟨I₂, hle', p₁, σ₁, S₄, r₁, q⟩
theorem Slot1.loc {x : Str} (h : c.env.kindOf x = some .local) : Slot1 c none x := ⟨fun _ _ e => (nomatch e), .inl h⟩
theorem Slot1.cell {x : Str} (h : c.env.kindOf x = some .cell) (h' : (c.env.cells.lookup x).isSome = true) : Slot1 c none x := ⟨fun _ _ e => (nomatch e), .inr ⟨h, h'⟩⟩
theorem Slot1.locO {x y : Str} {a : Addr} {ow : Own} (h : c.env.kindOf x = some .local) (hy : (y == x) = false) : Slot1 c (some (y, a, ow)) x := ⟨fun _ _ e => by cases e; simp at hy, .inl h⟩
theorem Sx_break {pos : Pos} (h : K.brk ρ σ) : Sx c F ρ σ (exec (.Break pos) c.env) K := fun I s S => by
  show wpAny _ _ (standAt pos >>= fun _ => pure Flow.brk) _ _ s
  exact wpAny_bind (wpAny_standAt (wpAny_pure ⟨I, .refl _, ρ, σ, S, h⟩))
end
end
section
open PySem PySem.W PySem.Calls PyProof.Rows
section
variable {c : Cx} {ρ : PEnv} {Q : PV → Prop} {X : PX → Prop} {x y : Int}

theorem V2.int' {f : Value → Value → Sem Value} {r : PV}
    (h : ∀ {A : Around} {s : Shared} {R E : Value → Shared → Prop} (t u : Tok), (∀ v s', s'.heap = s.heap → s'.gens = s.gens → s'.os = s.os → (∀ I, Rep I v r) → R v s') → wpAny c.M A (f (.int x t) (.int y u)) R E s) (q : Q r) : V2 c f (.int x) (.int y) Q X := by
  intro I s va vb d ra rb
  first | refine Rep.intE ra fun _ => ?_ | refine Rep.strE ra fun _ => ?_ | refine Rep.boolE ra ?_ | refine Rep.noneE ra ?_ | refine Rep.typeE ra ?_ | refine Rep.funcE ra ?_ | cases ra
  first | refine Rep.intE rb fun _ => ?_ | refine Rep.strE rb fun _ => ?_ | refine Rep.boolE rb ?_ | refine Rep.noneE rb ?_ | refine Rep.typeE rb ?_ | refine Rep.funcE rb ?_ | cases rb
  exact h _ _ fun v s' e1 e2 e3 hr => ⟨I, r, Post.keeps d.sub (fun a o e => by rw [e1]; exact e) e2 e3, hr I, q⟩

theorem mul_int (hm : IntMulOk x y) (q : Q (.int (x * y))) : V2 c (binaryOp .Mult) (.int x) (.int y) Q X := V2.int (fun _ _ h => PyProof.Rows.mul_int h hm) q
theorem and_int (q : Q (.int (Builtin.bitAnd x y))) : V2 c (binaryOp .BitAnd) (.int x) (.int y) Q X := V2.int (fun _ _ h => PyProof.Rows.and_int h) q
theorem or_int (q : Q (.int (Builtin.bitOr x y))) : V2 c (binaryOp .BitOr) (.int x) (.int y) Q X := V2.int (fun _ _ h => PyProof.Rows.or_int h) q
theorem rshift_int (hy : 0 ≤ y) (q : Q (.int (x.fdiv (2 ^ y.toNat)))) : V2 c (binaryOp .RShift) (.int x) (.int y) Q X := V2.int (fun _ _ h => PyProof.Rows.rshift_int hy h) q
theorem lshift_int (hy : 0 ≤ y) (hs : (Builtin.Int.intBits x : Int) + y ≤ 2 ^ 27) (q : Q (.int (x * 2 ^ y.toNat))) : V2 c (binaryOp .LShift) (.int x) (.int y) Q X := V2.int (fun _ _ h => PyProof.Rows.lshift_int hy hs h) q
theorem fdiv_int (hy : y ≠ 0) (hd : Builtin.divisionGoesByPylong x y = false) (q : Q (.int (x.fdiv y))) : V2 c (binaryOp .FloorDiv) (.int x) (.int y) Q X :=
  V2.int (r := x.fdiv y) (fun {A s R E} t u h => AutoIntOps.floordiv_1 (by simpa using hy) (by rw [hd]; decide) h) q
theorem iadd_int (q : Q (.int (x + y))) : V2 c (inplaceOp .Add) (.int x) (.int y) Q X := V2.int (r := x + y) (fun {A s R E} t u h => AutoIntOps.iadd_0 h) q
theorem pow_int (hy : 0 ≤ y) (h1 : 2 ≤ x) (hb : (Builtin.Int.intBits x : Int) * y ≤ 2 ^ 20) (q : Q (.int (x ^ y.toNat))) : V2 c (binaryOp .Pow) (.int x) (.int y) Q X := by
  by_cases h0 : y = 0
  · subst h0
    refine V2.int (r := 1) (fun {A s R E} t u h => AutoIntOps.pow_0 (by decide) rfl h) ?_
    simpa using q
  · refine V2.int (r := x ^ y.toNat) (fun {A s R E} t u h => AutoIntOps.pow_4 hy (by simpa using h0) (by simp; lia) (by simp; lia) ?_ h) q
    unfold Builtin.Int.intTooBig
    simp only [decide_eq_true_eq]
    have hb' : (2 : Int) ^ 20 ≤ (bitsLine : Int) := by decide +kernel
    lia

theorem lt_int (q : Q (.bool (decide (x < y)))) : V2 c (compareOp .Lt) (.int x) (.int y) Q X :=
  V2.int' (r := .bool (decide (x < y))) (fun t u k => PyProof.Rows.lt_int (k _ _ rfl rfl rfl fun _ => .bool _)) q
theorem gt_int (q : Q (.bool (decide (y < x)))) : V2 c (compareOp .Gt) (.int x) (.int y) Q X :=
  V2.int' (r := .bool (decide (y < x))) (fun t u k => PyProof.Rows.gt_int (k _ _ rfl rfl rfl fun _ => .bool _)) q
theorem le_int (q : Q (.bool (decide (x ≤ y)))) : V2 c (compareOp .LtE) (.int x) (.int y) Q X :=
  V2.int' (r := .bool (decide (x ≤ y))) (fun t u k => PyProof.Rows.le_int (k _ _ rfl rfl rfl fun _ => .bool _)) q
theorem ge_int (q : Q (.bool (decide (y ≤ x)))) : V2 c (compareOp .GtE) (.int x) (.int y) Q X :=
  V2.int' (r := .bool (decide (y ≤ x))) (fun t u k => PyProof.Rows.ge_int (k _ _ rfl rfl rfl fun _ => .bool _)) q
theorem eq_int (q : Q (.bool (x == y))) : V2 c (compareOp .Eq) (.int x) (.int y) Q X :=
  V2.int' (r := .bool (x == y)) (fun t u k => PyProof.Rows.eq_int (k _ _ rfl rfl rfl fun _ => .bool _)) q
theorem ne_int (q : Q (.bool (x != y))) : V2 c (compareOp .NotEq) (.int x) (.int y) Q X :=
  V2.int' (r := .bool (x != y)) (fun t u k => PyProof.Rows.ne_int (k _ _ rfl rfl rfl fun _ => .bool _)) q
end
end
section
open PySem PySem.W PySem.Calls PyProof.Rows
noncomputable def cutL {α : Type} (l : List α) (lo hi : Option Int) : List α := (l.drop (lo.elim 0 (clipAt l.length))).take (hi.elim l.length (clipAt l.length) - lo.elim 0 (clipAt l.length))
theorem cutL_map {α β : Type} (f : α → β) (l : List α) (lo hi : Option Int) : cutL (l.map f) lo hi = (cutL l lo hi).map f := by
  unfold cutL
  rw [List.length_map, List.map_take, List.map_drop]
theorem slicePick_cut (items : List Value) (lo hi : Option Int) : slicePick items.toArray lo hi none = (cutL items lo hi).toArray := by
  unfold slicePick cutL
  rw [sliceBounds_plain]
  simp only [sliceRange_one, pick_run, List.size_toArray]
theorem RepAll.cut {I : Im} {vs : List Value} {ps : List PV} (h : RepAll I vs ps) (lo hi : Option Int) : RepAll I (cutL vs lo hi) (cutL ps lo hi) := by
  unfold cutL
  rw [h.length]
  exact (h.drop _).take _

noncomputable def ItemV (c : Cx) (a b : PV) (Q : PV → Prop) (X : PX → Prop) : Prop :=
  ∀ (value slice : Expr), (∀ o i, subscripted slice false o i = operate [o, i] (getItem o i)) → V2 c (subscriptTail value slice) a b Q X
noncomputable def CutV (c : Cx) (a : PV) (lo hi : Option Int) (Q : PV → Prop) (X : PX → Prop) : Prop :=
  ∀ (value slice : Expr), (∀ o i, subscripted slice false o i = operate [i, o] (getItem o i)) → ∀ I s va vl vu, Rd c [] I s → Rep I va a → IsPart vl lo → IsPart vu hi →
    wpAny c.M c.A (subscriptTail value slice va (.ref s.heap.objs.size)) (QV c I s Q) (QE c s X) { s with heap := s.heap.push { cls := .type "slice", data := .fields #[vl, vu, .none] } }
noncomputable def EvO (c : Cx) (ρ : PEnv) (e : Option Expr) (Q : Option Int → Prop) (X : PX → Prop) : Prop :=
  match e with
  | none => Q none
  | some e => Ev c ρ (eval e c.env) (fun p => match p with | .int i => Q (some i) | _ => False) X

section
variable {c : Cx} {ρ : PEnv} {Q : PV → Prop} {X : PX → Prop}

theorem Ev_item {v i : Expr} {pos : Pos} (h : Ev c ρ (eval v c.env) (fun a => Ev c ρ (eval i c.env) (fun b => ItemV c a b Q X) X) X)
    (hs : ∀ o k, subscripted i false o k = operate [o, k] (getItem o k) := by intro _ _; rfl) : Ev c ρ (eval (.Subscript v i pos) c.env) Q X :=
  fun _ _ d => Subscript_ (two (f := subscriptTail v i) (h.mono (fun _ h => h.mono (fun _ h => h v i hs) fun _ x => x) fun _ x => x) d)

theorem part_of {I : Im} {v : Value} {i : Int} (h : Rep I v (.int i)) : IsPart v (some i) := by cases h; exact .int _ _
theorem EvO.part {e : Option Expr} {QO : Option Int → Prop} {I : Im} {s : Shared} {R : Value → Shared → Prop} {E : Value → Shared → Prop} (h : EvO c ρ e QO X) (r : Rd c ρ I s)
    (k : ∀ v s' I' lo, Post c.l I s I' s' → Rd c ρ I' s' → IsPart v lo → QO lo → R v s') (kE : ∀ e s' x, Exn c.l [] s e x s' → X x → E e s') :
    wpAny c.M c.A (valueOrNone (evalOpt e c.env)) R E s := by
  cases e with
  | none => exact wpAny_pure (k .none s I none (Post.refl r.sub) r .none h)
  | some e =>
    refine Ev.then (t := eval e c.env) h r (fun v s' I' p a r' rv q => ?_) kE
    cases p with
    | int i => exact k v s' I' (some i) a r' (part_of rv) q
    | _ => exact q.elim
theorem eval_Slice2 (l u : Option Expr) (p : Pos) (env : Env) : eval (.Slice l u none p) env = (do
    let l ← valueOrNone (evalOpt l env)
    let u ← holding [l] (valueOrNone (evalOpt u env))
    let s ← holding [l, u] (valueOrNone none)
    newFields "slice" [l, u, s]) := rfl

theorem Ev_cut {v : Expr} {l u : Option Expr} {p pos : Pos} (h : Ev c ρ (eval v c.env) (fun a => EvO c ρ l (fun lo => EvO c ρ u (fun hi => CutV c a lo hi Q X) X) X) X) :
    Ev c ρ (eval (.Subscript v (.Slice l u none p) pos) c.env) Q X := fun I s r => by
  refine Subscript_ (h.then r (fun va s₁ I₁ a p₁ r₁ rv q => ?_) fun _ _ x a b => ⟨x, a, b⟩)
  rw [eval_Slice2]
  refine wpAny_bind (q.part r₁ (fun vl s₂ I₂ lo p₂ r₂ hl q => ?_) fun _ _ x a b => ⟨x, a.anchor p₁, b⟩)
  refine wpAny_bind (wpAny_holding (q.part r₂ (fun vu s₃ I₃ hi p₃ r₃ hu q => ?_) fun _ _ x a b => ⟨x, a.anchor (p₁.trans p₂), b⟩))
  refine wpAny_bind (wpAny_holding (wpAny_pure ?_))
  unfold newFields
  refine wpAny_newObj_type ?_
  have pp := (p₁.trans p₂).trans p₃
  exact wpAny_mono (q v (.Slice l u none p) (fun _ _ => rfl) I₃ s₃ va vl vu r₃.none ((rv.mono p₂.le).mono p₃.le) hl hu) (fun _ _ z => QV.post pp z) fun _ _ z => QE.post pp z

theorem item_list {l : List PV} {k : Int} {p : PV} (h0 : 0 ≤ k) (hl : l.length ≤ 2 ^ 20) (hp : l[k.toNat]? = some p) (q : Q p) : ItemV c (.list l) (.int k) Q X := fun value slice hs I s va vb d ra rb => by
  first | refine Rep.intE rb fun _ => ?_ | refine Rep.strE rb fun _ => ?_ | refine Rep.boolE rb ?_ | refine Rep.noneE rb ?_ | refine Rep.typeE rb ?_ | refine Rep.funcE rb ?_ | cases rb
  refine Rep.listE ra fun ha ho hr => ?_
  ·
    rename_i a o vs
    obtain ⟨h1, n, h2⟩ := ho
    obtain ⟨v, hv, hrv⟩ := hr.get hp
    have hL : s.heap.IsList a vs.toArray := ⟨o, d.sub _ _ ha, h1, n, h2⟩
    have hk : k.toNat < l.length := (List.getElem?_eq_some_iff.mp hp).1
    exact tail_any hL.typeIs slot_list_getitem.lookup (wpAny_getItem_list hL h0 (by lia) (by simpa using hv) (QV.now' d.sub hrv q)) (hs _ _)
theorem item_list_neg {l : List PV} {k : Int} {p : PV} (h0 : k < 0) (h1 : -(l.length : Int) ≤ k) (hl : l.length ≤ 2 ^ 20) (hp : l[(k + l.length).toNat]? = some p) (q : Q p) : ItemV c (.list l) (.int k) Q X := fun value slice hs I s va vb d ra rb => by
  first | refine Rep.intE rb fun _ => ?_ | refine Rep.strE rb fun _ => ?_ | refine Rep.boolE rb ?_ | refine Rep.noneE rb ?_ | refine Rep.typeE rb ?_ | refine Rep.funcE rb ?_ | cases rb
  refine Rep.listE ra fun ha ho hr => ?_
  ·
    rename_i a o vs
    obtain ⟨h1', n, h2⟩ := ho
    obtain ⟨v, hv, hrv⟩ := hr.get hp
    have hL : s.heap.IsList a vs.toArray := ⟨o, d.sub _ _ ha, h1', n, h2⟩
    have hlen := hr.length
    exact tail_any hL.typeIs slot_list_getitem.lookup (wpAny_getItem_list_neg hL h0 (by rw [List.size_toArray, hlen]; exact h1) (by lia) (by rw [List.size_toArray, hlen]; simpa using hv) (QV.now' d.sub hrv q)) (hs _ _)
theorem item_tuple {l : List PV} {k : Int} {p : PV} (h0 : 0 ≤ k) (hl : l.length ≤ 2 ^ 20) (hp : l[k.toNat]? = some p) (q : Q p) : ItemV c (.tuple l) (.int k) Q X := fun value slice hs I s va vb d ra rb => by
  first | refine Rep.intE rb fun _ => ?_ | refine Rep.strE rb fun _ => ?_ | refine Rep.boolE rb ?_ | refine Rep.noneE rb ?_ | refine Rep.typeE rb ?_ | refine Rep.funcE rb ?_ | cases rb
  refine Rep.tupleE ra fun ha ho hr => ?_
  ·
    rename_i a o vs
    obtain ⟨h1, n, h2⟩ := ho
    obtain ⟨v, hv, hrv⟩ := hr.get hp
    have hT : IsTup s.heap a vs.toArray := ⟨o, d.sub _ _ ha, h1, n, h2⟩
    have hk : k.toNat < l.length := (List.getElem?_eq_some_iff.mp hp).1
    refine item_tupleT (j := k.toNat) hT (by lia) (by lia) ?_ hv (QV.now' d.sub hrv q) (hs _ _)
    have e : (if k < 0 then k + (vs.length : Int) else k) = k := if_neg (by lia)
    have e2 : (decide (0 ≤ k) && decide (k < (vs.length : Int))) = true := by rw [hr.length]; simp; lia
    simp only [seqIndex?, e, e2, if_true]
theorem item_bytes {l : List Int} {k x : Int} (h0 : 0 ≤ k) (hl : l.length ≤ 2 ^ 20) (hp : l[k.toNat]? = some x) (q : Q (.int x)) : ItemV c (.bytes l) (.int k) Q X := fun value slice hs I s va vb d ra rb => by
  first | refine Rep.intE rb fun _ => ?_ | refine Rep.strE rb fun _ => ?_ | refine Rep.boolE rb ?_ | refine Rep.noneE rb ?_ | refine Rep.typeE rb ?_ | refine Rep.funcE rb ?_ | cases rb
  refine Rep.bytesE ra fun b t e0 => ?_
  subst e0
  ·
    have hk : k.toNat < (octs b).length := (List.getElem?_eq_some_iff.mp hp).1
    have hb : b.toList.toArray = b := by simp
    have hlen : (octs b).length = b.toList.length := by simp [octs]
    rw [hlen] at hk hl
    have hx : ((b.toList.getD k.toNat 0).toNat : Int) = x := by
      have e : (octs b)[k.toNat]? = some (((b.toList.getD k.toNat 0).toNat : Int)) := by
        unfold octs
        rw [List.getElem?_map, List.getD_eq_getElem?_getD, List.getElem?_eq_getElem hk]; rfl
      rw [hp] at e; injection e with e; exact e.symm
    refine tail_any (typeIs_bytes s b t) FB.slot_bytes_getitem.lookup ?_ (hs _ _)
    rw [← hb]
    refine getItem_bytes (by lia) h0 (by lia) ?_
    rw [hx]
    exact QV.now d.sub (.int _ _) q _

theorem cut_list {l : List PV} {lo hi : Option Int} (hl : l.length ≤ 2 ^ 20) (q : Q (.list (cutL l lo hi))) : CutV c (.list l) lo hi Q X := fun value slice hs I s va vl vu d ra pl pu => by
  refine Rep.listE ra fun ha ho hr => ?_
  ·
    rename_i a o vs
    obtain ⟨h1, n, h2⟩ := ho
    have hL : s.heap.IsList a vs.toArray := ⟨o, d.sub _ _ ha, h1, n, h2⟩
    have hlen := hr.length
    refine tail_any (Heap.IsList.typeIs (s := { s with heap := s.heap.push { cls := .type "slice", data := .fields #[vl, vu, .none] } }) (hL.push _)) list_getitem_lookup
      (wpAny_getItem_list_slice (hL.push _) (Heap.IsSliceOf.new ..) pl pu .none (by simp) ?_ (by rw [List.size_toArray, hlen, sizeLine_eq]; lia)) (hs _ _)
    · have p1 := Post.keeps (l := c.l) (s' := { s with heap := s.heap.push { cls := .type "slice", data := .fields #[vl, vu, .none] } }) d.sub (fun _ _ e => Heap.get?_push_of_some _ e) rfl rfl
      have p2 := Post.push (l := c.l) (s := { s with heap := s.heap.push { cls := .type "slice", data := .fields #[vl, vu, .none] } }) p1.sub { cls := .type "list", data := .seq (slicePick vs.toArray lo hi none) } rfl s.toks
      refine ⟨_, _, p1.trans p2, .list (Im.put_self _ _ _) ⟨rfl, 0, by rw [slicePick_cut]⟩ ((hr.cut lo hi).mono p2.le), q⟩
theorem octs_length (b : Array UInt8) : (octs b).length = b.size := by simp [octs]
theorem cut_bytes {l : List Int} {lo hi : Option Int} (hl : l.length ≤ 2 ^ 20) (q : Q (.bytes (cutL l lo hi))) : CutV c (.bytes l) lo hi Q X := fun value slice hs I s va vl vu d ra pl pu => by
  refine Rep.bytesE ra fun b t e0 => ?_
  subst e0
  ·
    have hz := octs_length b
    refine tail_any (typeIs_bytes _ b t) FB.slot_bytes_getitem.lookup (getItem_meets (typeIs_bytes _ _ _) (by decide) FB.slot_bytes_getitem FB.entry_bytes_getitem (FB.args_bytes_getitem_2 _ _) (KBc.meets_slice2 b t _ pl pu)
      ⟨Heap.IsSliceOf.new _ _ _ _, Nat.le_trans (KBc.size_picked_le b lo hi) (by rw [← hz, sizeLine_eq]; lia), fun t' k => ?_⟩) (hs _ _)
    have e : octs (KBy.picked b lo hi) = cutL (octs b) lo hi := KBc.ints_picked (b := b) (ks := octs b) rfl lo hi
    refine ⟨I, .bytes (cutL (octs b) lo hi), Post.keeps d.sub (fun _ _ e => Heap.get?_push_of_some _ e) rfl rfl, ?_, q⟩
    rw [← e]
    exact .bytes _ _
end
end
section
open PySem PySem.W PySem.Calls PyProof.Rows
noncomputable def sc : PV → Option PyData
  | .none => some .none
  | .bool b => some (.bool b)
  | .int i => some (.int i)
  | .str s => if PyData.strOk s then some (.str s) else none
  | _ => none
noncomputable def scs : List PV → Option (List PyData)
  | [] => some []
  | p :: ps => match sc p, scs ps with
    | some d, some ds => some (d :: ds)
    | _, _ => none
noncomputable def flat : PV → Option PyData
  | .list l => (scs l).map .list
  | .tuple l => (scs l).map .tuple
  | p => sc p

theorem sc_reads {I : Im} {h : Heap} {p : PV} {v : Value} {d : PyData} (r : Rep I v p) (e : sc p = some d) : Reads h v d [] ∧ d.canLay0 = true ∧ d.depth ≤ 1 := by
  cases p with
  | none => refine Rep.noneE r ?_; cases e; exact ⟨.none, rfl, by decide⟩
  | bool b => refine Rep.boolE r ?_; cases e; exact ⟨.bool b, rfl, by simp [PyData.depth]⟩
  | int i => refine Rep.intE r fun t => ?_; cases e; exact ⟨.int i t, rfl, by simp [PyData.depth]⟩
  | str s =>
    refine Rep.strE r fun t => ?_
    change (if PyData.strOk s = true then some (PyData.str s) else none) = some d at e
    by_cases hs : PyData.strOk s = true
    · rw [if_pos hs] at e; cases e; exact ⟨.str s t, hs, by simp [PyData.depth]⟩
    · rw [if_neg hs] at e; cases e
  | _ => cases e
theorem scs_reads {I : Im} {h : Heap} {ps : List PV} {vs : List Value} (r : RepAll I vs ps) : ∀ {ds : List PyData}, scs ps = some ds → ReadsAll h vs ds [] ∧ PyData.canLayAll0 ds = true ∧ PyData.depthAll ds ≤ 1 :=
  RepAll.ind (motive := fun vs ps => ∀ {ds : List PyData}, scs ps = some ds → ReadsAll h vs ds [] ∧ PyData.canLayAll0 ds = true ∧ PyData.depthAll ds ≤ 1) r (fun e => by cases e; exact ⟨.nil, rfl, by simp [PyData.depthAll]⟩) fun {v p vs ps} a b ih => by
    intro ds e
    unfold scs at e
    cases h1 : sc p with
    | none => rw [h1] at e; cases e
    | some d =>
      rw [h1] at e
      cases h2 : scs ps with
      | none => rw [h2] at e; cases e
      | some ds =>
        rw [h2] at e
        cases e
        obtain ⟨q1, q2, q3⟩ := sc_reads (h := h) a h1
        obtain ⟨r1, r2, r3⟩ := ih h2
        exact ⟨.cons q1 r1, by simp [PyData.canLayAll0, q2, r2], by unfold PyData.depthAll; exact Nat.max_le.mpr ⟨q3, r3⟩⟩
theorem flat_reads {I : Im} {h : Heap} (hs : Sub I h) {p : PV} {v : Value} {d : PyData} (r : Rep I v p) (e : flat p = some d) : (∃ as, Reads h v d as) ∧ d.canLay0 = true ∧ d.depth ≤ 2 := by
  have one : sc p = some d → (∃ as, Reads h v d as) ∧ d.canLay0 = true ∧ d.depth ≤ 2 := fun e => by
    obtain ⟨q1, q2, q3⟩ := sc_reads (h := h) r e; exact ⟨⟨_, q1⟩, q2, by lia⟩
  cases p with
  | list l =>
    refine Rep.listE r fun ha ho hr => ?_
    ·
      obtain ⟨ds, h1, rfl⟩ := Option.map_eq_some_iff.mp e
      obtain ⟨q1, q2, q3⟩ := scs_reads (h := h) hr h1
      obtain ⟨h1, n, h2⟩ := ho
      exact ⟨⟨_, .list (hs _ _ ha) h1 h2 q1⟩, q2, by simp only [PyData.depth]; lia⟩
  | tuple l =>
    refine Rep.tupleE r fun ha ho hr => ?_
    ·
      obtain ⟨ds, h1, rfl⟩ := Option.map_eq_some_iff.mp e
      obtain ⟨q1, q2, q3⟩ := scs_reads (h := h) hr h1
      obtain ⟨h1, n, h2⟩ := ho
      exact ⟨⟨_, .tuple (hs _ _ ha) h1 h2 q1⟩, q2, by simp only [PyData.depth]; lia⟩
  | _ => exact one e

section
variable {c : Cx} {ρ : PEnv} {Q : PV → Prop} {X : PX → Prop}
theorem eq_data {a b : PV} {da db : PyData} (ha : flat a = some da) (hb : flat b = some db) (q : Q (.bool (PyData.eqv da db))) : V2 c (compareOp .Eq) a b Q X := fun I s va vb d ra rb => by
  obtain ⟨⟨as, q1⟩, q2, q3⟩ := flat_reads d.sub ra ha
  obtain ⟨⟨bs, r1⟩, r2, r3⟩ := flat_reads d.sub rb hb
  have := d.ok.units
  exact SeqAt.compareEq_reads q1 r1 q2 r2 (by lia) (QV.now' d.sub (.bool _) q)
theorem ne_data {a b : PV} {da db : PyData} (ha : flat a = some da) (hb : flat b = some db) (q : Q (.bool (!PyData.eqv da db))) : V2 c (compareOp .NotEq) a b Q X := fun I s va vb d ra rb => by
  obtain ⟨⟨as, q1⟩, q2, q3⟩ := flat_reads d.sub ra ha
  obtain ⟨⟨bs, r1⟩, r2, r3⟩ := flat_reads d.sub rb hb
  have := d.ok.units
  exact SeqAt.compareNe_reads q1 r1 q2 r2 (by lia) (QV.now' d.sub (.bool _) q)
theorem in_list {x : PV} {l : List PV} {dx : PyData} {ds : List PyData} (hx : flat x = some dx) (hl : scs l = some ds) (q : Q (.bool (ds.any fun y => PyData.eqv y dx))) : V2 c (compareOp .In) x (.list l) Q X := fun I s va vb d ra rb => by
  obtain ⟨⟨as, q1⟩, q2, q3⟩ := flat_reads d.sub ra hx
  obtain ⟨⟨bs, r1⟩, r2, r3⟩ := flat_reads d.sub rb (d := .list ds) (by show (scs l).map _ = _; rw [hl]; rfl)
  have := d.ok.units
  exact SeqAt.in_list_reads r1 q1 (by simpa [PyData.canLay0] using r2) q2 (by lia) (QV.now' d.sub (.bool _) q)
theorem in_tuple {x : PV} {l : List PV} {dx : PyData} {ds : List PyData} (hx : flat x = some dx) (hl : scs l = some ds) (q : Q (.bool (ds.any fun y => PyData.eqv y dx))) : V2 c (compareOp .In) x (.tuple l) Q X := fun I s va vb d ra rb => by
  obtain ⟨⟨as, q1⟩, q2, q3⟩ := flat_reads d.sub ra hx
  obtain ⟨⟨bs, r1⟩, r2, r3⟩ := flat_reads d.sub rb (d := .tuple ds) (by show (scs l).map _ = _; rw [hl]; rfl)
  have := d.ok.units
  exact SeqAt.in_tuple_reads r1 q1 (by simpa [PyData.canLay0] using r2) q2 (by lia) (QV.now' d.sub (.bool _) q)
theorem eq_str {x y : Str} (q : Q (.bool (x == y))) : V2 c (compareOp .Eq) (.str x) (.str y) Q X := fun I s va vb d ra rb => by
  cases ra; cases rb; exact PyProof.Rows.eq_str (QV.now' d.sub (.bool _) q)
theorem eq_bool {x y : Bool} (q : Q (.bool (x == y))) : V2 c (compareOp .Eq) (.bool x) (.bool y) Q X := fun I s va vb d ra rb => by
  cases ra; cases rb; exact PyProof.Rows.eq_bool (QV.now' d.sub (.bool _) q)
theorem ne_bool {x y : Bool} (q : Q (.bool (x != y))) : V2 c (compareOp .NotEq) (.bool x) (.bool y) Q X := fun I s va vb d ra rb => by
  cases ra; cases rb; exact PyProof.Rows.ne_bool (QV.now' d.sub (.bool _) q)
noncomputable def isNone : PV → Option Bool
  | .none => some true
  | .any => none
  | _ => some false
theorem is_none {p : PV} {b : Bool} (hp : isNone p = some b) (q : Q (.bool b)) : V2 c (compareOp .Is) p .none Q X := fun I s va vb d ra rb => by
  first | refine Rep.intE rb fun _ => ?_ | refine Rep.strE rb fun _ => ?_ | refine Rep.boolE rb ?_ | refine Rep.noneE rb ?_ | refine Rep.typeE rb ?_ | refine Rep.funcE rb ?_ | cases rb
  have fin := QV.now' (c := c) d.sub (.bool b) q
  cases ra with
  | none => cases hp; exact is_none_none fin
  | any => cases hp
  | _ => cases hp; exact is_none_ne (by simp) fin
theorem ne_nil {l : List PV} (q : Q (.bool (decide (l ≠ [])))) : V2 c (compareOp .NotEq) (.list l) (.list []) Q X := fun I s va vb d ra rb => by
  refine Rep.listE ra fun ha ho hr => ?_
  ·
    refine Rep.listE rb fun ha' ho' hr' => ?_
    ·
      cases hr'
      obtain ⟨h1, n, h2⟩ := ho
      obtain ⟨h1', n', h2'⟩ := ho'
      have hu := d.ok.units
      have fin := QV.now' (c := c) d.sub (.bool _) q
      have hlen := hr.length
      rename_i a o vs a' o'
      have L1 : s.heap.IsList a vs.toArray := ⟨o, d.sub _ _ ha, h1, n, h2⟩
      have L2 : s.heap.IsList a' (#[] : Array Value) := ⟨o', d.sub _ _ ha', h1', n', h2'⟩
      cases vs with
      | nil =>
        cases l with
        | nil => exact SeqAt.RcNeAt.lists (e := fun _ => true) L1 L2 rfl (by lia) (fun j h1 _ => absurd h1 (by simp)) c.W.prog c.W.w _ _ fin
        | cons p l => simp at hlen
      | cons v vs =>
        cases l with
        | nil => simp at hlen
        | cons p l => exact SeqAt.RcNeAt.lists_lengths L1 L2 (by simp) (by lia) c.W.prog c.W.w _ _ fin

theorem add_list {l m : List PV} (hz : l.length + m.length ≤ 2 ^ 20) (q : Q (.list (l ++ m))) : V2 c (binaryOp .Add) (.list l) (.list m) Q X := fun I s va vb d ra rb => by
  refine Rep.listE ra fun ha ho hr => ?_
  ·
    refine Rep.listE rb fun ha' ho' hr' => ?_
    ·
      obtain ⟨h1, n, h2⟩ := ho
      obtain ⟨h1', n', h2'⟩ := ho'
      rename_i a o vs a' o' vs'
      obtain ⟨c1, d1, t1, s1⟩ := o
      obtain ⟨c2, d2, t2, s2⟩ := o'
      simp only at h1 h2 h1' h2'
      subst h1 h2 h1' h2'
      have l1 := hr.length
      have l2 := hr'.length
      have g1 := d.sub _ _ ha
      have g2 := d.sub _ _ ha'
      have e : vs.toArray ++ vs'.toArray = (vs ++ vs').toArray := by simp
      refine concat_meets ⟨_, g1, rfl⟩ ⟨_, g2, rfl⟩ noFill_list_add seq_list_add PySem.F.slot_list_add PySem.F.entry_list_add (PySem.F.args_list_add_2 _ _) (list_addW a a' vs.toArray vs'.toArray n n' d1 d2 s1 s2 (by simp only [List.size_toArray, sizeLine_eq]; lia)) ⟨g1, g2, ?_⟩
      rw [e]
      have p2 := Post.push (l := c.l) (s := s) d.sub { cls := .type "list", data := .seq (vs ++ vs').toArray } rfl s.toks
      exact ⟨_, _, p2, .list (Im.put_self _ _ _) ⟨rfl, 0, rfl⟩ ((hr.mono p2.le).append (hr'.mono p2.le)), q⟩
theorem add_bytes {l m : List Int} (hz : l.length + m.length ≤ 2 ^ 20) (q : Q (.bytes (l ++ m))) : V2 c (binaryOp .Add) (.bytes l) (.bytes m) Q X := fun I s va vb d ra rb => by
  refine Rep.bytesE ra fun b t e0 => ?_
  subst e0
  ·
    refine Rep.bytesE rb fun b' t' e0 => ?_
    subst e0
    ·
      rw [octs_length, octs_length] at hz
      refine KBy.add_bytes (by lia) fun t' k => ?_
      refine ⟨I, _, Post.tok d.sub k, ?_, q⟩
      have e : octs (b ++ b') = octs b ++ octs b' := by simp [octs]
      rw [← e]; exact .bytes _ _

theorem Ev_list {es : List Expr} {pos : Pos} (h : EvL c ρ es (fun ps => ps.length ≤ 2 ^ 20 ∧ Q (.list ps)) X) (hs : starEach es c.env = es.map (fun e => (false, eval e c.env)) := by rfl) : Ev c ρ (eval (.List es pos) c.env) Q X := fun I s r => by
  refine List_ (EvL.spliced (backTo_map hs) h r (fun vs s' I' ps p r' rv ⟨hl, q⟩ => ?_) fun _ _ x a b => ⟨x, a, b⟩)
  have hlen := rv.length
  refine wpAny_newList ?_ (by rw [sizeLine_eq]; lia)
  have p2 := Post.push (l := c.l) (s := s') r'.sub { cls := .type "list", data := .seq vs.toArray } rfl s'.toks
  exact ⟨_, _, p.trans p2, .list (Im.put_self _ _ _) ⟨rfl, 0, rfl⟩ (rv.mono p2.le), q⟩
theorem Ev_tuple {es : List Expr} {k : Nat} {pos : Pos} (h : EvL c ρ es (fun ps => ps.length ≤ 2 ^ 20 ∧ Q (.tuple ps)) X) (hs : starEach es c.env = es.map (fun e => (false, eval e c.env)) := by rfl) : Ev c ρ (eval (.Tuple es k pos) c.env) Q X := fun I s r => by
  refine Tuple_ (EvL.spliced (backTo_map hs) h r (fun vs s' I' ps p r' rv ⟨hl, q⟩ => ?_) fun _ _ x a b => ⟨x, a, b⟩)
  have hlen := rv.length
  refine wpAny_newTuple ?_ (by rw [sizeLine_eq]; lia)
  have p2 := Post.push (l := c.l) (s := s') r'.sub { cls := .type "tuple", data := .seq vs.toArray } rfl s'.toks
  exact ⟨_, _, p.trans p2, .tuple (Im.put_self _ _ _) ⟨rfl, 0, rfl⟩ (rv.mono p2.le), q⟩
theorem Ev_neg {e : Expr} {pos : Pos} (h : Ev c ρ (eval e c.env) (fun p => match p with | .int i => Q (.int (-i)) | _ => False) X) : Ev c ρ (eval (.UnaryOp .USub e pos) c.env) Q X := fun I s r => by
  refine UnaryOp_ (h.then r (fun v s' I' p a r' rv q => ?_) fun _ _ x a b => ⟨x, a, b⟩)
  cases rv with
  | int i t => exact PyProof.Rows.neg_int ⟨I', _, a.trans (Post.tok r'.sub _), .int _ _, q⟩
  | _ => exact q.elim
end
end
section
open PySem PySem.W PySem.Calls PyProof.Rows
section BA
open PySem.Builtin
theorem slot_ba_len : Slot "bytearray" "__len__" "bytearray.__len__" :=
  .of (owner := "bytearray") (n := "__len__") (by rw [typeLookup_type, builtinLookup_eq_fast]; kernel_rfl) (by decide +kernel) (by decide +kernel) (by decide +kernel)
    (by first | exact .inl (by decide +kernel) | exact .inr (by decide +kernel)) (by rw [isSubtype_type]; kernel_rfl)
theorem entry_ba_len : entryFor table "bytearray.__len__" = some Builtin.«bytearray.__len__» := entryFor_of_tree (by kernel_rfl)
theorem args_ba_len (a : Value) : argsOk "bytearray.__len__" ⟨[a], []⟩ := by unfold argsOk; kernel_rfl
theorem slot_ba_getitem : Slot "bytearray" "__getitem__" "bytearray.__getitem__" :=
  .of (owner := "bytearray") (n := "__getitem__") (by rw [typeLookup_type, builtinLookup_eq_fast]; kernel_rfl) (by decide +kernel) (by decide +kernel) (by decide +kernel)
    (by first | exact .inl (by decide +kernel) | exact .inr (by decide +kernel)) (by rw [isSubtype_type]; kernel_rfl)
theorem entry_ba_getitem : entryFor table "bytearray.__getitem__" = some Builtin.«bytearray.__getitem__» := entryFor_of_tree (by kernel_rfl)
theorem args_ba_getitem (a b : Value) : argsOk "bytearray.__getitem__" ⟨[a, b], []⟩ := by unfold argsOk; kernel_rfl
theorem slot_ba_iter : Slot "bytearray" "__iter__" "bytearray.__iter__" :=
  .of (owner := "bytearray") (n := "__iter__") (by rw [typeLookup_type, builtinLookup_eq_fast]; kernel_rfl) (by decide +kernel) (by decide +kernel) (by decide +kernel)
    (by first | exact .inl (by decide +kernel) | exact .inr (by decide +kernel)) (by rw [isSubtype_type]; kernel_rfl)
theorem entry_ba_iter : entryFor table "bytearray.__iter__" = some Builtin.«bytearray.__iter__» := entryFor_of_tree (by kernel_rfl)
theorem args_ba_iter (a : Value) : argsOk "bytearray.__iter__" ⟨[a], []⟩ := by unfold argsOk; kernel_rfl
theorem slot_bai_next : Slot "bytearray_iterator" "__next__" "bytearray_iterator.__next__" :=
  .of (owner := "bytearray_iterator") (n := "__next__") (by rw [typeLookup_type, builtinLookup_eq_fast]; kernel_rfl) (by decide +kernel) (by decide +kernel) (by decide +kernel)
    (by first | exact .inl (by decide +kernel) | exact .inr (by decide +kernel)) (by rw [isSubtype_type]; kernel_rfl)
theorem entry_bai_next : entryFor table "bytearray_iterator.__next__" = some Builtin.«bytearray_iterator.__next__» := entryFor_of_tree (by kernel_rfl)
theorem args_bai_next (a : Value) : argsOk "bytearray_iterator.__next__" ⟨[a], []⟩ := by unfold argsOk; kernel_rfl

noncomputable def IsBa (h : Heap) (a : Addr) (b : Array UInt8) : Prop := ∃ o, h.get? a = some o ∧ barrObj o b
theorem IsBa.type {s : Shared} {a : Addr} {b : Array UInt8} (x : IsBa s.heap a b) : s.TypeIs (.ref a) "bytearray" := let ⟨o, h1, h2, _⟩ := x; ⟨o, h1, h2⟩
section
variable {prog : Program} {w : World} {A : Around} {E : Value → Shared → Prop} {s : Shared} {a : Addr} {b : Array UInt8}
theorem payload_ba (x : IsBa s.heap a b) {Q : Array UInt8 → Shared → Prop} (h : Q b s) : wpAny (model prog w) A (Bytes.payload (.ref a)) Q E s := by
  obtain ⟨o, h1, h2, h3, n, h4⟩ := x
  unfold Bytes.payload Bytes.payload?
  refine wpAny_bind (wpAny_bind (wpAny_load h1 ?_))
  rw [h4]
  exact wpAny_pure (wpAny_pure h)

theorem len_ba (x : IsBa s.heap a b) (hz : b.size ≤ 1099511627776) {Q : Value → Shared → Prop} (h : Q (.int b.size (s.toks + 1)) { s with toks := s.toks + 1 + 1 }) : wpAny (model prog w) A (call (.builtin "len") [.ref a]) Q E s := by
  refine call_function_entry kind_len plain_len entry_len (args_len1 _) ?_
  unfold Builtin.«len»
  refine wpAny_bind (m := oneArg "len" _) (wpAny_pure ?_)
  refine wpAny_bind (m := callSpecial? (.ref a) (Str.ofString "__len__")) (wpAny_callSpecial?_slot (name := Str.ofString "__len__") x.type slot_ba_len
    (wpAny_call_entry slot_ba_len x.type entry_ba_len ?_ (args_ba_len _)))
  show wpAny _ _ (do retInt (← Bytes.payload (.ref a)).size) _ _ s
  refine wpAny_bind (payload_ba x ?_)
  refine wpAny_bind (wpAny_mkInt (wpAny_pure ⟨_, rfl, ?_⟩))
  refine wpAny_bind (wpAny_holding (wpAny_pure ?_))
  refine wpAny_bind (wpAny_letGo ?_)
  show wpAny _ _ (if ((b.size : Nat) : Int) < 0 then _ else _) _ _ _
  rw [if_neg (by lia)]
  show wpAny _ _ (if ((b.size : Nat) : Int) ≥ 2 ^ 63 then _ else _) _ _ _
  rw [if_neg (by lia)]
  exact wpAny_bind (wpAny_mkInt (wpAny_pure ⟨_, rfl, h⟩))

theorem item_ba (x : IsBa s.heap a b) {i : Int} {u : Tok} {c : UInt8} (h0 : 0 ≤ i) (hi : i ≤ 2 ^ 20) (hc : b[i.toNat]? = some c) {Q : Value → Shared → Prop} (h : ∀ t k, Q (.int (c.toNat : Int) t) { s with toks := k }) :
    wpAny (model prog w) A (getItem (.ref a) (.int i u)) Q E s := by
  have hlt : i.toNat < b.size := (Array.getElem?_eq_some_iff.mp hc).1
  refine wpAny_getItem_slot x.type (by decide) slot_ba_getitem (wpAny_call_entry slot_ba_getitem x.type entry_ba_getitem ?_ (args_ba_getitem _ _))
  show wpAny _ _ (Bytes.subscript? (.int i u) >>= fun r => _) _ _ s
  refine wpAny_bind (m := Bytes.subscript? (.int i u)) ?_
  unfold Bytes.subscript?
  refine wpAny_bind (wpAny_specialOf (T := "int") (typeIs_int _ _ _) F.slot_int_index.lookup ?_)
  refine wpAny_ite (KBy.ite_no (show ¬ (Option.isNone (some _) = true) from Bool.false_ne_true) ?_)
  refine wpAny_bind (wpAny_of_eq (a := i) rfl ?_)
  refine wpAny_ite (KBy.ite_no (show ¬ ((!Bytes.fitsIndex i) = true) by simp only [Bytes.fitsIndex, Bool.not_eq_true', Bool.not_eq_false, Bool.and_eq_true, decide_eq_true_eq]; lia) ?_)
  refine wpAny_pure ?_
  refine wpAny_bind (payload_ba x ?_)
  have e : (seqIndex? i b.size).bind (b[·]?) = some c := by
    have h2 : 0 ≤ i := h0
    have h3 : i < b.size := by lia
    have h4 : ¬ i < 0 := by lia
    have h5 := (Array.getElem?_eq_some_iff.mp hc).2
    simp [seqIndex?, h2, h3, h4, h5]
  simp only [e]
  exact wpAny_bind (wpAny_mkInt (wpAny_pure ⟨_, rfl, h _ _⟩))

theorem cut_ba (x : IsBa s.heap a b) {sa : Addr} {l u : Value} {lo hi : Option Int} (hsl : s.heap.IsSliceOf sa l u .none) (hl : IsPart l lo) (hu : IsPart u hi) (hz : b.size ≤ 2 ^ 20) {Q : Value → Shared → Prop}
    (h : ∀ k, Q (.ref s.heap.objs.size) { s with heap := s.heap.push { cls := .type "bytearray", data := .bytearray (KBy.picked b lo hi) }, toks := k }) : wpAny (model prog w) A (getItem (.ref a) (.ref sa)) Q E s := by
  obtain ⟨o, ho, hc, hd⟩ := hsl
  have hT : s.TypeIs (.ref sa) "slice" := ⟨o, ho, hc⟩
  refine wpAny_getItem_slot x.type (by decide) slot_ba_getitem (wpAny_call_entry slot_ba_getitem x.type entry_ba_getitem ?_ (args_ba_getitem _ _))
  show wpAny _ _ (Bytes.subscript? (.ref sa) >>= fun r => _) _ _ s
  refine wpAny_bind (m := Bytes.subscript? (.ref sa)) ?_
  unfold Bytes.subscript?
  refine wpAny_bind (wpAny_specialOf hT slice_no_index (wpAny_pure ?_))
  refine wpAny_bind (wpAny_typeOf hT ?_)
  show wpAny _ _ (Bytes.sliceParts (.ref sa) >>= fun r => _) _ _ s
  refine wpAny_bind ?_
  unfold Bytes.sliceParts
  refine wpAny_bind (wpAny_field (x := .none) ho hd rfl ?_)
  kby_none
  refine wpAny_ite (KBy.ite_no (show ¬ ((Value.none == rawInt 0) = true) from Bool.false_ne_true) ?_)
  refine wpAny_bind (wpAny_field (x := l) ho hd rfl ?_)
  have go : wpAny (model prog w) A.in1 (sliceIndices (rawPart lo) (rawPart hi) (rawPart none) b.size) (fun r s' => r = sliceBounds lo hi none b.size ∧ s' = s) (fun _ _ => False) s :=
    wpAny_of_eq (sliceIndices_raw lo hi none b.size (fun e => nomatch e)) ⟨rfl, rfl⟩
  have hsz : (KBy.picked b lo hi).size ≤ sizeLine := Nat.le_trans (KBc.size_picked_le b lo hi) (by rw [sizeLine_eq]; lia)
  cases hl <;> cases hu <;> (first
    | (kby_none; (refine wpAny_bind (wpAny_field (x := .none) ho hd rfl ?_)); kby_none)
    | (kby_none; (refine wpAny_bind (wpAny_field (x := .int _ _) ho hd rfl ?_)); kby_int)
    | (kby_int; (refine wpAny_bind (wpAny_field (x := .none) ho hd rfl ?_)); kby_none)
    | (kby_int; (refine wpAny_bind (wpAny_field (x := .int _ _) ho hd rfl ?_)); kby_int)) <;> refine wpAny_pure ?_
  all_goals
    refine wpAny_bind (payload_ba x ?_)
    refine wpAny_bind (wpAny_mono go (fun r s' hr => ?_) fun _ _ e => e.elim)
    obtain ⟨hr1, hr2⟩ := hr
    subst hr1 hr2
    unfold Bytes.newBytearray
    refine wpAny_bind (wpAny_newObj_type (wpAny_pure ⟨_, rfl, ?_⟩) hsz)
    exact h s'.toks

noncomputable def IsBaIter (h : Heap) (it a : Addr) (i : Nat) : Prop := ∃ o, h.get? it = some o ∧ o.cls = .type "bytearray_iterator" ∧ o.data = .fields #[.ref a, .int i 0]
theorem IsBaIter.type {it a : Addr} {i : Nat} (y : IsBaIter s.heap it a i) : s.TypeIs (.ref it) "bytearray_iterator" :=
  let ⟨o, ho, hc, _⟩ := y; ⟨o, ho, hc⟩
theorem iter_ba (x : IsBa s.heap a b) {Q : Value → Shared → Prop} (hQ : Q (.ref s.heap.objs.size) { s with heap := s.heap.push { cls := .type "bytearray_iterator", data := .fields #[.ref a, .int 0 0] } }) : wpAny (model prog w) A (pyIter (.ref a)) Q E s := by
  refine wpAny_pyIter_slot x.type slot_ba_iter (wpAny_call_entry slot_ba_iter x.type entry_ba_iter ?_ (args_ba_iter _))
  show wpAny _ _ (do ret (← newFields "bytearray_iterator" [.ref a, rawInt 0])) _ _ s
  exact wpAny_bind (wpAny_newObj_type (wpAny_pure ⟨_, rfl, "bytearray_iterator", _, ⟨_, Heap.get?_push_size _ rfl, rfl⟩, slot_bai_next.lookup, hQ⟩))
theorem slot_bai_self : Slot "bytearray_iterator" "__iter__" "bytearray_iterator.__iter__" :=
  .of (owner := "bytearray_iterator") (n := "__iter__") (by rw [typeLookup_type, builtinLookup_eq_fast]; kernel_rfl) (by decide +kernel) (by decide +kernel) (by decide +kernel)
    (by first | exact .inl (by decide +kernel) | exact .inr (by decide +kernel)) (by rw [isSubtype_type]; kernel_rfl)
theorem entry_bai_self : entryFor table "bytearray_iterator.__iter__" = some Builtin.«dict_keyiterator.__iter__» := entryFor_alias (id' := "dict_keyiterator.__iter__") (by kernel_rfl) rfl (by decide +kernel) (by kernel_rfl)
theorem args_bai_self (a : Value) : argsOk "bytearray_iterator.__iter__" ⟨[a], []⟩ := by unfold argsOk; kernel_rfl
theorem self_ba {it : Addr} {i : Nat} {Q : Value → Shared → Prop} (hit : IsBaIter s.heap it a i) (h : Q (.ref it) s) : wpAny (model prog w) A (pyIter (.ref it)) Q E s := by
  refine wpAny_pyIter_slot hit.type slot_bai_self (wpAny_call_entry slot_bai_self hit.type entry_bai_self ?_ (args_bai_self _))
  show wpAny _ _ (ret (.ref it)) _ _ s
  exact wpAny_pure ⟨_, rfl, "bytearray_iterator", _, hit.type, slot_bai_next.lookup, h⟩
theorem next_ba {it : Addr} {i : Nat} {c : UInt8} {Q : Option Value → Shared → Prop} (hit : IsBaIter s.heap it a i) (x : IsBa s.heap a b) (hx : b[i]? = some c)
    (hQ : ∀ h', IsBaIter h' it a (i + 1) → Heap.SameBut it s.heap h' → Q (some (.int (c.toNat : Int) s.toks)) { s with heap := h', toks := s.toks + 1 }) : wpAny (model prog w) A (pyNext (.ref it)) Q E s := by
  obtain ⟨o, ho, hc, hd⟩ := id hit
  obtain ⟨ob, hb1, hb2, hb3, n, hb4⟩ := id x
  unfold pyNext
  refine wpAny_bind (wpAny_attempt (wpAny_callSpecial?_slot (name := PySem.Str.ofString "__next__") hit.type slot_bai_next
    (wpAny_call_entry slot_bai_next hit.type entry_bai_next ?_ (args_bai_next _))))
  show wpAny _ _ (field (.ref it) 0 >>= _) _ _ s
  refine wpAny_bind (wpAny_field ho hd (x := .ref a) rfl ?_)
  dsimp only
  refine wpAny_bind (wpAny_load hb1 ?_)
  rw [hb4]
  refine wpAny_bind (wpAny_field ho hd (x := .int i 0) rfl ?_)
  simp only [Int.toNat_natCast, hx]
  refine wpAny_bind (wpAny_setField ho hd (by simp) (wpAny_bind (wpAny_mkInt (wpAny_pure ⟨_, rfl, wpAny_pure (hQ _ ?_ (Heap.SameBut.update ..))⟩))))
  exact ⟨_, Heap.get?_update_self _ ho (Obj.isFreed_of_fields (Obj.data_mapFields hd _)), (Obj.cls_mapFields ..).trans hc, by
    rw [Obj.data_mapFields hd]; simp [rawInt]⟩
theorem stop_ba {it : Addr} {i : Nat} {Q : Option Value → Shared → Prop} (hh : A.handled = none) (hit : IsBaIter s.heap it a i) (x : IsBa s.heap a b) (hx : b[i]? = none)
    (hQ : ∀ h', Heap.ExtBut it s.heap h' → Q none { s with heap := h' }) : wpAny (model prog w) A (pyNext (.ref it)) Q E s := by
  obtain ⟨o, ho, hc, hd⟩ := id hit
  obtain ⟨ob, hb1, hb2, hb3, n, hb4⟩ := id x
  unfold pyNext
  refine wpAny_bind (wpAny_attempt (wpAny_callSpecial?_slot (name := PySem.Str.ofString "__next__") hit.type slot_bai_next
    (wpAny_call_entry slot_bai_next hit.type entry_bai_next ?_ (args_bai_next _))))
  show wpAny _ _ (field (.ref it) 0 >>= _) _ _ s
  refine wpAny_bind (wpAny_field ho hd (x := .ref a) rfl ?_)
  dsimp only
  refine wpAny_bind (wpAny_load hb1 ?_)
  rw [hb4]
  refine wpAny_bind (wpAny_field ho hd (x := .int i 0) rfl ?_)
  simp only [Int.toNat_natCast, hx]
  refine wpAny_bind (wpAny_rule (wpAny_bind (wpAny_setField ho hd (by simp) (wpAny_bind (wpAny_letGo ?_)))))
  show wpAny _ _ (newExc (.type "StopIteration") [] >>= _) _ _ _
  refine wpAny_bind ?_
  simp only [newExc, newTuple]
  refine wpAny_bind (wpAny_newObj_type ?_ (by size_fits))
  refine wpAny_bind (m := firstArgMember _ _) (wpAny_of_eq (a := Value.none) (by first | rfl | (simp only [firstArgMember]; rfl)) ?_)
  refine wpAny_newObj_type ?_ (by size_fits)
  simp only [raiseNew]
  refine wpAny_bind (wpAny_handled ?_)
  rw [show A.in1.handled = none from hh]
  refine wpAny_bind (wpAny_pure (wpAny_throw ?_))
  refine wpAny_bind (wpAny_isInstance (T := "StopIteration") (b := true) ⟨_, Heap.get?_push_size _ rfl, rfl⟩ isSubtype_stop ?_)
  exact wpAny_pure (hQ _ (((Heap.SameBut.update ..).extBut.push _).push _))
end
end BA

theorem rep_ba {I : Im} {h : Heap} (hs : Sub I h) {v : Value} {l : List Int} (r : Rep I v (.barr l)) : ∃ a b, v = .ref a ∧ IsBa h a b ∧ octs b = l ∧ ∃ o, I a = some o ∧ barrObj o b := by
  refine Rep.barrE r fun ha ho e0 => ?_
  subst e0
  · exact ⟨_, _, rfl, ⟨_, hs _ _ ha, ho⟩, rfl, _, ha, ho⟩

noncomputable def Buf (p : PV) (l : List Int) : Prop := p = .bytes l ∨ p = .barr l

section
variable {c : Cx} {ρ : PEnv} {Q : PV → Prop} {X : PX → Prop}
theorem octs_get {b : Array UInt8} {i : Nat} {x : Int} (h : (octs b)[i]? = some x) : ∃ u : UInt8, b[i]? = some u ∧ x = (u.toNat : Int) := by
  simp only [octs, List.getElem?_map, Array.getElem?_toList, Option.map_eq_some_iff] at h
  obtain ⟨u, h1, h2⟩ := h
  exact ⟨u, h1, h2.symm⟩
theorem item_buf {p : PV} {l : List Int} {k x : Int} (hb : Buf p l) (h0 : 0 ≤ k) (hl : l.length ≤ 2 ^ 20) (hp : l[k.toNat]? = some x) (q : Q (.int x)) : ItemV c p (.int k) Q X := by
  rcases hb with rfl | rfl
  · exact item_bytes h0 hl hp q
  · intro value slice hs I s va vb d ra rb
    obtain ⟨a, b, rfl, x1, rfl, _⟩ := rep_ba d.sub ra
    first | refine Rep.intE rb fun _ => ?_ | refine Rep.strE rb fun _ => ?_ | refine Rep.boolE rb ?_ | refine Rep.noneE rb ?_ | refine Rep.typeE rb ?_ | refine Rep.funcE rb ?_ | cases rb
    obtain ⟨u, hu, rfl⟩ := octs_get hp
    have hk : k.toNat < (octs b).length := (List.getElem?_eq_some_iff.mp hp).1
    exact tail_any x1.type slot_ba_getitem.lookup (item_ba x1 h0 (by lia) hu fun t k => QV.now d.sub (.int _ _) q k) (hs _ _)
theorem cut_buf {p : PV} {l : List Int} {lo hi : Option Int} (hb : Buf p l) (hl : l.length ≤ 2 ^ 20) (q : ∀ p', Buf p' (cutL l lo hi) → Q p') : CutV c p lo hi Q X := by
  rcases hb with rfl | rfl
  · exact cut_bytes hl (q _ (.inl rfl))
  · intro value slice hs I s va vl vu d ra pl pu
    obtain ⟨a, b, rfl, x1, rfl, _⟩ := rep_ba d.sub ra
    have x2 : IsBa (s.heap.push { cls := .type "slice", data := .fields #[vl, vu, .none] }) a b := let ⟨o, h1, h2⟩ := x1; ⟨o, Heap.get?_push_of_some _ h1, h2⟩
    refine tail_any (IsBa.type (s := { s with heap := s.heap.push { cls := .type "slice", data := .fields #[vl, vu, .none] } }) x2) slot_ba_getitem.lookup
      (cut_ba (s := { s with heap := s.heap.push { cls := .type "slice", data := .fields #[vl, vu, .none] } }) x2 (Heap.IsSliceOf.new _ _ _ _) pl pu (by rw [← octs_length]; exact hl) fun k => ?_) (hs _ _)
    have e : octs (KBy.picked b lo hi) = cutL (octs b) lo hi := KBc.ints_picked (b := b) (ks := octs b) rfl lo hi
    have p1 := Post.keeps (l := c.l) (s' := { s with heap := s.heap.push { cls := .type "slice", data := .fields #[vl, vu, .none] } }) d.sub (fun _ _ e => Heap.get?_push_of_some _ e) rfl rfl
    have p2 := Post.push (l := c.l) (s := { s with heap := s.heap.push { cls := .type "slice", data := .fields #[vl, vu, .none] } }) p1.sub { cls := .type "bytearray", data := .bytearray (KBy.picked b lo hi) } rfl k
    refine ⟨_, .barr (octs (KBy.picked b lo hi)), p1.trans p2, .barr (Im.put_self _ _ _) ⟨rfl, rfl, _, rfl⟩, q _ (.inr (by rw [e]))⟩

theorem iters_barr {l : List Int} : Iters c (.barr l) (l.map .int) := fun I s v Q E hh hs r k => by
  refine Rep.barrE r fun ha ho e0 => ?_
  subst e0
  ·
    rename_i a o b
    have ba : ∀ h, Sub I h → IsBa h a b := fun h hsub => ⟨o, hsub _ _ ha, ho⟩
    refine iter_ba (ba _ hs) (k _ (fun i h => IsBaIter h s.heap.objs.size a i) ⟨fun i h ⟨o, q1, q2, q3⟩ => ⟨o, q1, loose_type q2 q3 (by decide), ⟨_, _, q2, q3, by decide⟩⟩, fun i h h' ⟨o, q1, q2⟩ hk => ⟨o, hk o q1, q2⟩, fun i s' Q E hi hT hsub kk => ?_, fun i s' Q E hT hq => self_ba hT hq, fun s' Q E hT hsub kk => ?_⟩
      ⟨_, Heap.get?_push_size _ rfl, rfl, rfl⟩ fun b o e => Heap.get?_push_of_some _ e)
    · have hi' : i < b.size := by simpa [octs] using hi
      refine next_ba hT (ba _ hsub) (c := b[i]) (by simp [hi']) fun h' hT' hsb => ?_
      exact kk _ h' _ _ (by simp [octs, hi']) (.int _ _) hT' fun b o hb e => (hsb.2 b hb).trans e
    · refine stop_ba hh hT (ba _ hsub) (by simp [octs]) fun h' he => kk h' s'.toks fun b o hb e => he b o hb e
theorem iters_buf {p : PV} {l : List Int} (hb : Buf p l) : Iters c p (l.map .int) := by
  rcases hb with rfl | rfl
  · exact iters_bytes
  · exact iters_barr

theorem len_list {l : List PV} (hl : l.length ≤ 2 ^ 20) (q : Q (.int l.length)) : CallV c (.builtin "len") [.list l] Q X := fun I s vs d rv => by
  refine RepAll.e1 rv fun r => ?_
  all_goals
    refine Rep.listE r fun ha ho hr => ?_
    ·
      obtain ⟨h1, n, h2⟩ := ho
      have e := hr.length
      refine call_len_list ⟨_, d.sub _ _ ha, h1, n, h2⟩ (by rw [List.size_toArray]; lia) ?_
      rw [List.size_toArray, e]
      exact QV.now d.sub (.int _ _) q _
theorem len_buf {p : PV} {l : List Int} (hb : Buf p l) (hl : l.length ≤ 2 ^ 20) (q : Q (.int l.length)) : CallV c (.builtin "len") [p] Q X := fun I s vs d rv => by
  refine RepAll.e1 rv fun r => ?_
  all_goals
    rcases hb with rfl | rfl
    · refine Rep.bytesE r fun b t e0 => ?_
      subst e0
      ·
        have e := octs_length b
        refine len_bytes (by lia) ?_
        rw [← e]
        exact QV.now d.sub (.int _ _) q _
    · obtain ⟨a, b, rfl, x1, rfl, _⟩ := rep_ba d.sub r
      have e := octs_length b
      refine len_ba x1 (by lia) ?_
      rw [← e]
      exact QV.now d.sub (.int _ _) q _
end
end
section
open PySem PySem.W PySem.Calls PyProof.Rows
theorem RepAll.ints {I : Im} : ∀ {ns : List Int} {vs : List Value}, RepAll I vs (ns.map .int) → IntsAre vs ns
  | [], _, h => by cases h; exact .nil
  | n :: ns, _, h => by
    cases h with
    | cons a b => refine Rep.intE a fun t => ?_; exact .cons _ _ b.ints

theorem octs_byteArr {ns : List Int} (h : ∀ n ∈ ns, 0 ≤ n ∧ n < 256) : octs (byteArr ns) = ns := by
  unfold octs byteArr
  rw [List.map_map]
  conv => rhs; rw [← List.map_id ns]
  refine List.map_congr_left fun n hn => ?_
  obtain ⟨h0, h1⟩ := h n hn
  show ((n.toNat.toUInt8.toNat : Nat) : Int) = n
  rw [Nat.toUInt8, UInt8.toNat_ofNat']
  have : n.toNat % 2 ^ 8 = n.toNat := Nat.mod_eq_of_lt (by lia)
  lia

theorem bb_lookup : typeLookup (.type "bytes") "__bytes__" = pure (some (.builtin "bytes.__bytes__")) := by rw [typeLookup_type, builtinLookup_eq_fast]; kernel_rfl
section
variable {prog : Program} {w : World} {A : Around} {E : Value → Shared → Prop} {s : Shared}
theorem bytes_of_bytes {b : Array UInt8} {t : Tok} {Q : Value → Shared → Prop} (h : Q (.bytes b t) s) : wpAny (model prog w) A (call (.type "bytes") [.bytes b t]) Q E s := by
  have new : codeAny (model prog w) A.in1 (.call (.builtin "bytes.__new__") ⟨[.type "bytes", .bytes b t], []⟩) (wants (fun obj s₁ => s₁.TypeIs obj "bytes" ∧ Q obj s₁) E) s := by
    refine codeAny_of_tree ?_
    show wpAny _ A.in1.in1 (do checkBuiltinCall "bytes.__new__" ⟨[.type "bytes", .bytes b t], []⟩; again (.builtin "bytes.__new__" ⟨[.type "bytes", .bytes b t], []⟩)) _ _ s
    refine wpAny_bind (wpAny_of_eq (F.bm_newCall _) (wpAny_pure ⟨plainId_quiet F.bm_plain _, codeAny_builtin F.bm_entry ?_⟩))
    rw [Around.under_plainId F.bm_plain _]
    have hT : s.TypeIs (.bytes b t) "bytes" := typeIs_bytes s b t
    unfold Builtin.«bytes.__new__»
    refine wpAny_bind (wpAny_of_eq (a := true) rfl ?_)
    refine bm_if_false rfl ?_
    refine wpAny_bind (wpAny_of_eq F.bm_sub ?_)
    refine bm_if_false rfl ?_
    refine wpAny_bind (wpAny_of_eq (F.bm_bind _) ?_)
    refine wpAny_bind (wpAny_of_eq (a := ()) rfl ?_)
    refine wpAny_bind (wpAny_of_eq (a := ()) rfl ?_)
    refine bm_if_false rfl ?_
    refine wpAny_bind (wpAny_specialOf hT bb_lookup ?_)
    refine wpAny_bind (wpAny_rule ?_)
    refine wpAny_bind (wpAny_typeOf hT ?_)
    refine bm_if_true rfl ?_
    exact wpAny_pure (a := Fin.done (.ret (.bytes b t))) ⟨hT, h⟩
  refine callType_codes (Q₁ := fun obj s₁ => s₁.TypeIs obj "bytes" ∧ Q obj s₁) F.bm_called (F.bm_typeCall _) F.entry_object_init new fun obj s₁ h₁ => ?_
  exact ⟨h₁.1, F.args_object_init_2 obj _, object_init_meets F.bm_called.init.lookup F.bm_called.made (by decide) prog w A.in1 _ s₁ ⟨h₁.1, rfl, h₁.2⟩⟩

theorem sum_any {l : Addr} {vs : List Value} {ns : List Int} {Q : Value → Shared → Prop} (hh : A.handled = none) (hl : s.heap.IsList l vs.toArray) (hi : IntsAre vs ns)
    (h : ∀ h' tk t', (∀ b o, s.heap.get? b = some o → h'.get? b = some o) → Q (.int ns.sum t') { s with heap := h', toks := tk }) : wpAny (model prog w) A (call (.builtin "sum") [.ref l]) Q E s := by
  obtain ⟨xs, e⟩ := hi.allInts.items
  have e2 : numsOf (intItems xs).toList = xs.toList.map (·.1) := nums_intItems xs
  rw [← e] at e2
  have e3 : numsOf vs = ns := hi.numsOf
  rw [show vs.toArray.toList = vs from rfl, e3] at e2
  rw [e] at hl
  refine sum_intListG hh hl fun h' tk t' hk => ?_
  rw [preSum_eq, List.take_of_length_le (by simp), ← e2]
  exact h h' tk t' hk

theorem mul_list_raw {l : Addr} {items : Array Value} {k : Nat} {x : Int} {u : Tok} {Q : Value → Shared → Prop}
    (hl : s.heap.get? l = some { cls := .type "list", dict := none, data := .seq items k, slots := #[] })
    (hlo : -(2 ^ 63 : Int) ≤ x) (hhi : x < 2 ^ 63) (hsz : items.size * x.toNat ≤ 2 ^ 24)
    (h : Q (.ref s.heap.objs.size) { s with heap := s.heap.push { cls := .type "list", data := .seq (List.foldl (fun x1 x2 => x1 ++ x2) #[] (List.replicate (if items.isEmpty = true then 0 else x.toNat) items)) } }) :
    wpAny (model prog w) A (binaryOp .Mult (.ref l) (.int x u)) Q E s :=
  wpAny_binaryOp_repeat_ref (T := "list") (U := "int") (by decide) ⟨_, hl, rfl⟩ (fun s' => typeIs_int s' x u) noFill_list_mul F.fills_int_mul F.slot_int_rmul repeat_list F.slot_int_index.lookup
    (call_meets F.slot_int_rmul (typeIs_int s x u) F.entry_int_rmul (F.args_int_rmul_2 _ _) (int___rmul___int_list x u l items k)
      ⟨hl, rfl, ⟨_, hl, rfl⟩, call_meets F.slot_list_mul ⟨_, hl, rfl⟩ F.entry_list_mul (F.args_list_mul_2 _ _)
        (AutoListH.list___mul___list_int_3 l items k x u (by simp [Builtin.List.listFitsIndex]; lia) (by lia) (by simp [Builtin.List.listTooLong, sizeLine]; lia))
        ⟨hl, h⟩⟩)
end

theorem repl_toList (vs : List Value) (n : Nat) : ∀ acc : Array Value, (List.foldl (fun x1 x2 => x1 ++ x2) acc (List.replicate n vs.toArray)).toList = acc.toList ++ (List.replicate n vs).flatten := by
  induction n with
  | zero => intro acc; simp
  | succ n ih => intro acc; rw [List.replicate_succ, List.foldl_cons, ih]; simp [List.replicate_succ]
theorem RepAll.repl {I : Im} {vs : List Value} {ps : List PV} (h : RepAll I vs ps) : ∀ n : Nat, RepAll I (List.replicate n vs).flatten (List.replicate n ps).flatten
  | 0 => .nil
  | n + 1 => by simp only [List.replicate_succ, List.flatten_cons]; exact h.append (h.repl n)

section
variable {c : Cx} {ρ : PEnv} {Q : PV → Prop} {X : PX → Prop}
theorem bytes_ints {ns : List Int} (hr : ∀ n ∈ ns, 0 ≤ n ∧ n < 256) (hz : ns.length ≤ 2 ^ 20) (q : Q (.bytes ns)) : CallV c (.type "bytes") [.list (ns.map .int)] Q X := fun I s vs d rv => by
  refine RepAll.e1 rv fun r => ?_
  all_goals
    refine Rep.listE r fun ha ho hr' => ?_
    ·
      obtain ⟨h1, n, h2⟩ := ho
      have hi := hr'.ints
      have hl := hr'.length
      rw [List.length_map] at hl
      refine call_bytes_ints ⟨_, d.sub _ _ ha, h1, n, h2⟩ hi hr (by rw [hl, sizeLine_eq]; lia) d.ok.handled fun h' t k hk => ?_
      refine ⟨I, .bytes (octs (byteArr ns)), Post.keeps d.sub hk rfl rfl, .bytes _ _, ?_⟩
      rw [octs_byteArr hr]; exact q
theorem bytes_bytes {l : List Int} (q : Q (.bytes l)) : CallV c (.type "bytes") [.bytes l] Q X := fun I s vs d rv => by
  refine RepAll.e1 rv fun r => ?_
  all_goals
    refine Rep.bytesE r fun b t e0 => ?_
    subst e0
    · exact bytes_of_bytes (QV.now' d.sub (.bytes b t) q)
theorem sum_ints {ns : List Int} (q : Q (.int ns.sum)) : CallV c (.builtin "sum") [.list (ns.map .int)] Q X := fun I s vs d rv => by
  refine RepAll.e1 rv fun r => ?_
  all_goals
    refine Rep.listE r fun ha ho hr' => ?_
    ·
      obtain ⟨h1, n, h2⟩ := ho
      exact sum_any d.ok.handled ⟨_, d.sub _ _ ha, h1, n, h2⟩ hr'.ints fun h' tk t' hk => ⟨I, _, Post.keeps d.sub hk rfl rfl, .int _ _, q⟩
theorem range_1 {n : Int} (q : Q (.range 0 n 1)) : CallV c (.type "range") [.int n] Q X := fun I s vs d rv => by
  refine RepAll.e1 rv fun r => ?_
  refine Rep.intE r fun t1 => ?_
  all_goals
    refine call_range_1 ?_
    have p := Post.push (l := c.l) (s := s) d.sub { cls := .type "range", data := .fields #[.int 0 s.toks, .int n t1, .int 1 (s.toks + 1)] } rfl (s.toks + 1 + 1)
    exact ⟨_, _, p, .range (Im.put_self _ _ _) ⟨_, _, _, rfl⟩, q⟩
theorem range_3 {a b k : Int} (hk : k ≠ 0) (hp : Builtin.divisionGoesByPylong (b - a) k = false) (q : Q (.range a b k)) : CallV c (.type "range") [.int a, .int b, .int k] Q X := fun I s vs d rv => by
  refine RepAll.e3 rv fun r r2 r3 => ?_
  refine Rep.intE r fun t1 => ?_
  refine Rep.intE r2 fun t2 => ?_
  refine Rep.intE r3 fun t3 => ?_
  all_goals
        refine call_range_3 hk ?_ (.inl hp)
        have p := Post.push (l := c.l) (s := s) d.sub { cls := .type "range", data := .fields #[.int a t1, .int b t2, .int k t3] } rfl s.toks
        exact ⟨_, _, p, .range (Im.put_self _ _ _) ⟨_, _, _, rfl⟩, q⟩

theorem mul_bytes {l : List Int} {n : Int} (hl : l ≠ []) (hz : l.length ≤ 16) (h0 : -1048576 ≤ n) (h1 : n ≤ 1048576) (q : Q (.bytes (List.replicate n.toNat l).flatten)) : V2 c (binaryOp .Mult) (.bytes l) (.int n) Q X := fun I s va vb d ra rb => by
  refine Rep.bytesE ra fun b t e0 => ?_
  subst e0
  ·
    first | refine Rep.intE rb fun _ => ?_ | refine Rep.strE rb fun _ => ?_ | refine Rep.boolE rb ?_ | refine Rep.noneE rb ?_ | refine Rep.typeE rb ?_ | refine Rep.funcE rb ?_ | cases rb
    have hb : b.toList.toArray = b := by simp
    rw [← hb]
    refine bytes_mul_any (fun e => hl (by simp [octs, e])) h0 h1 (by simpa [octs] using hz) fun t' k => ?_
    refine ⟨I, .bytes (octs ((List.replicate n.toNat b.toList).flatten).toArray), Post.tok d.sub k, .bytes _ _, ?_⟩
    have e : octs ((List.replicate n.toNat b.toList).flatten).toArray = (List.replicate n.toNat (octs b)).flatten := by
      simp [octs, List.map_flatten]
    rw [e]; exact q
theorem iadd_bytes {l m : List Int} (hz : l.length + m.length ≤ 2 ^ 20) (q : Q (.bytes (l ++ m))) : V2 c (inplaceOp .Add) (.bytes l) (.bytes m) Q X := fun I s va vb d ra rb => by
  refine Rep.bytesE ra fun b t e0 => ?_
  subst e0
  ·
    refine Rep.bytesE rb fun b' t' e0 => ?_
    subst e0
    ·
      rw [octs_length, octs_length] at hz
      have h : ∀ t' k, QV c I s Q (.bytes (b ++ b') t') { s with toks := k } := fun t' k => by
        refine ⟨I, _, Post.tok d.sub k, ?_, q⟩
        have e : octs (b ++ b') = octs b ++ octs b' := by simp [octs]
        rw [← e]; exact .bytes _ _
      refine iconcat_gives (typeIs_bytes s b t) (typeIs_bytes s b' t') (by rw [typeLookup_type, builtinLookup_eq_fast]; kernel_rfl) KBy.noFill_bytes_add KBy.seq_bytes_add FB.slot_bytes_add FB.entry_bytes_add (FB.args_bytes_add_2 _ _) (KBy.gives_bytes_add (KBy.tooLong_not (by lia))) ?_
      by_cases hb : b.isEmpty = true
      · rw [if_pos hb]
        have e : b = #[] := Array.isEmpty_iff.1 hb
        have h' := h t' s.toks
        rw [e, Array.empty_append] at h'
        exact h'
      · rw [if_neg hb]
        by_cases hc : b'.isEmpty = true
        · rw [if_pos hc]
          have e : b' = #[] := Array.isEmpty_iff.1 hc
          have h' := h t s.toks
          rw [e, Array.append_empty] at h'
          exact h'
        · rw [if_neg hc]
          exact ⟨by rw [Array.size_append, sizeLine_eq]; lia, h s.toks (s.toks + 1)⟩

theorem Ev_listmul {es : List Expr} {e : Expr} {pos pos' : Pos} (h : EvL c ρ es (fun ps => ps.length ≤ 2 ^ 10 ∧ Ev c ρ (eval e c.env) (fun p => match p with | .int n => n ≤ 2 ^ 10 ∧ -(2 ^ 10) ≤ n ∧ Q (.list (List.replicate n.toNat ps).flatten) | _ => False) X) X)
    (hs : starEach es c.env = es.map (fun e => (false, eval e c.env)) := by rfl) : Ev c ρ (eval (.BinOp (.List es pos') .Mult e pos) c.env) Q X := fun I s r => by
  refine wpAny_BinOp ?_
  refine List_ (EvL.spliced (backTo_map hs) h r (fun vs s' I' ps p r' rv ⟨hl, q⟩ => ?_) fun _ _ x a b => ⟨x, a, b⟩)
  have hlen := rv.length
  refine wpAny_newList ?_ (by rw [sizeLine_eq]; lia)
  have p2 := Post.push (l := c.l) (s := s') r'.sub { cls := .type "list", data := .seq vs.toArray } rfl s'.toks
  have r2 := r'.post p2
  refine q.then r2 (fun v s'' I'' pn p3 r3 rn qn => ?_) fun _ _ x a b => ⟨x, a.anchor (p.trans p2), b⟩
  cases rn with
  | int n t =>
    obtain ⟨h1, h2, q⟩ := qn
    have hget := p3.sub _ _ (p3.le _ _ (Im.put_self I' s'.heap.objs.size { cls := .type "list", data := .seq vs.toArray }))
    have hsz : vs.toArray.size * n.toNat ≤ 2 ^ 24 := by
      rw [List.size_toArray]
      have : vs.length * n.toNat ≤ 2 ^ 10 * 2 ^ 10 := Nat.mul_le_mul (by lia) (by lia)
      lia
    refine mul_list_raw hget (by lia) (by lia) hsz ?_
    have p4 := Post.push (l := c.l) (s := s'') p3.sub { cls := .type "list", data := .seq (List.foldl (fun x1 x2 => x1 ++ x2) #[] (List.replicate (if vs.toArray.isEmpty = true then 0 else n.toNat) vs.toArray)) } rfl s''.toks
    refine ⟨_, .list (List.replicate n.toNat ps).flatten, ((p.trans p2).trans p3).trans p4, .list (Im.put_self _ _ _) (vs := (List.replicate n.toNat vs).flatten) ⟨rfl, 0, ?_⟩ ((rv.mono ((p2.le.trans p3.le).trans p4.le)).repl _), q⟩
    have key : (List.foldl (fun x1 x2 => x1 ++ x2) #[] (List.replicate (if vs.toArray.isEmpty = true then 0 else n.toNat) vs.toArray)) = ((List.replicate n.toNat vs).flatten).toArray := by
      apply Array.ext'
      rw [repl_toList]
      cases vs with
      | nil => simp
      | cons v vs => simp
    rw [key]
  | _ => exact qn.elim
end
end
section
open PySem PySem.W PySem.Calls PyProof.Rows
section
variable {c : Cx} {ρ : PEnv} {Q : PV → Prop} {X : PX → Prop} {QT : Bool → Prop}
theorem Tr_chain2 {l r₁ r₂ : Expr} {o₁ o₂ : CmpOp} {pos : Pos} {wh : Sem Value}
    (h : Ev c ρ (eval l c.env) (fun a => Ev c ρ (eval r₁ c.env) (fun b => V2 c (compareOp o₁) a b (fun p => TV c p fun z =>
      if z then Ev c ρ (eval r₂ c.env) (fun d => V2 c (compareOp o₂) b d (fun p => TV c p QT) X) X else QT false) X) X) X)
    (hm : lastMarks [o₁, o₂] [r₁, r₂] = false := by with_unfolding_all rfl) :
    Tr c ρ (isTrue (.Compare l [o₁, o₂] [r₁, r₂] pos) c.env wh) QT X := fun I s d => by
  refine isTrue_chain (rs := []) (ops := []) ?_ hm
  refine h.then d (fun va s₁ I₁ a p₁ d₁ r₁ h₁ => ?_) fun _ _ x a b => ⟨x, a, b⟩
  refine test_link (h₁.then d₁ (fun vb s₂ I₂ b p₂ d₂ r₂ h₂ => ?_) fun _ _ x a b => ⟨x, a.anchor p₁, b⟩)
  have p₁₂ := p₁.trans p₂
  refine wpAny_mono (h₂ _ _ _ _ d₂.none (r₁.mono p₂.le) r₂) (fun v s₃ ⟨I₃, p, p₃, r₃, q₃⟩ => ?_) fun _ _ q => QE.post p₁₂ q
  have p₁₃ := p₁₂.trans p₃
  refine wpAny_mono (q₃ _ _ _ X (d₂.post p₃).none r₃) (fun z s₄ ⟨I₄, p₄, q₄⟩ => ?_) fun _ _ q => QE.post p₁₃ q
  have p₁₄ := p₁₃.trans p₄
  have d₄ := d.post p₁₄
  cases z with
  | false => exact ⟨I₄, p₁₄, q₄⟩
  | true =>
    refine test_last (q₄.then d₄ (fun vd s₅ I₅ e p₅ d₅ r₅ h₅ => ?_) fun _ _ x a b => ⟨x, a.anchor p₁₄, b⟩)
    have p₁₅ := p₁₄.trans p₅
    refine wpAny_mono (h₅ _ _ _ _ d₅.none (((r₂.mono p₃.le).mono p₄.le).mono p₅.le) r₅) (fun v s₆ ⟨I₆, p, p₆, r₆, q₆⟩ => ?_) fun _ _ q => QE.post p₁₅ q
    exact tr_post (p₁₅.trans p₆) (q₆ _ _ _ X (d₅.post p₆).none r₆)

theorem Ev_type {x : Str} {px : Pos} {n : String} (hx : NameIs c x (.type n)) (q : Q (.type n)) : Ev c ρ (eval (.Name x px) c.env) Q X := fun I s r => name_is r hx (QV.now' r.sub (.type n) q)
theorem Ev_func {x : Str} {px : Pos} {a : Addr} (hx : NameIs c x (.ref a)) (q : Q (.func a)) : Ev c ρ (eval (.Name x px) c.env) Q X := fun I s r => name_is r hx (QV.now' r.sub (.func a) q)


structure Attr (c : Cx) (C : Addr) (name : Str) : Prop where
  plain : plainGet c.W.K C name = true
  dict : hasDictIn c.W.K C = true
  find : ∃ attr, findIn c.W.K (.ref C) name = some attr ∧ noGet c.W.K attr = true

structure IsNotStr (c : Cx) (C : Addr) : Prop where
  e : kin_notT c.W.K C "str" = true
  hg : plainGet c.W.K C "__class__" = true
  hdct : hasDictIn c.W.K C = true
  ha : findIn c.W.K (.ref C) "__class__" = some (some (.builtin "object.__class__"))
  hn : specialIn c.W.K (.builtin "object.__class__") "__get__" = some (some (.builtin "getset_descriptor.__get__"))
  htk : takesIn c.W.K (.builtin "object.__class__") = some true
  hm : mroIn c.W.K C (.type "object") = some true

theorem rep_inst {I : Im} {h : Heap} (hs : Sub I h) {v : Value} {C : Addr} {fs : List (Str × PV)} (r : Rep I v (.inst C fs)) : ∃ a d es n, v = .ref a ∧ InstAt h a (instObj C d) C (some (dictOf es n)) ∧ RepFs I es fs := by
  refine Rep.instE r fun ha hd hr => ?_
  · exact ⟨_, _, _, _, rfl, ⟨hs _ _ ha, rfl, rfl, hs _ _ hd⟩, hr⟩
theorem isinst_not {C : Addr} {fs : List (Str × PV)} (hC : IsNotStr c C) (q : Q (.bool false)) : CallV c (.builtin "isinstance") [.inst C fs, .type "str"] Q X := fun I s vs d rv => by
  refine RepAll.e2 rv fun r r2 => ?_
  refine Rep.typeE r2 ?_
  obtain ⟨a, dd, es, n, rfl, Ia, _⟩ := rep_inst d.sub r
  exact kin_callT d.inK Ia hC.e F.isi_meta_str hC.hg hC.hdct hC.ha hC.hn hC.htk hC.hm (QV.now d.sub (.bool _) q _)

theorem RepFs.get {I : Im} {name : Str} {es : List DictEntry} {fs : List (Str × PV)} (r : RepFs I es fs) : ∀ {q : PV}, fs.lookup name = some q → ∃ v, getL name es = some (some v) ∧ Rep I v q :=
  RepFs.ind (motive := fun es fs => ∀ {q : PV}, fs.lookup name = some q → ∃ v, getL name es = some (some v) ∧ Rep I v q) r (fun e => by cases e) fun {hh n t v p es fs} a b ih => by
    intro q e
    rw [List.lookup_cons] at e
    unfold getL
    rw [List.find?_cons]
    by_cases z : name = n
    · subst z
      rw [beq_self_eq_true] at e; cases e
      have : (Value.str name t).isStr name = true := by simp [Value.isStr]
      rw [this]; exact ⟨_, rfl, a⟩
    · rw [beq_eq_false_iff_ne.mpr z] at e
      have : (Value.str n t).isStr name = false := by simp [Value.isStr]; exact fun h => z h.symm
      rw [this]
      obtain ⟨v', h1, h2⟩ := ih e
      refine ⟨v', ?_, h2⟩
      unfold getL at h1
      split at h1
      · rename_i x hx; rw [hx]; exact h1
      · split at h1 <;> cases h1
noncomputable def notAny : PV → Bool
  | .any => false
  | _ => true
theorem Rep.handed {I : Im} {v : Value} {p : PV} (r : Rep I v p) (h : notAny p = true) : handedIn v = true := by
  cases r <;> first | rfl | cases h

theorem Ev_attr {e : Expr} {name : Str} {pos : Pos} (h : Ev c ρ (eval e c.env) (fun p => match p with | .inst C fs => Attr c C name ∧ ∃ q, fs.lookup name = some q ∧ notAny q = true ∧ Q q | _ => False) X)
    (he : eval (.Attribute e name pos) c.env = (do
      let o ← eval e c.env
      standAt pos.atName
      let r ← holding [o] (getAttr o name true)
      letTemporaryGo e o r
      pure r) := by with_unfolding_all rfl) : Ev c ρ (eval (.Attribute e name pos) c.env) Q X := fun I s r => by
  refine Attribute_any_ (h.then r (fun v s' I' p a r' rv q => ?_) fun _ _ x a b => ⟨x, a, b⟩) he
  cases p with
  | inst C fs =>
    obtain ⟨hA, q, hq, hna, hQ⟩ := q
    obtain ⟨b, d, es, n, rfl, Ib, hr⟩ := rep_inst r'.sub rv
    obtain ⟨w, hw, hrw⟩ := hr.get hq
    obtain ⟨attr, h1, h2⟩ := hA.find
    exact get_value r'.inK Ib (plainGet_of hA.plain).1 (findObj_own hA.dict h1 h2 hw) (hrw.handed hna) ⟨I', q, a.trans (Post.tok r'.sub _), hrw, hQ⟩
  | _ => exact q.elim
end

theorem draw_wk {c : Cx} {it : Addr} {J : Im} {items : List PV} {T : Nat → Heap → Prop} (W : Wk c it J items T) {E : Value → Shared → Prop} : ∀ (n i : Nat) (s : Shared) (Q : List Value → Shared → Prop), i + n ≤ items.length → T i s.heap → Sub J s.heap → J it = none →
    (∀ vs h' tk, RepAll J vs ((items.drop i).take n) → T (i + n) h' → Sub J h' → (∀ b o, b ≠ it → s.heap.get? b = some o → h'.get? b = some o) → Q vs { s with heap := h', toks := tk }) → wpAny c.M c.A (draw (.ref it) n) Q E s
  | 0, i, s, Q, _, hT, hs, _, k => by
    show wpAny _ _ (pure []) Q E s
    exact wpAny_pure (k [] s.heap s.toks (by rw [List.take_zero]; exact .nil) hT hs fun _ _ _ e => e)
  | n + 1, i, s, Q, hle, hT, hs, hJ, k => by
    show wpAny _ _ (pyNext (.ref it) >>= _) Q E s
    refine wpAny_bind (W.item i s _ _ (by lia) hT hs fun v h' tk p hp hr hT' hk => ?_)
    have hs' : Sub J h' := fun a o e => hk a o (fun z => by rw [z, hJ] at e; cases e) (hs a o e)
    refine wpAny_bind (wpAny_holding (draw_wk W n (i + 1) _ _ (by lia) hT' hs' hJ fun vs h₂ tk₂ hrs hT₂ hs₂ hk₂ => wpAny_pure ?_))
    obtain ⟨hi', e⟩ := List.getElem?_eq_some_iff.mp hp
    have hd : items.drop i = p :: items.drop (i + 1) := by rw [List.drop_eq_getElem_cons hi', e]
    refine k (v :: vs) h₂ tk₂ ?_ (by rw [show i + (n + 1) = i + 1 + n by lia]; exact hT₂) hs₂ fun b o hb e => hk₂ b o hb (hk b o hb e)
    rw [hd, List.take_succ_cons]
    exact .cons hr hrs

theorem unpackItems_seq {c : Cx} {I : Im} {s : Shared} {v : Value} {p : PV} {ps : List PV} {n : Nat} {Q : List Value → Shared → Prop} {E : Value → Shared → Prop} (hp : p = .tuple ps ∨ p = .list ps) (hn : n = ps.length) (hh : c.A.handled = none) (hs : Sub I s.heap) (r : Rep I v p)
    (k : ∀ vs h' tk, RepAll I vs ps → (∀ b o, s.heap.get? b = some o → h'.get? b = some o) → Q vs { s with heap := h', toks := tk }) : wpAny c.M c.A (unpackItems v n none) Q E s := by
  subst hn
  have hit : Iters c p ps := by rcases hp with rfl | rfl; exact iters_tuple; exact iters_list
  have hno : ∀ Q' : Bool → Shared → Prop, Q' false s → wpAny c.M c.A (notIterableAtAll v) Q' E s := fun Q' q => by
    unfold notIterableAtAll
    rcases hp with rfl | rfl
    · refine Rep.tupleE r fun ha ho hr => ?_
      ·
        obtain ⟨h1, n, h2⟩ := ho
        exact wpAny_bind (wpAny_specialOf (T := "tuple") ⟨_, hs _ _ ha, h1⟩ slot_tuple_iter.lookup (wpAny_pure q))
    · refine Rep.listE r fun ha ho hr => ?_
      ·
        obtain ⟨h1, n, h2⟩ := ho
        exact wpAny_bind (wpAny_specialOf (T := "list") ⟨_, hs _ _ ha, h1⟩ slot_list_iter.lookup (wpAny_pure q))
  unfold unpackItems
  refine wpAny_bind (hno _ ?_)
  simp only [Bool.false_eq_true, if_false]
  refine wpAny_bind (wpAny_holding (hit I s v _ _ hh hs r fun h' T W hT hk => ?_))
  have hJ : I s.heap.objs.size = none := hs.none_new
  have hs' : Sub I h' := fun a o e => hk a o (hs a o e)
  refine wpAny_bind (wpAny_holding (draw_wk W ps.length 0 _ _ (by lia) hT hs' hJ fun vs h₂ tk₂ hrs hT₂ hs₂ hk₂ => ?_))
  rw [List.drop_zero, List.take_length] at hrs
  have hlen := hrs.length
  rw [if_neg (by rw [hlen]; lia)]
  rw [Nat.zero_add] at hT₂
  refine wpAny_bind (wpAny_holding (W.done _ _ _ hT₂ hs₂ fun h₃ tk₃ hk₃ => ?_))
  simp only [Option.isSome_none, Bool.false_eq_true, if_false]
  refine wpAny_pure (k vs h₃ tk₃ hrs fun b o e => ?_)
  have hb : b ≠ s.heap.objs.size := Nat.ne_of_lt (Heap.lt_size e)
  exact hk₃ b o hb (hk₂ b o hb (hk b o e))

theorem RepAll.reverse {I : Im} {vs : List Value} {ps : List PV} (h : RepAll I vs ps) : RepAll I vs.reverse ps.reverse :=
  RepAll.ind (motive := fun vs ps => RepAll I vs.reverse ps.reverse) h .nil fun a _ ih => by simp only [List.reverse_cons]; exact ih.append (.cons a .nil)
noncomputable def binds : List Str → List PV → PEnv → PEnv
  | x :: xs, p :: ps, ρ => binds xs ps ((x, p) :: ρ)
  | _, _, ρ => ρ
noncomputable def nameOf : Expr → Option Str
  | .Name x _ => some x
  | _ => none
noncomputable def tgt (es : List Expr) (xs : List Str) : Prop := es.map nameOf = xs.map some
theorem nameOf_some {e : Expr} {x : Str} (h : nameOf e = some x) : ∃ p, e = .Name x p := by
  cases e with
  | Name y p => exact ⟨p, by rw [Option.some.inj h]⟩
  | _ => exact absurd h.symm (Option.some_ne_none x)
theorem tgt.nil {es : List Expr} (h : tgt es []) : es = [] := List.map_eq_nil_iff.mp h
theorem tgt.cons {es : List Expr} {x : Str} {xs : List Str} (h : tgt es (x :: xs)) : ∃ p es', es = .Name x p :: es' ∧ tgt es' xs := by
  cases es with
  | nil => exact absurd h.symm (List.cons_ne_nil _ _)
  | cons e es => obtain ⟨p, rfl⟩ := nameOf_some (List.cons.inj h).1; exact ⟨p, es, rfl, (List.cons.inj h).2⟩
theorem slots_nil {c : Cx} {σ : Ow} : ∀ z ∈ ([] : List Str), Slot1 c σ z := fun _ h => nomatch h
theorem slots_cons {c : Cx} {σ : Ow} {x : Str} {xs : List Str} (h : Slot1 c σ x) (k : ∀ z ∈ xs, Slot1 c σ z) : ∀ z ∈ x :: xs, Slot1 c σ z := fun z hz => (List.mem_cons.mp hz).elim (fun e => e ▸ h) (k z)

section
variable {c : Cx} {F : Fm} {ρ : PEnv} {σ : Ow} {K : PK}
theorem names_store {E : Value → Shared → Prop} {I : Im} {Q : Unit → Shared → Prop} {xs : List Str} : ∀ {elts : List Expr} {vs : List Value} {ps : List PV} {ρ : PEnv} {s : Shared}, tgt elts xs → (∀ x ∈ xs, Slot1 c σ x) → St c F ρ σ I s → RepAll I vs ps → xs.length = ps.length →
    (∀ s', St c F (binds xs ps ρ) σ I s' → Q () s') → wpAny c.M c.A (assignInOrder ((assignEach elts c.env).map (·.2)) vs) Q E s := by
  induction xs with
  | nil =>
    intro elts vs ps ρ s ht hx S r hl k
    cases ps with
    | nil =>
      obtain rfl := ht.nil
      exact assignInOrder_nil (k s S)
    | cons p ps => cases hl
  | cons y ys ih =>
    intro elts vs ps ρ s ht hx S r hl k
    cases ps with
    | nil => cases hl
    | cons p ps =>
      refine RepAll.eC r fun r rs => ?_
      obtain ⟨pos, es, rfl, ht2⟩ := ht.cons
      refine assignInOrder_cons (PyProof.Rows.assign_Name (S.store r (hx y (.head _)).1 (hx y (.head _)).2 fun s' S' _ => ?_))
      exact ih (ρ := (y, p) :: ρ) ht2 (fun z hz => hx z (.tail _ hz)) S' rs (Nat.succ.inj hl) k
theorem names_bind {E : Value → Shared → Prop} {I : Im} {Q : Unit → Shared → Prop} {xs : List Str} : ∀ {vs : List Value} {ps : List PV} {ρ : PEnv} {s : Shared}, (∀ x ∈ xs, Slot1 c σ x) → St c F ρ σ I s → RepAll I vs ps → xs.length = ps.length →
    (∀ s', St c F (binds xs ps ρ) σ I s' → Q () s') → wpAny c.M c.A (assignInOrder (xs.map fun n => bindName c.env n) vs) Q E s := by
  induction xs with
  | nil =>
    intro vs ps ρ s hx S r hl k
    cases ps with
    | nil => exact assignInOrder_nil (k s S)
    | cons p ps => cases hl
  | cons y ys ih =>
    intro vs ps ρ s hx S r hl k
    cases ps with
    | nil => cases hl
    | cons p ps =>
      refine RepAll.eC r fun r rs => ?_
      refine assignInOrder_cons (wpAny_bindName (S.store r (hx y (.head _)).1 (hx y (.head _)).2 fun s' S' _ => ?_))
      exact ih (ρ := (y, p) :: ρ) (fun z hz => hx z (.tail _ hz)) S' rs (Nat.succ.inj hl) k

theorem tgt_length {xs : List Str} : ∀ {elts : List Expr}, tgt elts xs → (assignEach elts c.env).length = xs.length ∧ (assignEach elts c.env).findIdx? (·.1) = none := by
  induction xs with
  | nil =>
    intro elts ht
    obtain rfl := ht.nil
    exact ⟨rfl, rfl⟩
  | cons y ys ih =>
    intro elts ht
    obtain ⟨p, es, rfl, ht2⟩ := ht.cons
    obtain ⟨h1, h2⟩ := ih ht2
    have e : assignEach (.Name y p :: es) c.env = (false, assign (.Name y p) c.env) :: assignEach es c.env := rfl
    rw [e]
    exact ⟨congrArg (· + 1) h1, by rw [List.findIdx?_cons, h2]; rfl⟩

theorem assign_names {E : Value → Shared → Prop} {elts : List Expr} {xs : List Str} {k : Nat} {tpos : Pos} {I : Im} {s : Shared} {v : Value} {p : PV} {ps : List PV} {Q : Unit → Shared → Prop} (ht : tgt elts xs) (hx : ∀ x ∈ xs, Slot1 c σ x) (S : St c F ρ σ I s) (r : Rep I v p) (hp : p = .tuple ps ∨ p = .list ps) (hl : xs.length = ps.length)
    (kk : ∀ s', St c F (binds xs ps ρ) σ I s' → Q () s') : wpAny c.M c.A (assign (.Tuple elts k tpos) c.env v) Q E s := by
  rw [PyProof.Rows.assign_Tuple]
  refine wpAny_bind (wpAny_standAt ?_)
  unfold unpack
  obtain ⟨h1, h2⟩ := tgt_length (c := c) ht
  rw [h1, h2]
  refine wpAny_bind (wpAny_holding (unpackItems_seq hp hl S.rd.ok.handled S.rd.sub r fun vs h' tk rv hk => ?_))
  exact names_store ht hx (S.post (Post.keeps (s' := { s with heap := h', toks := tk }) S.rd.sub hk rfl rfl)) rv hl kk
theorem Sx_unpack {elts : List Expr} {xs : List Str} {k : Nat} {tpos pos : Pos} {e : Expr} (ht : tgt elts xs) (hx : ∀ x ∈ xs, Slot1 c σ x)
    (h : Ev c ρ (eval e c.env) (fun p => ∃ ps, (p = .tuple ps ∨ p = .list ps) ∧ xs.length = ps.length ∧ K.next (binds xs ps ρ) σ) K.exc)
    (hs : swapsWithSole [.Tuple elts k tpos] e pos.line c.env = pure false := by rfl) (hw : swappedStores [.Tuple elts k tpos] e c.env = pure none := by rfl) :
    Sx c F ρ σ (exec (.Assign [.Tuple elts k tpos] e pos) c.env) K := fun I s S => by
  refine Assign_Tuple (h.then S.rd (fun v s' I' p a _ r ⟨ps, hp, hl, q⟩ => ?_) fun _ _ x a b => ⟨x, S.exn a, b⟩) hs hw
  exact assign_names ht hx (S.post a) r hp hl fun s'' S'' => ⟨I', a.le, _, _, S'', q⟩
theorem Sx_swap {elts : List Expr} {xs : List Str} {k : Nat} {tpos pos : Pos} {e : Expr} (hx : ∀ x ∈ xs.reverse, Slot1 c σ x)
    (h : Ev c ρ (eval e c.env) (fun p => ∃ ps, (p = .tuple ps ∨ p = .list ps) ∧ xs.length = ps.length ∧ K.next (binds xs.reverse ps.reverse ρ) σ) K.exc)
    (hs : swapsWithSole [.Tuple elts k tpos] e pos.line c.env = pure false) (hw : swappedStores [.Tuple elts k tpos] e c.env = pure (some xs)) :
    Sx c F ρ σ (exec (.Assign [.Tuple elts k tpos] e pos) c.env) K := fun I s S => by
  refine Assign_Tuple_swapped (names := xs) (h.then S.rd (fun v s' I' p a _ r ⟨ps, hp, hl, q⟩ => ?_) fun _ _ x a b => ⟨x, S.exn a, b⟩) hs hw
  have S' := S.post a
  refine unpackItems_seq hp hl S'.rd.ok.handled S'.rd.sub r fun vs h' tk rv hk => ?_
  exact names_bind hx (S'.post (Post.keeps (s' := { s' with heap := h', toks := tk }) S'.rd.sub hk rfl rfl)) rv.reverse (by simpa using hl) fun s'' S'' => ⟨I', a.le, _, _, S'', q⟩
end
end
section
open PySem PySem.W PySem.Calls PyProof.Rows
noncomputable def Cx.comp (c : Cx) (scope : Scope) (cl : List (Str × Addr)) (C : Addr) : Cx := { c with env := compEnvC scope cl C c.env }

structure CompSc (c : Cx) (scope : Scope) (cl : List (Str × Addr)) (xs : List Str) (ρ ρc : PEnv) : Prop where
  clos : closureFor scope c.env = pure cl
  noCell : ∀ y ∈ scope.names, y.2 ≠ .cell
  kind : scope.kind = .function
  names : ∀ y ∈ scope.names, y.2 = .local → scope.names.lookup y.1 = some .local
  loc : ∀ x ∈ xs, scope.names.lookup x = some .local
  free : ∀ y p, ρc.lookup y = some p → ρ.lookup y = some p ∧ y ∉ xs ∧ scope.names.lookup y = some .free ∧ (c.env.kindOf y = some .cell ∨ c.env.kindOf y = some .free) ∧ cl.lookup y = c.env.cells.lookup y

theorem lookup_relabel_free {env : Env} : ∀ {names : List (Str × NameKind)} {x : Str}, names.lookup x = some .free →
    (names.map fun (n, k) => if (k == NameKind.free && env.scope.kind == .function && env.kindOf n == some .cell) then (n, NameKind.cell) else (n, k)).lookup x = some .cell ∨
    (names.map fun (n, k) => if (k == NameKind.free && env.scope.kind == .function && env.kindOf n == some .cell) then (n, NameKind.cell) else (n, k)).lookup x = some .free
  | [], _, h => by simp at h
  | (n, k) :: r, x, h => by
    have ih := @lookup_relabel_free env r x
    show List.lookup x ((if (k == NameKind.free && env.scope.kind == .function && env.kindOf n == some .cell) = true then (n, NameKind.cell) else (n, k)) :: _) = _ ∨ List.lookup x ((if (k == NameKind.free && env.scope.kind == .function && env.kindOf n == some .cell) = true then (n, NameKind.cell) else (n, k)) :: _) = _
    cases hx : x == n with
    | true =>
      simp only [List.lookup_cons, hx] at h
      cases h
      by_cases hc : (NameKind.free == NameKind.free && env.scope.kind == .function && env.kindOf n == some .cell) = true
      · rw [if_pos hc]; simp [List.lookup_cons, hx]
      · rw [if_neg hc]; simp [List.lookup_cons, hx]
    | false =>
      simp only [List.lookup_cons, hx] at h
      by_cases hc : (k == NameKind.free && env.scope.kind == .function && env.kindOf n == some .cell) = true
      · rw [if_pos hc]; simp only [List.lookup_cons, hx]; exact ih h
      · rw [if_neg hc]; simp only [List.lookup_cons, hx]; exact ih h

theorem CompSc.kindLoc {c : Cx} {scope : Scope} {cl : List (Str × Addr)} {xs : List Str} {ρ ρc : PEnv} (S : CompSc c scope cl xs ρ ρc) {C : Addr} {x : Str} (h : x ∈ xs) : (c.comp scope cl C).env.kindOf x = some .local :=
  lookup_relabel_local (S.loc x h)

theorem CompSc.rd {c : Cx} {scope : Scope} {cl : List (Str × Addr)} {xs : List Str} {ρ ρc ρx : PEnv} (S : CompSc c scope cl xs ρ ρc) {C : Addr} {I : Im} {s : Shared} (r : Rd c ρ I s) {m : Str → Option Value} (hn : s.heap.Ns C m)
    (hx : ∀ x p, ρx.lookup x = some p → x ∈ xs ∧ ∃ v, m x = some v ∧ Rep I v p) : Rd (c.comp scope cl C) (ρx ++ ρc) I s where
  ok := ⟨r.ok.frames, r.ok.depth, r.ok.units, r.ok.handled, S.kind, r.ok.globals, r.ok.builtins, r.ok.guards⟩
  base := r.base
  sub := r.sub
  stack := r.stack
  vars := fun x p e => by
    have key : ρx.lookup x = some p ∨ (ρx.lookup x = none ∧ ρc.lookup x = some p) := by
      clear hx
      induction ρx with
      | nil => exact .inr ⟨rfl, e⟩
      | cons y ys ih =>
        obtain ⟨n, q⟩ := y
        rw [List.cons_append, List.lookup_cons] at e
        rw [List.lookup_cons]
        cases z : x == n with
        | true => rw [z] at e; exact .inl e
        | false => rw [z] at e; exact ih e
    rcases key with e | ⟨_, e⟩
    · obtain ⟨h1, v, h2, h3⟩ := hx x p e
      exact ⟨v, .inl ⟨S.kindLoc h1, m, hn, h2⟩, h3⟩
    · obtain ⟨h1, _, h2, h3, h4⟩ := S.free x p e
      obtain ⟨v, hv, hr⟩ := r.vars x p h1
      refine ⟨v, .inr ⟨?_, ?_⟩, hr⟩
      · exact lookup_relabel_free h2
      · rcases hv with ⟨hk, _⟩ | ⟨_, cc, hc, hcell⟩
        · rcases h3 with h3 | h3 <;> (rw [h3] at hk; cases hk)
        · exact ⟨cc, by show cl.lookup x = some cc; rw [h4]; exact hc, hcell⟩


noncomputable def Binds1 (target : Expr) (xs : List Str) (p : PV) (ρx : PEnv) : Prop :=
  (∃ x pos, target = .Name x pos ∧ xs = [x] ∧ ρx = [(x, p)]) ∨ (∃ elts k pos ps, target = .Tuple elts k pos ∧ tgt elts xs ∧ xs.Nodup ∧ p = .tuple ps ∧ xs.length = ps.length ∧ ρx = xs.zip ps)

theorem comp_stores {c : Cx} {scope : Scope} {cl : List (Str × Addr)} {xs₀ : List Str} {ρ ρc : PEnv} (S : CompSc c scope cl xs₀ ρ ρc) {C : Addr} {I : Im} {E : Value → Shared → Prop} : ∀ {xs : List Str} {elts : List Expr} {vs : List Value} {ps : List PV} {s : Shared} {m : Str → Option Value} {Q : Unit → Shared → Prop},
    tgt elts xs → (∀ x ∈ xs, x ∈ xs₀) → xs.Nodup → RepAll I vs ps → xs.length = ps.length → s.heap.Ns C m →
    (∀ h' tk m', h'.Ns C m' → (∀ y, y ∉ xs → m' y = m y) → (∀ x p, (xs.zip ps).lookup x = some p → x ∈ xs ∧ ∃ v, m' x = some v ∧ Rep I v p) → (∀ b o, b ≠ C → s.heap.get? b = some o → h'.get? b = some o) → Q () { s with heap := h', toks := tk }) →
    wpAny c.M c.A (assignInOrder ((assignEach elts (c.comp scope cl C).env).map (·.2)) vs) Q E s := by
  intro xs
  induction xs with
  | nil =>
    intro elts vs ps s m Q ht _ _ r hl hn k
    cases ps with
    | nil =>
      obtain rfl := ht.nil
      exact assignInOrder_nil (k s.heap s.toks m hn (fun _ _ => rfl) (fun _ _ e => nomatch e) fun _ _ _ e => e)
    | cons p ps => cases hl
  | cons y ys ih =>
    intro elts vs ps s m Q ht hx hnd r hl hn k
    cases ps with
    | nil => cases hl
    | cons p ps =>
      refine RepAll.eC r fun r rs => ?_
      obtain ⟨pos, es, rfl, ht2⟩ := ht.cons
      rw [List.nodup_cons] at hnd
      refine assignInOrder_cons (PyProof.Rows.assign_Name (wpAny_storeName_local (env := (c.comp scope cl C).env) (S.kindLoc (hx y (.head _))) hn (fun h' hn' hsb => ?_) (by show (scope.kind == .class || (scope.kind == .module && _)) = false; rw [S.kind]; rfl)))
      refine ih (s := { s with heap := h', toks := s.toks + 1 }) ht2 (fun z hz => hx z (.tail _ hz)) hnd.2 rs (Nat.succ.inj hl) hn' fun h'' tk m' hn'' ho hb hk => ?_
      refine k h'' tk m' hn'' (fun w hy => ?_) (fun z q e => ?_) fun b o hb e => hk b o hb ((hsb.2 b hb).trans e)
      · rw [ho w fun q => hy (.tail _ q)]; exact if_neg fun (q : w = y) => hy (q ▸ .head _)
      · rw [List.zip_cons_cons, List.lookup_cons] at e
        by_cases w : z = y
        · subst w
          rw [beq_self_eq_true] at e; cases e
          exact ⟨.head _, _, (ho z hnd.1).trans (if_pos rfl), r⟩
        · rw [beq_eq_false_iff_ne.mpr w] at e
          obtain ⟨h1, h2⟩ := hb z q e
          exact ⟨.tail _ h1, h2⟩

theorem comp_assign {c : Cx} {scope : Scope} {cl : List (Str × Addr)} {xs : List Str} {ρ ρc : PEnv} (S : CompSc c scope cl xs ρ ρc) {C : Addr} {I : Im} {E : Value → Shared → Prop} {target : Expr} {v : Value} {p : PV} {ρx : PEnv} {s : Shared} {m : Str → Option Value} {Q : Unit → Shared → Prop}
    (hb : Binds1 target xs p ρx) (hh : c.A.handled = none) (hs : Sub I s.heap) (r : Rep I v p) (hn : s.heap.Ns C m)
    (k : ∀ h' tk m', h'.Ns C m' → (∀ x p, ρx.lookup x = some p → x ∈ xs ∧ ∃ v, m' x = some v ∧ Rep I v p) → (∀ b o, b ≠ C → s.heap.get? b = some o → h'.get? b = some o) → Q () { s with heap := h', toks := tk }) :
    wpAny c.M c.A (assign target (c.comp scope cl C).env v) Q E s := by
  rcases hb with ⟨x, pos, rfl, rfl, rfl⟩ | ⟨elts, kk, pos, ps, rfl, ht, hnd, rfl, hl, rfl⟩
  · refine PyProof.Rows.assign_Name (wpAny_storeName_local (env := (c.comp scope cl C).env) (S.kindLoc (.head _)) hn (fun h' hn' hsb => ?_) (by show (scope.kind == .class || (scope.kind == .module && _)) = false; rw [S.kind]; rfl))
    refine k h' (s.toks + 1) _ hn' (fun y q e => ?_) fun b o hb e => (hsb.2 b hb).trans e
    rw [List.lookup_cons] at e
    by_cases w : y = x
    · subst w; rw [beq_self_eq_true] at e; cases e; exact ⟨.head _, v, if_pos rfl, r⟩
    · rw [beq_eq_false_iff_ne.mpr w] at e; cases e
  · rw [PyProof.Rows.assign_Tuple]
    refine wpAny_bind (wpAny_standAt ?_)
    unfold unpack
    obtain ⟨h1, h2⟩ := tgt_length (c := c.comp scope cl C) ht
    rw [h1, h2]
    refine wpAny_bind (wpAny_holding (unpackItems_seq (c := c) (.inl rfl) hl hh hs r fun vs h' tk rv hk => ?_))
    refine comp_stores S (s := { s with heap := h', toks := tk }) ht (fun _ h => h) hnd rv hl (hn.at' fun o e => hk _ o e) fun h'' tk' m' hn'' _ hb hk' => ?_
    exact k h'' tk' m' hn'' hb fun b o hb e => hk' b o hb (hk b o e)
end
section
open PySem PySem.W PySem.Calls PyProof.Rows
theorem Post.off {l : List Env} {I I' : Im} {s s' s'' : Shared} (p : Post l I s I' s') {a : Addr} (hI : I' a = none) (h0 : s.heap.get? a = none) (k : ∀ b o, b ≠ a → s'.heap.get? b = some o → s''.heap.get? b = some o)
    (hg : s''.gens = s'.gens) (ho : s''.os = s'.os) : Post l I s I' s'' where
  le := p.le
  sub := fun b o e => k b o (fun z => by rw [z, hI] at e; cases e) (p.sub b o e)
  fresh := p.fresh
  kept := fun b o e => by
    have hb : b ≠ a := fun z => by rw [z, h0] at e; cases e
    obtain ⟨sl, h1⟩ := (p.kept b o e).1
    exact ⟨⟨sl, k b _ hb h1⟩, fun hn => k b o hb ((p.kept b o e).2 hn)⟩
  gens := hg.trans p.gens
  os := ho.trans p.os

theorem Stack.none {l : List Env} {I : Im} {h : Heap} (x : Stack l I h) {a : Addr} (h0 : h.get? a = none) : a ∉ l.filterMap (·.frame) := fun hm => by
  obtain ⟨env, he, hf⟩ := List.mem_filterMap.mp hm
  obtain ⟨_, L, o, hf', _, ho, _⟩ := x env he
  rw [hf] at hf'; cases hf'
  rw [h0] at ho; cases ho

theorem letOwned_quiet {M : Model} {A : Around} {E : Value → Shared → Prop} {s : Shared} {target : Expr} {it : Addr} {v : Value} {o : Obj} {Q : Unit → Shared → Prop} (ho : s.heap.get? it = some o) (hq : Quiet o) (h : Q () s) :
    wpAny M A (letOwnedTupleGo target (.ref it) v) Q E s := by
  obtain ⟨n, vs, hc, hd, hn⟩ := hq
  have key : ∀ a, wpAny M A (letOwnedTupleGo (.Tuple [] default default) (.ref it) (.ref a)) Q E s := fun a => by
    show wpAny M A (load it >>= _) Q E s
    refine wpAny_bind (wpAny_load ho ?_)
    rw [hc, hd]
    dsimp only
    rw [hn]
    simp only [Bool.false_and, Bool.false_eq_true, if_false]
    exact wpAny_pure h
  cases target with
  | Tuple x y z =>
    cases v with
    | ref a => exact key a
    | _ => exact wpAny_pure h
  | List x y =>
    cases v with
    | ref a => exact key a
    | _ => exact wpAny_pure h
  | _ => exact wpAny_pure h

theorem compLoop_any {prog : Program} {w : World} {A : Around} {R : Result → Shared → Prop} {s : Shared} {elt target iter : Expr} {ifs : List Expr} {scope : Scope} {pos : Pos} {it acc : Value} {env : Env} (I : Nat → Shared → Prop)
    (turn : ∀ n s, I n s → wpAny (model prog w) A (pyNext it) (fun r s₁ => match r with
      | none => R (.ok .next) s₁
      | some v => wpAny (model prog w) A (letOwnedTupleGo target it v) (fun _ s₁' => wpAny (model prog w) A (assign target env v) (fun _ s₂ =>
          wpAny (model prog w) A (forIn ifs true fun c r => if r = true then do let ok ← isTrue c env (eval c env); pure (ForInStep.yield ok) else pure (ForInStep.yield r)) (fun ok s₃ =>
            if ok = true then wpAny (model prog w) A (eval elt env) (fun x s₄ =>
              wpAny (model prog w) A (call (.builtin "list.append") [acc, x]) (fun _ s₅ => ∃ m, m < n ∧ I m s₅) (notedBy (model prog w) A env fun e s' => R (.error e) s') s₄) (notedBy (model prog w) A env fun e s' => R (.error e) s') s₃
            else ∃ m, m < n ∧ I m s₃) (notedBy (model prog w) A env fun e s' => R (.error e) s') s₂) (notedBy (model prog w) A env fun e s' => R (.error e) s') s₁') (notedBy (model prog w) A env fun e s' => R (.error e) s') s₁) (notedBy (model prog w) A env fun e s' => R (.error e) s') s)
    (n : Nat) (h : I n s) :
    codeAny (model prog w) A (.compLoop (.ListComp elt [⟨target, iter, ifs, 0⟩] scope pos) 0 it acc env) R s := by
  refine codeAny_loop rfl I (fun n s hI => ?_) n h
  show wpAny _ A ((compTurn (.ListComp elt [⟨target, iter, ifs, 0⟩] scope pos) 0 it acc env).onRaise (fun x => do noteFrame x env; theTreesLotGoes x)) _ _ s
  refine wpAny_noted ?_
  rw [compTurn_list]
  refine wpAny_bind (wpAny_standAt (wpAny_bind (wpAny_mono (turn n s hI) (fun r s₁ h₁ => ?_) fun _ _ h' => h')))
  cases r with
  | none => exact wpAny_pure h₁
  | some v =>
    refine wpAny_bind (wpAny_mono h₁ (fun _ s₁' h₁' => ?_) fun _ _ h' => h')
    refine wpAny_bind (wpAny_mono h₁' (fun _ s₂ h₂ => wpAny_bind (wpAny_mono h₂ (fun ok s₃ h₃ => ?_) fun _ _ h' => h')) fun _ _ h' => h')
    cases ok with
    | false => exact wpAny_pure ⟨rfl, h₃⟩
    | true =>
      exact wpAny_bind (wpAny_bind (wpAny_mono h₃ (fun x s₄ h₄ => wpAny_bind (wpAny_mono h₄ (fun _ s₅ h₅ => wpAny_pure (wpAny_pure ⟨rfl, h₅⟩)) fun _ _ h' => h')) fun _ _ h' => h'))

noncomputable def CompCase (c : Cx) (ρ : PEnv) (elt : Expr) (f : Option PV) : List Expr → Prop
  | [] => ∃ q, f = some q ∧ Ev c ρ (eval elt c.env) (fun r => r = q) fun _ => False
  | [t] => Tr c ρ (isTrue t c.env (eval t c.env)) (fun b => b = f.isSome) (fun _ => False) ∧ ∀ q, f = some q → Ev c ρ (eval elt c.env) (fun r => r = q) fun _ => False
  | _ => False
noncomputable def CompItem (c : Cx) (scope : Scope) (cl : List (Str × Addr)) (xs : List Str) (ρc : PEnv) (target elt : Expr) (ifs : List Expr) (f : PV → Option PV) (p : PV) : Prop :=
  ∃ ρx, Binds1 target xs p ρx ∧ ∀ C, CompCase (c.comp scope cl C) (ρx ++ ρc) elt (f p) ifs

theorem CompItem.tests {c : Cx} {scope : Scope} {cl : List (Str × Addr)} {ρc : PEnv} {elt : Expr} {ifs : List Expr} {f : PV → Option PV} {p : PV} {ρx : PEnv} {C : Addr} {I : Im} {s : Shared} {E : Value → Shared → Prop} {Q : Bool → Shared → Prop}
    (h : CompCase (c.comp scope cl C) (ρx ++ ρc) elt (f p) ifs) (r : Rd (c.comp scope cl C) (ρx ++ ρc) I s)
    (k : ∀ s' I', Post c.l I s I' s' → Rd (c.comp scope cl C) (ρx ++ ρc) I' s' → (∀ q, f p = some q → Ev (c.comp scope cl C) (ρx ++ ρc) (eval elt (c.comp scope cl C).env) (fun r => r = q) fun _ => False) → Q (f p).isSome s') :
    wpAny c.M c.A (forIn ifs true fun t r => if r = true then do let ok ← isTrue t (c.comp scope cl C).env (eval t (c.comp scope cl C).env); pure (ForInStep.yield ok) else pure (ForInStep.yield r)) Q E s := by
  match ifs, h with
  | [], ⟨q, hq, he⟩ =>
    refine wpAny_tests_nil ?_
    have := k s I (Post.refl r.sub) r fun q' hq' => by rw [hq] at hq'; cases hq'; exact he
    rw [hq] at this; exact this
  | [t], ⟨h1, h2⟩ =>
    refine wpAny_tests_one (h1.then r (fun b s' I' a r' hb => ?_) fun _ _ _ _ z => z.elim)
    subst hb
    exact k s' I' a r' h2

section
variable {c : Cx} {ρ ρc : PEnv} {Q : PV → Prop} {X : PX → Prop} {scope : Scope} {cl : List (Str × Addr)} {xs : List Str} {elt target iter : Expr} {ifs : List Expr} {pos : Pos} {f : PV → Option PV} {items : List PV}

structure Mid (c : Cx) (I₁ : Im) (s₁ : Shared) (it C D : Addr) (T : Nat → Heap → Prop) (i : Nat) (ys : Array Value) (m' : Str → Option Value) (I' : Im) (s' : Shared) : Prop where
  p : Post c.l I₁ s₁ I' s'
  ni : I' it = none
  nC : I' C = none
  nD : I' D = none
  t : T i s'.heap
  ns : s'.heap.Ns C m'
  pl : s'.heap.PlainList D ys
structure MidG (c : Cx) (ρ : PEnv) (I₁ : Im) (s₁ : Shared) (it C D : Addr) (T : Nat → Heap → Prop) : Prop where
  r₁ : Rd c ρ I₁ s₁
  W : Wk c it I₁ items T
  hDC : D ≠ C
  hitD : it ≠ D
  hitC : it ≠ C
  it0 : s₁.heap.get? it = none
  D0 : s₁.heap.get? D = none
  C0 : s₁.heap.get? C = none
variable {I₁ I' I'' : Im} {s₁ s' s'' : Shared} {it C D : Addr} {T : Nat → Heap → Prop} {i : Nat} {ys : Array Value} {m' : Str → Option Value}
theorem Mid.post (M : Mid c I₁ s₁ it C D T i ys m' I' s') (G : MidG (items := items) c ρ I₁ s₁ it C D T) (a : Post c.l I' s' I'' s'') : Mid c I₁ s₁ it C D T i ys m' I'' s'' := by
  obtain ⟨o, ho, _, _⟩ := G.W.obj _ _ M.t
  obtain ⟨oC, _, _, hoC, _, _⟩ := id M.ns
  obtain ⟨nD, hoD⟩ := id M.pl
  exact ⟨M.p.trans a, a.none_of M.ni ho, a.none_of M.nC hoC, a.none_of M.nD hoD, G.W.frame _ _ _ M.t fun o e => (a.kept _ o e).2 (G.r₁.stack.none G.it0),
    M.ns.at' fun o e => (a.kept _ o e).2 (G.r₁.stack.none G.C0), M.pl.at fun o e => (a.kept _ o e).2 (G.r₁.stack.none G.D0)⟩
inductive CompInv (c : Cx) (I₁ : Im) (s₁ : Shared) (it C D : Addr) (T : Nat → Heap → Prop) (items : List PV) (f : PV → Option PV) (k : Nat) (s' : Shared) : Prop
  | mk (i : Nat) (I' : Im) (ys : Array Value) (m' : Str → Option Value) (hk : k = items.length + 1 - i) (hi : i ≤ items.length) (M : Mid c I₁ s₁ it C D T i ys m' I' s') (hys : RepAll I' ys.toList ((items.take i).filterMap f))
theorem take_next {items : List PV} {p : PV} (f : PV → Option PV) (hp : items[i]? = some p) : (items.take (i + 1)).filterMap f = (items.take i).filterMap f ++ (match f p with | some y => [y] | none => []) := by
  rw [List.take_add_one, hp, List.filterMap_append]
  cases hf' : f p <;> simp [Option.toList, hf']
theorem take_room {l : List Value} {items : List PV} {f : PV → Option PV} {J : Im} (hys : RepAll J l ((items.take i).filterMap f)) (hz : items.length ≤ 2 ^ 20) : l.length ≤ sizeLine := by
  rw [hys.length, sizeLine_eq]
  exact Nat.le_trans (Nat.le_trans (List.length_filterMap_le _ _) (List.length_take_le' _ _)) (Nat.le_trans hz (by decide))
theorem Mid.push (M : Mid c I₁ s₁ it C D T i ys m' I' s') (G : MidG (items := items) c ρ I₁ s₁ it C D T) {y : Value} (hz : ys.size ≤ sizeLine) {E : Value → Shared → Prop} {Q : Value → Shared → Prop}
    (k : ∀ v s'', Mid c I₁ s₁ it C D T i (ys.push y) m' I' s'' → Q v s'') : wpAny c.M c.A (call (.builtin "list.append") [.ref D, y]) Q E s' := by
  refine wpAny_list_append_plain (hsz := hz) M.pl fun h₆ hD₆ hs₆ => k _ _ ⟨M.p.off M.nD G.D0 (fun b o hb e => (hs₆.2 b hb).trans e) rfl rfl, M.ni, M.nC, M.nD, G.W.frame _ _ _ M.t fun o e => (hs₆.2 _ G.hitD).trans e, M.ns.at' fun o e => (hs₆.2 _ (Ne.symm G.hDC)).trans e, hD₆⟩
theorem Mid.turn (S : CompSc c scope cl xs ρ ρc) (M : Mid c I₁ s₁ it C D T i ys m' I' s') (G : MidG (items := items) c ρ I₁ s₁ it C D T) (hlt : i < items.length) {N : Option Value → Shared → Prop} {B : Bool → Shared → Prop} {E : Value → Shared → Prop}
    (hi : ∀ p ∈ items, CompItem c scope cl xs ρc target elt ifs f p)
    (hN : ∀ v s₁, wpAny c.M c.A (letOwnedTupleGo target (.ref it) v) (fun _ s₁' => wpAny c.M c.A (assign target (c.comp scope cl C).env v) (fun _ s₂ =>
          wpAny c.M c.A (forIn ifs true fun t r => if r = true then do let ok ← isTrue t (c.comp scope cl C).env (eval t (c.comp scope cl C).env); pure (ForInStep.yield ok) else pure (ForInStep.yield r)) B E s₂) E s₁') E s₁ → N (some v) s₁)
    (key : ∀ p ρx s₄ I₄ m₃, items[i]? = some p → Le I' I₄ → Mid c I₁ s₁ it C D T (i + 1) ys m₃ I₄ s₄ → Rd (c.comp scope cl C) (ρx ++ ρc) I₄ s₄ → (∀ q, f p = some q → Ev (c.comp scope cl C) (ρx ++ ρc) (eval elt (c.comp scope cl C).env) (fun r => r = q) fun _ => False) → B (f p).isSome s₄) :
    wpAny c.M c.A (pyNext (.ref it)) N E s' := by
  refine G.W.item i s' _ _ hlt M.t (Sub.of_le M.p.le M.p.sub) fun v h₂ tk₂ p hp hrp hT₂ hk₂ => hN _ _ ?_
  have P₂ : Post c.l I₁ s₁ I' { s' with heap := h₂, toks := tk₂ } := M.p.off M.ni G.it0 hk₂ rfl rfl
  obtain ⟨o₂, ho₂, _, hq₂⟩ := G.W.obj _ _ hT₂
  refine letOwned_quiet ho₂ hq₂ ?_
  obtain ⟨ρx, hbx, hcase⟩ := hi p (List.mem_of_getElem? hp)
  refine comp_assign S (s := { s' with heap := h₂, toks := tk₂ }) hbx G.r₁.ok.handled P₂.sub (hrp.mono M.p.le) (M.ns.at' fun o e => hk₂ _ o (Ne.symm G.hitC) e) fun h₃ tk₃ m₃ hn₃ hx₃ hk₃ => ?_
  have P₃ : Post c.l I₁ s₁ I' { s' with heap := h₃, toks := tk₃ } := P₂.off M.nC G.C0 hk₃ rfl rfl
  have M₃ : Mid c I₁ s₁ it C D T (i + 1) ys m₃ I' { s' with heap := h₃, toks := tk₃ } := ⟨P₃, M.ni, M.nC, M.nD, G.W.frame _ _ _ hT₂ fun o e => hk₃ _ o G.hitC e, hn₃, M.pl.at fun o e => hk₃ _ o G.hDC (hk₂ _ o (Ne.symm G.hitD) e)⟩
  exact CompItem.tests (hcase C) (S.rd (C := C) (G.r₁.post P₃) hn₃ hx₃) fun s₄ I₄ a₄ R₄ helt => key p ρx s₄ I₄ m₃ hp a₄.le (M₃.post G a₄) R₄ helt
theorem comp_loop (S : CompSc c scope cl xs ρ ρc) (G : MidG (items := items) c ρ I₁ s₁ it C D T) (M : Mid c I₁ s₁ it C D T 0 #[] m' I₁ s') (hz : items.length ≤ 2 ^ 20) (hi : ∀ p ∈ items, CompItem c scope cl xs ρc target elt ifs f p) {R : Result → Shared → Prop}
    (hR : ∀ s' I' ys m', Mid c I₁ s₁ it C D (fun _ _ => True) items.length ys m' I' s' → RepAll I' ys.toList (items.filterMap f) → R (.ok .next) s') :
    codeAny c.M c.A (.compLoop (.ListComp elt [⟨target, iter, ifs, 0⟩] scope pos) 0 (.ref it) (.ref D) (c.comp scope cl C).env) R s' := by
  refine compLoop_any (CompInv c I₁ s₁ it C D T items f) (fun k s' hi' => ?_) (items.length + 1) ⟨0, I₁, #[], _, rfl, Nat.zero_le _, M, .nil⟩
  obtain ⟨i, I', ys, m', rfl, hi', M, hys⟩ := hi'
  rcases Nat.lt_or_eq_of_le hi' with hlt | rfl
  · refine M.turn S G hlt hi (fun v s z => z) fun p ρx s₄ I₄ m₃ hp le₄ M₄ R₄ helt => ?_
    cases hfp : f p with
    | none =>
      refine ⟨_, less_turn hlt, i + 1, I₄, ys, m₃, rfl, hlt, M₄, ?_⟩
      rw [take_next f hp, hfp, List.append_nil]; exact hys.mono le₄
    | some q =>
      refine (helt q hfp).then R₄ (fun y s₅ I₅ q' a₅ R₅ rq hq => ?_) fun _ _ _ _ z => z.elim
      subst hq
      refine (M₄.post G a₅).push G (take_room hys hz) fun v s₆ M₆ => ⟨_, less_turn hlt, i + 1, I₅, ys.push y, m₃, rfl, hlt, M₆, ?_⟩
      rw [take_next f hp, hfp, Array.toList_push]
      exact (hys.mono (le₄.trans a₅.le)).append (.cons rq .nil)
  · refine G.W.done s' _ _ M.t (Sub.of_le M.p.le M.p.sub) fun h₂ tk₂ hk₂ => ?_
    rw [List.take_length] at hys
    exact hR _ I' ys m' ⟨M.p.off M.ni G.it0 hk₂ rfl rfl, M.ni, M.nC, M.nD, trivial, M.ns.at' fun o e => hk₂ _ o (Ne.symm G.hitC) e, M.pl.at fun o e => hk₂ _ o (Ne.symm G.hitD) e⟩ hys

theorem comp_block (S : CompSc c scope cl xs ρ ρc) {I₁ : Im} {s₁ s₂ : Shared} {it : Addr} {T : Nat → Heap → Prop} (r₁ : Rd c ρ I₁ s₁) (W : Wk c it I₁ items T) (hT : T 0 s₂.heap) (hit : it = s₁.heap.objs.size) (hk : ∀ b o, s₁.heap.get? b = some o → s₂.heap.get? b = some o)
    (hg : s₂.gens = s₁.gens) (ho : s₂.os = s₁.os) (hz : items.length ≤ 2 ^ 20) (hi : ∀ p ∈ items, CompItem c scope cl xs ρc target elt ifs f p)
    {E : Value → Shared → Prop} {RR : Value → Addr → Result → Shared → Prop}
    (hRR : ∀ D C s' I' ys m', Post c.l I₁ s₁ I' s' → I' D = none → s₁.heap.get? D = none → s₁.heap.get? C = none → I' C = none → C ≠ D → s'.heap.Ns C m' → s'.heap.PlainList D ys → RepAll I' ys.toList (items.filterMap f) → RR (.ref D) C (.ok .next) s') :
    wpAny c.M c.A (newList []) (fun acc s₃ => wpAny c.M c.A (newFunctionEnv scope c.env.globals cl [] c.env.qual none .none (some c.env)) (fun cenv s₄ =>
      codeAny c.M c.A (.compStart (.ListComp elt [⟨target, iter, ifs, 0⟩] scope pos) 0 (.ref it) acc { cenv with scope := relabel scope c.env }) (RR acc cenv.locals) s₄) E s₃) E s₂ := by
  refine wpAny_newObj_type (wpAny_newFunctionEnv S.noCell (by intro y hy; simp at hy) (fun h₁ hns₁ hsb₁ => ?_) S.kind)
  dsimp only at hns₁ hsb₁ ⊢
  generalize hD : s₂.heap.objs.size = D at hns₁ hsb₁ ⊢
  generalize hH2 : s₂.heap.push { cls := .type "list", dict := none, data := .seq ([] : List Value).toArray } = H2 at hns₁ hsb₁ ⊢
  generalize hCC : H2.objs.size = C at hns₁ hsb₁ ⊢
  have hC : C = D + 1 := by rw [← hCC, ← hH2, Heap.size_push, hD]
  have itlt : it < D := by obtain ⟨o, ho, _⟩ := W.obj 0 _ hT; rw [← hD]; exact Heap.lt_size ho
  have sle : s₁.heap.objs.size < D := hit ▸ itlt
  have none₁ : ∀ a, s₁.heap.objs.size ≤ a → s₁.heap.get? a = none := fun a ha => by
    cases e : s₁.heap.get? a with
    | none => rfl
    | some o' => exact absurd (Heap.lt_size e) (Nat.not_lt.mpr ha)
  have none₂ : ∀ a, D ≤ a → s₂.heap.get? a = none := fun a ha => by
    cases e : s₂.heap.get? a with
    | none => rfl
    | some o' => have := Heap.lt_size e; rw [hD] at this; exact absurd this (Nat.not_lt.mpr ha)
  have it0 := none₁ it (by rw [hit]; exact Nat.le_refl _)
  have D0 := none₁ D (Nat.le_of_lt sle)
  have C0 := none₁ C (by rw [hC]; exact Nat.le_succ_of_le (Nat.le_of_lt sle))
  have hDC : D ≠ C := by rw [hC]; exact Nat.ne_of_lt (Nat.lt_succ_self _)
  have hitD : it ≠ D := Nat.ne_of_lt itlt
  have hitC : it ≠ C := by rw [hC]; exact Nat.ne_of_lt (Nat.lt_succ_of_lt itlt)
  have noneI : ∀ a, s₁.heap.get? a = none → I₁ a = none := fun a ha => by
    cases e : I₁ a with
    | none => rfl
    | some o' => have := r₁.sub _ _ e; rw [ha] at this; cases this
  have old : ∀ b o, s₂.heap.get? b = some o → h₁.get? b = some o := fun b o e => by
    have hb := Heap.lt_size e
    rw [hD] at hb
    refine hsb₁.extBut b o (by rw [hC]; exact Nat.ne_of_lt (Nat.lt_succ_of_lt hb)) (Heap.get?_push_of_some _ ?_)
    rw [← hH2]; exact Heap.get?_push_of_some _ e
  have hacc : h₁.PlainList D #[] := ⟨0, hsb₁.extBut _ _ hDC (Heap.get?_push_of_some _ (by rw [← hH2, ← hD]; exact Heap.get?_push_size _ rfl))⟩
  have M : Mid c I₁ s₁ it C D T 0 #[] _ I₁ { s₂ with heap := h₁, toks := s₂.toks + ([] : List (Str × Value)).length } :=
    ⟨Post.keeps r₁.sub (fun b o e => old b o (hk b o e)) hg ho, noneI _ it0, noneI _ C0, noneI _ D0, W.frame _ _ _ hT fun o e => old _ o e, hns₁, hacc⟩
  have key := comp_loop (elt := elt) (iter := iter) (pos := pos) (target := target) (ifs := ifs) S ⟨r₁, W, hDC, hitD, hitC, it0, D0, C0⟩ M hz hi (R := RR (.ref D) C) fun s' I' ys m' M' hys => hRR D C _ I' ys m' M'.p M'.nD D0 C0 M'.nC (Ne.symm hDC) M'.ns M'.pl hys
  refine codeAny_compStart_list key ?_
  exact W.self 0 _ _ _ M.t key

theorem Ev_comp (hcs : ∀ I s, Rd c ρ I s → ∃ cl, CompSc c scope cl xs ρ ρc)
    (h : Ev c ρ (eval iter c.env) (fun p => ∃ items f, Iters c p items ∧ items.length ≤ 2 ^ 20 ∧ (∀ cl, CompSc c scope cl xs ρ ρc → ∀ p ∈ items, CompItem c scope cl xs ρc target elt ifs f p) ∧ Q (.list (items.filterMap f))) X)
    (hs : ∀ v, foldedSetIterable iter c.env v = pure v := by intro _; rfl) : Ev c ρ (eval (.ListComp elt [⟨target, iter, ifs, 0⟩] scope pos) c.env) Q X := fun I s r => by
  obtain ⟨cl, S⟩ := hcs I s r
  rw [eval_ListComp]
  refine wpAny_comprehension_free (use := none) rfl hs S.clos S.kind S.names (h.then r (fun v s₁ I₁ p a r₁ rv ⟨items, f, hit, hz, hi, q⟩ => ?_) fun _ _ x a b => ⟨x, a, b⟩)
  refine hit I₁ s₁ v _ _ r₁.ok.handled r₁.sub rv fun h' T W hT hk => ?_
  refine comp_block S (s₂ := { s₁ with heap := h' }) r₁ W hT rfl hk rfl rfl hz (hi cl S) ?_
  intro D C s' I' ys m' P hID hD hC hIC hCD hn hpl hys
  refine ⟨m', hn, fun h'' hsb => ?_⟩
  obtain ⟨nD, hoD⟩ := hpl
  have P₂ : Post c.l I₁ s₁ I' { s' with heap := h'' } := P.off hIC hC (fun b o hb e => (hsb.2 b hb).trans e) rfl rfl
  have hoD' : h''.get? D = some { cls := .type "list", data := .seq ys nD } := (hsb.2 D (Ne.symm hCD)).trans hoD
  have P₃ : Post c.l I₁ s₁ (I'.put D { cls := .type "list", data := .seq ys nD }) { s' with heap := h'' } :=
    ⟨P₂.le.trans (Im.le_put hID _), fun a o e => by
      by_cases z : a = D
      · subst z; rw [Im.put_self] at e; cases e; exact hoD'
      · rw [Im.put_ne _ _ z] at e; exact P₂.sub a o e, fun a o e => by
      by_cases z : a = D
      · subst z; exact .inr hD
      · rw [Im.put_ne _ _ z] at e; exact P₂.fresh a o e, P₂.kept, P₂.gens, P₂.os⟩
  refine ⟨_, _, a.trans P₃, .list (Im.put_self _ _ _) (vs := ys.toList) ⟨rfl, nD, by simp⟩ (hys.mono (Im.le_put hID _)), q⟩
end
end
section
open PySem PySem.W PySem.Calls PyProof.Rows
noncomputable def putF (name : Str) (p : PV) : List (Str × PV) → List (Str × PV)
  | [] => [(name, p)]
  | (n, q) :: r => if n = name then (n, p) :: r else (n, q) :: putF name p r

theorem RepFs.put {I : Im} {name : Str} {hsh : Int} {tk : Tok} {v : Value} {p : PV} (r : Rep I v p) {es : List DictEntry} {fs : List (Str × PV)} (h : RepFs I es fs) : RepFs I (putL name hsh (.str name tk) v es) (putF name p fs) :=
  RepFs.ind (motive := fun es fs => RepFs I (putL name hsh (.str name tk) v es) (putF name p fs)) h (.cons r .nil) fun {_ n t _ _ es fs} a b ih => by
    unfold putL putF
    by_cases z : n = name
    · subst z
      have e : (Value.str n t).isStr n = true := by simp [Value.isStr]
      simp only [e, if_true]
      exact .cons r b
    · have e : (Value.str n t).isStr name = false := by simp [Value.isStr]; exact z
      simp only [e, if_neg z, Bool.false_eq_true, if_false]
      exact .cons a ih
theorem RepFs.looks {I : Im} {name : Str} {es : List DictEntry} {fs : List (Str × PV)} (r : RepFs I es fs) : (getL name es).isSome = true ∧ es.any (·.refKey) = false :=
  RepFs.ind (motive := fun es _ => (getL name es).isSome = true ∧ es.any (·.refKey) = false) r ⟨rfl, rfl⟩ fun {hh n t v p es fs} a b ih => by
    obtain ⟨h1, h2⟩ := ih
    refine ⟨?_, by rw [List.any_cons, h2]; rfl⟩
    unfold getL
    rw [List.find?_cons]
    cases z : (Value.str n t).isStr name with
    | true => rfl
    | false =>
      have e2 : (⟨hh, .str n t, v⟩ :: es : List DictEntry).any (·.refKey) = false := by rw [List.any_cons, h2]; rfl
      dsimp only
      rw [e2]
      unfold getL at h1
      rw [h2] at h1
      exact h1
theorem RepFs.length {I : Im} {es : List DictEntry} {fs : List (Str × PV)} (r : RepFs I es fs) : es.length = fs.length :=
  RepFs.ind (motive := fun es fs => es.length = fs.length) r rfl fun _ _ ih => congrArg (· + 1) ih

structure SetA (K : Frag) (C : Addr) (name : Str) : Prop where
  set : findIn K (.ref C) "__setattr__" = some (some (.builtin "object.__setattr__"))
  over : plainOver K C = true
  taker : takerIn K C name = some none
  dict : (clsIn K C).any (·.hasDict) = true

section
variable {prog : Program} {w : World} {A : Around} {E : Value → Shared → Prop} {s : Shared} {K : Frag} {x C dx : Addr} {name : Str} {v : Value}
theorem setAttr_exact {Q : Unit → Shared → Prop} {es : List DictEntry} {n : Nat} (X : K.In s.heap) (hx : s.heap.get? x = some (instObj C dx)) (hd : s.heap.get? dx = some (dictOf es n)) (hS : SetA K C name) (hl : (getL name es).isSome = true) (hz : es.length ≤ 900)
    (h : ∀ h' tk hsh tkey n', h'.get? dx = some (dictOf (putL name hsh (.str name tkey) v es) n') → (∀ b, b ≠ dx → h'.get? b = s.heap.get? b) → Q () { s with heap := h', toks := tk }) :
    wpAny (model prog w) A (setAttr (.ref x) name v) Q E s := by
  obtain ⟨hh, g, dr, tt, os⟩ := s
  replace X : K.In hh := X
  replace hx : hh.get? x = some (instObj C dx) := hx
  replace hd : hh.get? dx = some (dictOf es n) := hd
  replace h : ∀ h' tk hsh tkey n', h'.get? dx = some (dictOf (putL name hsh (.str name tkey) v es) n') → (∀ b, b ≠ dx → h'.get? b = hh.get? b) → Q () ⟨h', g, dr, tk, os⟩ := h
  have I : InstAt hh x (instObj C dx) C (some (dictOf es n)) := ⟨hx, rfl, rfl, hd⟩
  refine set_plain (s := ⟨hh, g, dr, tt, os⟩) X I hS.set ?_
  refine osa_open (s := ⟨hh, g, dr, tt + 1, os⟩) X I hS.over hS.taker fun b => ?_
  obtain ⟨cd, hc, hd'⟩ := any_some hS.dict
  refine wpAny_bind (wpAny_pure (wpAny_bind (wpAny_bind (wpAny_loadPart hx (wpAny_bind ((looks_clsIn X hc).here ?_))))))
  rw [hd']
  refine wpAny_pure (a := some dx) (wpAny_bind (wpAny_pure (wpAny_bind ?_)))
  unfold nsSet
  refine wpAny_bind (wpAny_bind (wpAny_askSetting (wpAny_pure (wpAny_bind (wpAny_mkText (wpAny_bind (wpAny_loadPart hd ?_)))))))
  have hl' : (lookIn name (dictOf es n)).isSome = true := hl
  generalize hod : dictOf es n = od at hl' hd ⊢
  unfold lookIn at hl'
  split at hl'
  · rename_i es₀ n₀ q
    rw [q]
    dsimp only
    have c : (!es₀.any (·.key.isStr name) && es₀.any (·.refKey)) = false := by
      rw [← Array.any_toList, ← Array.any_toList]
      split at hl'
      · rename_i en he
        rw [List.any_eq_true.mpr ⟨en, List.mem_of_find?_eq_some he, List.find?_some he⟩]; rfl
      · split at hl'
        · cases hl'
        · rename_i z; rw [Bool.not_eq_true] at z; rw [z, Bool.and_false]
    rw [aRefKeyMayBeTheName_at, c]
    subst hod
    refine wpAny_updatePart hd ?_
    have e := putName_dict name (PyData.keyHash w.params name) (.str name (tt + 1)) v es n
    have D' := Heap.get?_update_self (Obj.putName name (PyData.keyHash w.params name) (.str name (tt + 1)) v) hd (by rw [e]; rfl)
    rw [e] at D'
    have hlen : (putL name (PyData.keyHash w.params name) (.str name (tt + 1)) v es).length ≤ es.length + 1 := by
      clear D' e c q hl' hd I hl h hz hd' b
      induction es with
      | nil => exact Nat.le_refl _
      | cons a r ih => unfold putL; split <;> simp <;> omega
    refine wpAny_bind (wpAny_lookBehind D' (pastItsLine_dict (by rw [List.size_toArray, sizeLine_eq]; omega)) ?_)
    refine wpAny_pure (h _ _ _ _ _ D' fun b hb => Heap.get?_update_other _ _ (Ne.symm hb))
  · cases hl'
end

section
variable {c : Cx} {F : Fm} {ρ : PEnv} {σ : Ow} {K : PK}

theorem St.dict (S : St c F ρ (some (x, a, .inst C fs)) I s) {d : Addr} {es es' : List DictEntry} {n n' tk : Nat} {fs' : List (Str × PV)} {h' : Heap} (ha : s.heap.get? a = some (instObj C d)) (hd : s.heap.get? d = some (dictOf es n)) (hm : Mine1 c F I d) (hda : d ≠ a)
    (hd' : h'.get? d = some (dictOf es' n')) (hk : ∀ b, b ≠ d → h'.get? b = s.heap.get? b) (hr : RepFs I es' fs') : St c F ρ (some (x, a, .inst C fs')) I { s with heap := h', toks := tk } := by
  have notD : ∀ b o, s.heap.get? b = some o → (∀ es n, o ≠ dictOf es n) → b ≠ d := fun b o e h q => by rw [q, hd] at e; cases e; exact h _ _ rfl
  have dL := hm.ne_locals S
  have hns : ∃ m, h'.Ns c.env.locals m := let ⟨m, hm⟩ := S.ns; ⟨m, hm.at' fun o e => (hk _ (Ne.symm dL)).trans e⟩
  have hcell : ∀ {b v}, s.heap.IsCell b v → h'.IsCell b v := fun ⟨o, ho, hdd⟩ => ⟨o, (hk _ (notD _ _ ho fun es n q => by rw [q] at hdd; cases hdd)).trans ho, hdd⟩
  have hold : ∀ {x v}, Holds s.heap c.env x v → Holds h' c.env x v := fun h => h.sameBut hk dL fun cc hc q => by
    obtain ⟨⟨v, o, ho, hdd⟩, _⟩ := S.cells _ cc hc
    exact notD _ _ ho (fun es n z => by rw [z] at hdd; cases hdd) q
  refine S.turn (a₀ := d) (s' := { s with heap := h', toks := tk }) hk hm.1 hm.2.1 ⟨_, hd', fun vs q => by cases q⟩ rfl rfl hns (fun y b e => let ⟨⟨v, hv⟩, _⟩ := S.cells y b e; ⟨v, hcell hv⟩) (fun y p e => let ⟨v, h1, h2⟩ := S.rd.vars y p e; ⟨v, hold h1, h2⟩) fun y b ow e => ?_
  cases e
  obtain ⟨h1, _, h3⟩ := S.owned x a _ rfl
  exact ⟨hold h1, ⟨d, es', n', (hk _ (Ne.symm hda)).trans ha, hd', hr, hm, hda⟩, h3⟩

theorem Sx_setattr {x name : Str} {a C : Addr} {fs : List (Str × PV)} {xp ap pos : Pos} {e : Expr} (hS : SetA c.W.K C name) (hz : fs.length ≤ 100) (h : Ev c ρ (eval e c.env) (fun p => K.next ρ (some (x, a, .inst C (putF name p fs)))) K.exc)
    (hs : swapsWith e (some (.Attribute (.Name x xp) name ap)) pos.line c.env = pure false := by rfl) (hd : (x == ("__debug__" : Str)) = false := by decide) (hn : (x == ("__classdict__" : Str)) = false := by decide) :
    Sx c F ρ (some (x, a, .inst C fs)) (exec (.Assign [.Attribute (.Name x xp) name ap] e pos) c.env) K := fun I s S => by
  refine plainObj_wpAny_Assign_Attribute (h.then S.rd (fun v s' I' p pp _ rv q => ?_) fun _ _ x a b => ⟨x, S.exn a, b⟩) hs
  have S' := S.post pp
  obtain ⟨hx, ⟨d, es, n, g1, g2, g3, g4, g5⟩, hm⟩ := S'.owned x a _ rfl
  have fin : wpAny c.M c.A (setAttr (.ref a) name v) (fun _ => QS c F I K .next) (ES c F K.exc) s' := by
    obtain ⟨l1, l2⟩ := RepFs.looks (name := name) g3
    have hlen := RepFs.length g3
    refine setAttr_exact S'.rd.inK g1 g2 hS l1 (by omega) fun h' tk hsh tkey n' e1 e2 => ?_
    refine ⟨I', pp.le, ρ, _, S'.dict g1 g2 g4 g5 e1 e2 (g3.put rv), q⟩
  refine wpAny_Name ?_ hd
  rcases hx with ⟨hk, m, hm, e⟩ | ⟨hk | hk, cl, hc, hcell⟩
  · exact wpAny_loadName_local S'.rd.ok.kind hk hm e fin
  · exact wpAny_loadName_cell S'.rd.ok.kind hk hc hcell fin
  · exact wpAny_loadName_free S'.rd.ok.kind hk hc hcell fin hn

theorem Im.put2_sub {I : Im} {h : Heap} {a : Addr} {o : Obj} (hs : Sub I h) (e : h.get? a = some o) : Sub (I.put a o) h := fun b o' q => by
  by_cases z : b = a
  · subst z; rw [Im.put_self] at q; cases q; exact e
  · rw [Im.put_ne _ _ z] at q; exact hs b o' q
theorem St.more (S : St c F ρ none I s) {a : Addr} {o : Obj} (e : s.heap.get? a = some o) (hm : Mine1 c F I a) (hmu : F.mu = []) (hnc : ∀ v, o.data ≠ .cell v) : St c F ρ none (I.put a o) s := by
  have hle := Im.le_put hm.1 o
  have h0 : F.h₀.get? a = none := by
    rcases hm.2.1 with z | z
    · exact z
    · rw [hmu] at z; cases z
  exact {
    rd := ⟨S.rd.ok, fun b o' q => hle _ _ (S.rd.base b o' q), Im.put2_sub S.rd.sub e, fun env he => by
      obtain ⟨hk, L, o', hf, hL, hL2, hd'⟩ := S.rd.stack env he
      refine ⟨hk, L, o', hf, (Im.put_ne I o (fun z => hm.2.2 ?_)).trans hL, hL2, hd'⟩
      rw [← z]; exact List.mem_filterMap.mpr ⟨env, he, hf⟩, fun x p q => let ⟨v, h1, h2⟩ := S.rd.vars x p q; ⟨v, h1, h2.mono hle⟩⟩
    hl := S.hl
    hf := S.hf
    kept := S.kept
    le₀ := S.le₀.trans hle
    fresh₀ := fun b o' q => by
      by_cases z : b = a
      · subst z; exact .inr h0
      · rw [Im.put_ne _ _ z] at q; exact S.fresh₀ b o' q
    gens := S.gens
    os := S.os
    ns := S.ns
    own := ⟨(Im.put_ne I o (Ne.symm (hm.ne_locals S))).trans S.own.1, S.own.2⟩
    cells := fun x b q => let ⟨⟨v, o', ho', hd'⟩, r1, r2⟩ := S.cells x b q
      ⟨⟨v, o', ho', hd'⟩, (Im.put_ne I o fun z => by rw [z, e] at ho'; cases ho'; exact hnc v hd').trans r1, r2⟩
    apart := S.apart
    owned := fun _ _ _ q => nomatch q }
theorem St.disown (S : St c F ρ σ I s) : St c F ρ none I s := { S with owned := fun _ _ _ q => nomatch q }
theorem St.know (S : St c F ρ σ I s) {x : Str} {v : Value} {p : PV} (h : Holds s.heap c.env x v) (r : Rep I v p) : St c F ((x, p) :: ρ) σ I s :=
  { S with rd := ⟨S.rd.ok, S.rd.base, S.rd.sub, S.rd.stack, fun y q e => by
      rw [List.lookup_cons] at e
      by_cases z : y = x
      · subst z; rw [beq_self_eq_true] at e; cases e; exact ⟨v, h, r⟩
      · rw [beq_eq_false_iff_ne.mpr z] at e; exact S.rd.vars y q e⟩ }
theorem Mine1.put (m : Mine1 c F I a) {b : Addr} {o : Obj} (h : a ≠ b) : Mine1 c F (I.put b o) a := ⟨(Im.put_ne I o h).trans m.1, m.2⟩

theorem Sx_freeze {x : Str} {a : Addr} {ow : Own} {t : Sem Flow} (hmu : F.mu = []) (h : Sx c F ((x, match ow with | .list l => .list l | .inst C fs => .inst C fs | .dict _ => .any) :: ρ) none t K) : Sx c F ρ (some (x, a, ow)) t K := fun I s S => by
  obtain ⟨h1, h2, h3⟩ := S.owned x a ow rfl
  cases ow with
  | dict k => exact h I s (S.disown.know h1 (.any _))
  | list l =>
    obtain ⟨o, vs, q1, ⟨q2, ⟨n, q3⟩, q4⟩, r⟩ := h2
    have S' := S.disown.more q1 h3 hmu (fun v z => by rw [q3] at z; cases z)
    refine wpAny_mono (h _ s (S'.know h1 (.list (Im.put_self _ _ _) ⟨q2, n, q3⟩ (r.mono (Im.le_put h3.1 _))))) (fun _ _ ⟨J, hle, z⟩ => ⟨J, (Im.le_put h3.1 _).trans hle, z⟩) fun _ _ z => z
  | inst C fs =>
    obtain ⟨d, es, n, q1, q2, r, m, z⟩ := h2
    have S' := S.disown.more q1 h3 hmu (fun v z => nomatch z)
    have m' : Mine1 c F (I.put a (instObj C d)) d := m.put z
    have S'' := S'.more q2 m' hmu (fun v z => nomatch z)
    have l1 := Im.le_put h3.1 (instObj C d)
    have l2 := Im.le_put m'.1 (dictOf es n)
    refine wpAny_mono (h _ s (S''.know h1 (.inst (l2 _ _ (Im.put_self _ _ _)) (Im.put_self _ _ _) ((r.mono l1).mono l2)))) (fun _ _ ⟨J, hle, z⟩ => ⟨J, (l1.trans l2).trans hle, z⟩) fun _ _ z => z
end
end
section
open PySem PySem.W PySem.Calls PyProof.Rows
section
variable {c : Cx} {F : Fm} {ρ : PEnv} {σ : Ow} {K : PK}

theorem St.storeOwn {x : Str} {D : Addr} {o : Obj} {ow : Own} {E : Value → Shared → Prop} {Q : Unit → Shared → Prop} (S : St c F ρ none I s) (ho : s.heap.get? D = some o) (h0 : F.h₀.get? D = none) (hI : I D = none) (hnc : ∀ v, o.data ≠ .cell v) (hfr : D ∉ c.l.filterMap (·.frame))
    (hx : Slot1 c none x) (how : ∀ h', h'.get? D = some o → (∀ b o', b ≠ c.env.locals → (∀ v, o'.data ≠ .cell v) → s.heap.get? b = some o' → h'.get? b = some o') → OwnAt c F I h' D ow)
    (h : ∀ s', St c F ((x, .func D) :: ρ) (some (x, D, ow)) I s' → Q () s') : wpAny c.M c.A (storeName c.env x (.ref D)) Q E s := by
  refine S.store (.func D) hx.1 hx.2 fun s' S' hk => h s' ?_
  obtain ⟨v, hv, hr⟩ := S'.rd.vars x (.func D) (by rw [List.lookup_cons, beq_self_eq_true])
  cases hr
  have hne : D ≠ c.env.locals := fun q => hfr (by rw [S.hl, List.filterMap_cons, S.hf, q]; exact .head _)
  have hD : s'.heap.get? D = some o := hk D o ho hne hnc
  exact { S' with owned := fun y a ow' e => (by cases e; exact ⟨hv, how _ hD (fun b o' h1 h2 h3 => hk b o' h3 h1 h2), hI, .inl h0, hfr⟩) }

theorem Sx_newlist {x : Str} {px pos lp : Pos} (hx : Slot1 c none x) (h : ∀ D, K.next ((x, .func D) :: ρ) (some (x, D, .list []))) (hs : swapsWith (.List [] lp) (some (.Name x px)) pos.line c.env = pure false := by rfl) :
    Sx c F ρ none (exec (.Assign [.Name x px] (.List [] lp) pos) c.env) K := fun I s S => by
  refine wpAny_Assign_Name (List_ (spliced_nil (wpAny_newList ?_ (by decide)))) hs
  have hk : ∀ b o, s.heap.get? b = some o → (s.heap.push { cls := .type "list", data := .seq ([] : List Value).toArray }).get? b = some o := fun b o e => Heap.get?_push_of_some _ e
  have S' : St c F ρ none I { s with heap := s.heap.push { cls := .type "list", data := .seq ([] : List Value).toArray } } := S.keeps hk rfl rfl
  refine S'.storeOwn (ow := .list []) (Heap.get?_push_size _ rfl) (S.kept.none (get?_size _)) S.rd.sub.none_new (fun v z => nomatch z) (S.rd.stack.none (get?_size _)) hx (fun h' e _ => ⟨_, [], e, ⟨rfl, ⟨0, rfl⟩, rfl, rfl⟩, .nil⟩) fun s' S'' => ⟨I, .refl _, _, _, S'', h _⟩

theorem Sx_newdict {x : Str} {px pos lp : Pos} (hx : Slot1 c none x) (h : ∀ D, K.next ((x, .func D) :: ρ) (some (x, D, .dict 0))) (hs : swapsWith (.Dict [] [] lp) (some (.Name x px)) pos.line c.env = pure false := by rfl) :
    Sx c F ρ none (exec (.Assign [.Name x px] (.Dict [] [] lp) pos) c.env) K := fun I s S => by
  refine wpAny_Assign_Name (wpAny_Dict_empty ?_) hs
  have hk : ∀ b o, s.heap.get? b = some o → (s.heap.push { cls := .type "dict", data := .dict #[] }).get? b = some o := fun b o e => Heap.get?_push_of_some _ e
  have S' : St c F ρ none I { s with heap := s.heap.push { cls := .type "dict", data := .dict #[] } } := S.keeps hk rfl rfl
  obtain ⟨o, ho, hd⟩ := Heap.dictOf_iff.mp (Heap.DictOf.new (knd := strKind c.W.prog c.W.w) s.heap)
  rw [Heap.get?_push_size _ rfl] at ho
  cases ho
  refine S'.storeOwn (ow := .dict 0) (Heap.get?_push_size _ rfl) (S.kept.none (get?_size _)) S.rd.sub.none_new (fun v z => nomatch z) (S.rd.stack.none (get?_size _)) hx (fun h' e _ => ⟨_, [], e, hd, Nat.le_refl _⟩) fun s' S'' => ⟨I, .refl _, _, _, S'', h _⟩

theorem St.change {x : Str} {a : Addr} {ow ow' : Own} (S : St c F ρ (some (x, a, ow)) I s) {o o' : Obj} {h' : Heap} {tk : Nat} (ha : s.heap.get? a = some o) (hm : Mine1 c F I a) (ha' : h'.get? a = some o') (hnf : ∀ vs, o'.data ≠ .fields vs) (hnc : ∀ v, o.data ≠ .cell v)
    (hk : ∀ b, b ≠ a → h'.get? b = s.heap.get? b) (how : OwnAt c F I h' a ow') : St c F ρ (some (x, a, ow')) I { s with heap := h', toks := tk } := by
  have aL := hm.ne_locals S
  have hns : ∃ m, h'.Ns c.env.locals m := let ⟨m, hm⟩ := S.ns; ⟨m, hm.at' fun o e => (hk _ (Ne.symm aL)).trans e⟩
  have hcell : ∀ {b v}, s.heap.IsCell b v → h'.IsCell b v := fun ⟨o1, ho, hdd⟩ => ⟨o1, (hk _ fun q => by rw [q, ha] at ho; cases ho; exact hnc _ hdd).trans ho, hdd⟩
  have hold : ∀ {x v}, Holds s.heap c.env x v → Holds h' c.env x v := fun h => h.sameBut hk aL fun cc hc q => by
    obtain ⟨⟨v, o1, ho, hdd⟩, _⟩ := S.cells _ cc hc
    rw [q, ha] at ho; cases ho; exact hnc _ hdd
  refine S.turn (a₀ := a) (s' := { s with heap := h', toks := tk }) hk hm.1 hm.2.1 ⟨_, ha', hnf⟩ rfl rfl hns (fun y b e => let ⟨⟨v, hv⟩, _⟩ := S.cells y b e; ⟨v, hcell hv⟩) (fun y p e => let ⟨v, h1, h2⟩ := S.rd.vars y p e; ⟨v, hold h1, h2⟩) fun y b ow1 e => ?_
  cases e
  obtain ⟨h1, _, h3⟩ := S.owned x a _ rfl
  exact ⟨hold h1, how, h3⟩

theorem own_name {x : Str} {a : Addr} {ow : Own} {xp : Pos} {R E : Value → Shared → Prop} (S : St c F ρ (some (x, a, ow)) I s) (fin : R (.ref a) s) (hd : (x == ("__debug__" : Str)) = false := by decide) (hn : (x == ("__classdict__" : Str)) = false := by decide) :
    wpAny c.M c.A (eval (.Name x xp) c.env) R E s := by
  obtain ⟨hx, _, _⟩ := S.owned x a _ rfl
  refine wpAny_Name ?_ hd
  rcases hx with ⟨hk, m, hm, e⟩ | ⟨hk | hk, cl, hc, hcell⟩
  · exact wpAny_loadName_local S.rd.ok.kind hk hm e fin
  · exact wpAny_loadName_cell S.rd.ok.kind hk hc hcell fin
  · exact wpAny_loadName_free S.rd.ok.kind hk hc hcell fin hn

theorem Sx_setitem {x : Str} {a : Addr} {n : Nat} {xp sp pos : Pos} {key e : Expr} (hz : n ≤ 1000) (h : Ev c ρ (eval e c.env) (fun _ => Ev c ρ (eval key c.env) (fun k => (∃ y, k = .str y) ∧ K.next ρ (some (x, a, .dict (n + 1)))) K.exc) K.exc)
    (hs : swapsWith e (some (.Subscript (.Name x xp) key sp)) pos.line c.env = pure false := by rfl) (hd : (x == ("__debug__" : Str)) = false := by decide) (hn : (x == ("__classdict__" : Str)) = false := by decide) :
    Sx c F ρ (some (x, a, .dict n)) (exec (.Assign [.Subscript (.Name x xp) key sp] e pos) c.env) K := fun I s S => by
  refine wpAny_Assign_Subscript (h.then S.rd (fun v s₁ I₁ p p₁ r₁ rv q => ?_) fun _ _ x a b => ⟨x, S.exn a, b⟩) hs
  have S₁ := S.post p₁
  refine own_name S₁ ?_ hd hn
  refine q.then r₁ (fun kv s₂ I₂ k p₂ r₂ rk ⟨⟨y, hy⟩, q⟩ => ?_) fun _ _ x a b => ⟨x, S₁.exn a, b⟩
  subst hy
  cases rk with
  | str _ t =>
    have S₂ := S₁.post p₂
    obtain ⟨_, ⟨o, kvs, g1, g2, g3⟩, hm⟩ := S₂.owned x a _ rfl
    have hm2 := hm
    obtain ⟨es, ep, q0, q1, q2⟩ := id g2
    refine wpAny_setItem_pairs (knd := strKind c.W.prog c.W.w) (k := y) (strKind_is _ _ _ _) (Heap.dictOf_iff.mpr ⟨o, g1, g2⟩) (fun h' hd' hsb => ?_) (by rw [sizeLine_eq]; lia)
    obtain ⟨o', g1', g2'⟩ := Heap.dictOf_iff.mp hd'
    obtain ⟨es', ep', _, q1', _⟩ := id g2'
    refine ⟨I₂, p₁.le.trans p₂.le, ρ, _, S₂.change (ow' := .dict (n + 1)) (tk := s₂.toks + 1) g1 hm g1' (fun vs z => by rw [q1'] at z; cases z) (fun v z => by rw [q1] at z; cases z) (fun b hb => hsb.2 b hb) ⟨o', _, g1', g2', ?_⟩, q⟩
    unfold stored
    split
    · rw [List.length_map]; lia
    · rw [List.length_append]; simp; lia

theorem Sx_append {x : Str} {a : Addr} {l : List PV} {xp ap cp pos : Pos} {e : Expr} (hz : l.length ≤ 1000) (h : Ev c ρ (eval e c.env) (fun p => K.next ρ (some (x, a, .list (l ++ [p])))) K.exc)
    (hline : (ap.endLine == cp.line) = true := by rfl) (hbase : attributeBase (.Name x xp) "append" c.env (eval (.Name x xp) c.env) = eval (.Name x xp) c.env := by rfl) (hst : starEach [e] c.env = [(false, eval e c.env)] := by rfl)
    (hi : interactive c.env = false := by rfl) (hs : swapsWith (.Call (.Attribute (.Name x xp) "append" ap) [e] [] cp) none pos.line c.env = pure false := by rfl) (hd : (x == ("__debug__" : Str)) = false := by decide) (hn : (x == ("__classdict__" : Str)) = false := by decide) :
    Sx c F ρ (some (x, a, .list l)) (exec (.Expr (.Call (.Attribute (.Name x xp) "append" ap) [e] [] cp) pos) c.env) K := fun I s S => by
  refine wpAny_Expr_any (Call_method1 hbase hst hline ?_) hi hs
  refine own_name S ?_ hd hn
  obtain ⟨_, ⟨o, vs, g1, ⟨g2, ⟨n, g3⟩, g4, g5⟩, g6⟩, hm⟩ := S.owned x a _ rfl
  refine ⟨"list", "list.append", PySem.F.plainAttrs_list, slot_list_append, type_list_append, ⟨o, g1, g2⟩, fun b q => by cases q; exact ⟨o, g1, g4⟩, ?_⟩
  refine callWith_builtin rfl (evalArgs_plain (spliced_cons (h.then S.rd (fun v s₁ I₁ p p₁ r₁ rv q => ?_) fun _ _ x a b => ⟨x, S.exn a, b⟩)))
  have S₁ := S.post p₁
  refine spliced_nil ?_
  obtain ⟨_, ⟨o', vs', k1, ⟨k2, ⟨n', k3⟩, k4, k5⟩, k6⟩, hm'⟩ := S₁.owned x a _ rfl
  have hpl : s₁.heap.PlainList a vs'.toArray := by
    obtain ⟨c1, c2, c3, c4⟩ := o'
    simp only at k2 k3 k4 k5
    subst k2 k3 k4 k5
    exact ⟨n', k1⟩
  have hlen := k6.length
  refine wpAny_list_append_plain (hsz := by rw [List.size_toArray, sizeLine_eq]; lia) hpl fun h' hl' hsb => ?_
  obtain ⟨n2, hl'⟩ := hl'
  refine ⟨I₁, p₁.le, ρ, _, S₁.change (ow' := .list (l ++ [p])) (tk := s₁.toks) k1 hm' hl' (fun vs z => nomatch z) (fun v z => by rw [k3] at z; cases z) (fun b hb => hsb.2 b hb) ⟨_, vs' ++ [v], hl', ⟨rfl, ⟨n2, by simp⟩, rfl, rfl⟩, k6.append (.cons rv .nil)⟩, q⟩
end
end
section
open PySem PySem.W PySem.Calls PyProof.Rows
noncomputable def notDec : Code → Bool
  | .builtin id _ => !Builtin.Bytes.decodersThatHold.contains id
  | _ => true
noncomputable def CleanC (Γ : Ctx) : Prop := notDec Γ.code = true ∧ ∀ x ∈ Γ.below, notDec x.1 = true
noncomputable def wpP {α : Type} (M : Model) (A : Around) (t : Sem α) (Q : α → Shared → Prop) (s : Shared) : Prop :=
  ∀ Γ p, Γ.In A → CleanC Γ → Sem.wp M Γ t (fun a _ s' => Q a s') (fun _ _ _ => False) p s
noncomputable def codeP (M : Model) (A : Around) (c : Code) (R : Flow → Shared → Prop) (s : Shared) : Prop :=
  ∀ Γ p, Γ.code = c → Γ.Below A → CleanC Γ → wpCode M Γ (fun r s' => match r with | .ok f => R f s' | .error _ => False) p s

section
variable {α β : Type} {M : Model} {A : Around} {s : Shared}
theorem wpP_of {t : Sem α} {Q : α → Shared → Prop} (h : wpAny M A t Q (fun _ _ => False) s) : wpP M A t Q s := fun Γ p hΓ _ => h Γ p hΓ
theorem wpP_pure {a : α} {Q : α → Shared → Prop} (h : Q a s) : wpP M A (pure a) Q s := fun _ _ _ _ => h
theorem wpP_mono {t : Sem α} {Q Q' : α → Shared → Prop} (h : wpP M A t Q s) (hQ : ∀ a s, Q a s → Q' a s) : wpP M A t Q' s :=
  fun Γ p hΓ hc => Sem.wp_mono M Γ t (fun a _ s => hQ a s) (fun _ _ _ h => h) p s (h Γ p hΓ hc)
theorem wpP_bind {m : Sem α} {f : α → Sem β} {Q : β → Shared → Prop} (h : wpP M A m (fun a s' => wpP M A (f a) Q s') s) : wpP M A (m >>= f) Q s := fun Γ p hΓ hc => by
  rw [Sem.wp_bind']
  exact Sem.wp_mono M Γ m (fun a p' s' h' => h' Γ p' hΓ hc) (fun _ _ _ h' => h') p s (h Γ p hΓ hc)
theorem wpP_leaf {m : Sem α} {f : α → Sem β} {Q : β → Shared → Prop} (h : wpAny M A m (fun a s' => wpP M A (f a) Q s') (fun _ _ => False) s) : wpP M A (m >>= f) Q s := wpP_bind (wpP_of h)
theorem wpP_holding {vs : List Value} {m : Sem α} {Q : α → Shared → Prop} (h : wpP M A m Q s) : wpP M A (holding vs m) Q s := fun Γ p hΓ hc => by rw [Sem.wp_holding]; exact h Γ p hΓ hc
theorem wpP_keep {vs : List Value} {m : Sem α} {Q : α → Shared → Prop} (h : wpP M A m Q s) : wpP M A (m.keep vs) Q s := fun Γ p hΓ hc => by rw [Sem.wp_keep]; exact h Γ p hΓ hc
theorem wpP_onRaise {m : Sem α} {k : Value → Sem Unit} {Q : α → Shared → Prop} (h : wpP M A m Q s) : wpP M A (m.onRaise k) Q s := fun Γ p hΓ hc => by
  rw [Sem.wp_onRaise]
  exact Sem.wp_mono M Γ m (fun _ _ _ h' => h') (fun _ _ _ h' => h'.elim) p s (h Γ p hΓ hc)

theorem codeP_of {c : Code} {R : Flow → Shared → Prop} (h : codeAny M A c (fun r s' => match r with | .ok f => R f s' | .error _ => False) s) : codeP M A c R s := fun Γ p hc hΓ _ => h Γ p hc hΓ
theorem codeP_mono {c : Code} {R R' : Flow → Shared → Prop} (h : codeP M A c R s) (hR : ∀ r s, R r s → R' r s) : codeP M A c R' s :=
  fun Γ p hc hΓ hl => wpCode_mono (fun r s' q => by cases r with | ok f => exact hR f s' q | error e => exact q) (h Γ p hc hΓ hl)
theorem CleanC.enter {Γ : Ctx} (h : CleanC Γ) {c : Code} (hc : notDec c = true) (hd : Option Value) (p : Pos) : CleanC (Γ.enter c hd p) := ⟨hc, fun x hx => by
  rcases List.mem_cons.mp hx with rfl | hx
  · exact h.1
  · exact h.2 x hx⟩
theorem CleanC.goto {Γ : Ctx} (h : CleanC Γ) {c : Code} (hc : notDec c = true) : CleanC (Γ.goto c) := ⟨hc, h.2⟩
theorem wpP_run {c : Code} {h : Option Value} {Q : Flow → Shared → Prop} (hd : notDec c = true) (hc : codeP M (A.mark h) c Q s) (hnb : h ≠ some byPass := by intro x; cases x) : wpP M A (run c h) Q s :=
  fun Γ p hΓ hl => by rw [Sem.wp_run]; exact hc _ p rfl (hΓ.enter c h p hnb) (hl.enter hd _ _)
theorem wpP_runValue {c : Code} {Q : Value → Shared → Prop} (hd : notDec c = true) (hc : codeP M A c (fun f s' => match f with | .ret v => Q v s' | _ => False) s) : wpP M A (runValue c) Q s := fun Γ p hΓ hl => by
  rw [Sem.wp_runValue]
  refine wpCode_mono (fun r s' q => ?_) (hc _ p rfl (hΓ.enter c none p (by intro x; cases x)) (hl.enter hd _ _))
  cases r with
  | error e => exact q
  | ok f => cases f <;> exact q
theorem wpP_call {f : Value} {pos : List Value} {kw : List (Str × Value)} {Q : Value → Shared → Prop} (hc : codeP M A (.call f ⟨pos, kw⟩) (fun f s' => match f with | .ret v => Q v s' | _ => False) s) : wpP M A (call f pos kw) Q s := wpP_runValue rfl hc
theorem codeP_of_tree {c : Code} {R : Flow → Shared → Prop}
    (h : wpP M (A.under c) (M.den c) (fun fin s' => match fin with | .done f => R f s' | .again c' => c'.quiet = true ∧ notDec c' = true ∧ codeP M A c' R s') s) : codeP M A c R s := fun Γ p hc hΓ hl => by
  rw [wpCode_iff_wp, hc]
  refine Sem.wp_mono M Γ _ (fun fin p' s' h' => ?_) (fun _ _ _ h' => h'.elim) p s (h Γ p (hc ▸ hΓ.in) hl)
  cases fin with
  | done f => exact h'
  | again c' => exact ⟨h'.1, h'.2.2 (Γ.goto c') p' rfl (hΓ.goto c') (hl.goto h'.2.1)⟩
end

section
variable {M : Model} {A : Around} {s : Shared} {env : Env}
theorem wpP_execs_cons {st rest} {Q : Flow → Shared → Prop} (h : wpP M A (exec st env) (fun f s' => match f with | .next => wpP M A (execs rest env) Q s' | f => Q f s') s) : wpP M A (execs (st :: rest) env) Q s := by
  rw [execs_cons]
  refine wpP_bind (wpP_mono h fun f s' h' => ?_)
  cases f <;> first | exact h' | exact wpP_pure h'
theorem wpP_If {test body orelse pos} {Q : Flow → Shared → Prop} (h : wpP M A (isTrue test env (eval test env)) (fun b s₂ => if b then wpP M A (execs body env) Q s₂ else wpP M A (execs orelse env) Q s₂) s) : wpP M A (exec (.If test body orelse pos) env) Q s := by
  rw [exec_If]
  refine wpP_leaf (wpAny_standAt (wpP_bind (wpP_mono h fun b s' h' => ?_)))
  cases b <;> exact h'
theorem wpP_isTrue_not {x pos whole} {Q : Bool → Shared → Prop} (h : wpP M A (isTrue x env (eval x env)) (fun c s' => Q (!c) s') s) : wpP M A (isTrue (.UnaryOp .Not x pos) env whole) Q s := by
  show wpP M A (do return !(← isTrue x env (eval x env))) Q s
  exact wpP_bind (wpP_mono h fun c s' h' => wpP_pure h')
theorem wpP_isTrue_or {x rest pos whole} {Q : Bool → Shared → Prop} (h : wpP M A (isTrue x env (eval x env)) (fun c s' => if c then Q true s' else wpP M A (isTrue (.BoolOp .Or rest pos) env whole) Q s') s) :
    wpP M A (isTrue (.BoolOp .Or (x :: rest) pos) env whole) Q s := by
  show wpP M A (do
    match BoolOp.Or, ← isTrue x env (eval x env) with
    | .And, false => pure false
    | .Or, true => pure true
    | _, _ => allTrue .Or rest env) Q s
  refine wpP_bind (wpP_mono h fun c s' h' => ?_)
  cases c with
  | false => exact h'
  | true => exact wpP_pure h'
theorem wpP_isTrue_plain {e : Expr} {whole : Sem Value} {Q : Bool → Shared → Prop} (h : wpP M A whole (fun v s₁ => wpAny M A (truthy v) Q (fun _ _ => False) s₁) s)
    (he : isTrue e env whole = (do let v ← whole; standAt e.pos; holding [v] (truthy v)) := by rfl) : wpP M A (isTrue e env whole) Q s := by
  rw [he]
  exact wpP_bind (wpP_mono h fun v s₁ h₁ => wpP_of (wpAny_bind (wpAny_standAt (wpAny_holding h₁))))
theorem wpP_Assign_Name {x pos' value pos} {Q : Flow → Shared → Prop} (h : wpP M A (eval value env) (fun v s₁ => wpAny M A (storeName env x v) (fun _ => Q .next) (fun _ _ => False) s₁) s)
    (hs : swapsWith value (some (.Name x pos')) pos.line env = pure false := by rfl) : wpP M A (exec (.Assign [.Name x pos'] value pos) env) Q s := by
  rw [exec_Assign_Name env x pos' value pos hs]
  refine wpP_leaf (wpAny_standAt (wpP_bind (wpP_mono h fun v s₁ h₁ => wpP_of ?_)))
  exact wpAny_bind (wpAny_standAt (wpAny_bind (wpAny_bindName (wpAny_mono h₁ (fun _ _ q => wpAny_pure q) fun _ _ q => q))))
theorem wpP_Assign_Attribute {o attr pos' value pos} {Q : Flow → Shared → Prop}
    (h : wpP M A (eval value env) (fun v s₁ => wpAny M A (eval o env) (fun ov s₂ => wpAny M A (setAttr ov attr v) (fun _ => Q .next) (fun _ _ => False) s₂) (fun _ _ => False) s₁) s)
    (hs : swapsWith value (some (.Attribute o attr pos')) pos.line env = pure false := by rfl) :
    wpP M A (exec (.Assign [.Attribute o attr pos'] value pos) env) Q s := by
  rw [plainObj_exec_Assign_Attribute o attr pos' value pos hs]
  refine wpP_leaf (wpAny_standAt (wpP_bind (wpP_mono h fun v s₁ h₁ => wpP_of (wpAny_bind ?_))))
  refine wpAny_mono (Q := fun _ => Q .next) ?_ (fun _ _ q => wpAny_pure q) fun _ _ q => q
  intro Γ p hΓ
  simp only [PySem.assign_Attribute, Sem.wp_bind', Sem.wp_holding, Sem.wp_cmd_standAt, Sem.wp_release]
  exact Sem.wp_mono M Γ _ (fun ov p₁ s₂ h₂ => h₂ Γ _ hΓ) (fun _ _ _ h' => h') _ _ (h₁ Γ p hΓ)
theorem wpP_runOwn {c : Code} {h : Option Value} {Q : Flow → Shared → Prop} (hd : notDec c = true) (hc : codeP M (A.mark h) c Q s) (hnb : h ≠ some byPass := by intro x; cases x) : wpP M A (runOwn c env h) Q s := by
  unfold runOwn
  exact wpP_onRaise (wpP_run hd hc hnb)
theorem wpP_For {target iter body orelse pos} {Q : Flow → Shared → Prop}
    (h : wpAny M A (eval iter env) (fun x s₁ => wpAny M A (pyIter x) (fun it s₂ => codeP M A (.forLoop target it body orelse env) Q s₂) (fun _ _ => False) s₁) (fun _ _ => False) s)
    (hs : ∀ x, foldedSetIterable iter env x = pure x := by intro _; rfl) : wpP M A (exec (.For target iter body orelse pos) env) Q s := by
  rw [exec_For]
  refine wpP_leaf (wpAny_standAt (wpP_leaf (wpAny_mono h (fun x s₁ h₁ => ?_) fun _ _ q => q)))
  refine wpP_leaf (wpAny_of_eq (hs x) (wpP_leaf (wpAny_standAt (wpP_leaf (wpAny_holding (wpAny_mono h₁ (fun it s₂ h₂ => ?_) fun _ _ q => q))))))
  exact wpP_runOwn rfl h₂
theorem wpP_callWith {P : Heap → Prop} {pos : Pos} {f : Value} {first : List Value} {args : List (Bool × Sem Value)} {keywords : List (Option Str × Sem Value)} {Q : Value → Shared → Prop} (hplain : (args.any (·.1) || keywords.any (·.1.isNone)) = false)
    (hk : ∀ h, P h → ∃ k, (k = Keeper.frame ∨ k = Keeper.machine ∨ k = Keeper.boundFrame) ∧ Looks M h (keeperOf f) k)
    (h : wpP M A (evalArgs f true args keywords) (fun a s₁ => P s₁.heap ∧ wpP M A (call f (first ++ a.pos) a.kw) Q s₁) s) : wpP M A (callWith pos f first args keywords) Q s := by
  unfold callWith
  refine wpP_bind (wpP_holding (wpP_mono h fun a s₁ h₁ => wpP_leaf (wpAny_standAt ?_)))
  obtain ⟨k, hk', L⟩ := hk _ h₁.1
  simp only [hplain]
  refine wpP_leaf (L.here ?_)
  have tail : ∀ {t : Sem Value}, wpP M A t Q s₁ → wpP M A (t >>= fun r => holding [r] point >>= fun _ => pure r) Q s₁ :=
    fun ht => wpP_bind (wpP_mono ht fun r s₂ hr => wpP_of (wpAny_bind (wpAny_holding (wpAny_point (wpAny_pure hr)))))
  have marked (mk : Value) : wpP M A (callMarked mk f (first ++ a.pos) a.kw) Q s₁ := by unfold callMarked; exact wpP_keep h₁.2
  rcases hk' with rfl | rfl | rfl <;> dsimp only <;> first | exact tail h₁.2 | (split <;> first | exact tail h₁.2 | exact tail (marked _))
end

section
variable {prog : Program} {w : World} {A : Around} {s : Shared}
theorem codeP_func {body env} {R : Flow → Shared → Prop} (h : wpP (model prog w) (A.deeper env) (execs body env) (fun f s' => R (.ret (match f with | .ret v => v | _ => .none)) s') s) : codeP (model prog w) A (.func body env) R s := by
  refine codeP_of_tree ?_
  show wpP _ (A.deeper env) (do point; match ← (execs body env).onRaise (leaving env) with | .ret v => ret v | _ => ret .none) _ s
  refine wpP_leaf (wpAny_point (wpP_bind (wpP_onRaise (wpP_mono h fun f s' h' => ?_))))
  cases f <;> exact wpP_pure h'
theorem codeP_call_function {a : Addr} {args : Args} {o : Obj} {fd : FuncData} {body : List Stmt} {R : Flow → Shared → Prop} (hroom : A.depth < recursionLimit) (ho : s.heap.get? a = some o)
    (hd' : o.data = .func fd) (hco : fd.scope.isCoroutine = false) (hgen : fd.scope.isGenerator = false) (hbody : fd.body = .stmts body) (hcd : s.heap.CodeRec fd.code fd.qualname)
    (h : wpAny (model prog w) A.in1 (bindArgs fd args) (fun binds s₁ =>
      wpAny (model prog w) A.in1 (newFunctionEnv fd.scope fd.globals fd.closure binds (fd.qualname ++ ".<locals>.") (some a) fd.code none fd.builtins)
        (fun env s₂ => s₂.heap.NoLimit ∧ codeP (model prog w) A (.func body env) R s₂) (fun _ _ => False) s₁) (fun _ _ => False) s) : codeP (model prog w) A (.call (.ref a) args) R s := by
  refine codeP_of_tree ?_
  show wpP _ A.in1 (callAny (.ref a) args) _ s
  simp only [callAny]
  refine wpP_leaf (wpAny_load ho ?_)
  obtain ⟨c, oc, vs, tq, hc, hoc, hdc, hq⟩ := hcd
  simp only [hd', callFunction, hco, hgen, hbody, hc]
  rw [hc] at h
  refine wpP_leaf (m := field (.ref c) 1) (wpAny_field hoc hdc hq (wpP_leaf (wpAny_pure ?_)))
  exact wpP_leaf (wpAny_mono h (fun binds s₁ h₁ => wpP_leaf (wpAny_mono h₁ (fun env s₂ h₂ => wpP_leaf (wpAny_enterFrame h₂.1 hroom
    (wpP_pure (And.intro rfl ⟨rfl, h₂.2⟩)))) fun _ _ h' => h')) fun _ _ h' => h')
theorem codeP_loop {c : Code} {R : Flow → Shared → Prop} (hq : c.quiet = true) (hd : notDec c = true) (I : Nat → Shared → Prop)
    (turn : ∀ n s, I n s → wpP (model prog w) (A.under c) ((model prog w).den c) (fun fin s' => match fin with
        | .done f => R f s'
        | .again c' => (c' = c ∧ ∃ m, m < n ∧ I m s') ∨ (c'.quiet = true ∧ notDec c' = true ∧ codeP (model prog w) A c' R s')) s)
    (n : Nat) (h : I n s) : codeP (model prog w) A c R s := by
  induction n using Nat.strongRecOn generalizing s with
  | ind n ih =>
    refine codeP_of_tree (wpP_mono (turn n s h) fun fin s' hf => ?_)
    cases fin with
    | done f => exact hf
    | again c' =>
      rcases hf with ⟨rfl, m, hm, hI⟩ | hf
      · exact ⟨hq, hd, ih m hm hI⟩
      · exact hf
theorem codeP_forLoop {R : Flow → Shared → Prop} {target it body env} (I : Nat → Shared → Prop)
    (turn : ∀ n s, I n s → wpAny (model prog w) A (pyNext it) (fun r s₁ => match r with
      | none => R .next s₁
      | some v => wpAny (model prog w) A (assign target env v) (fun _ s₂ => wpP (model prog w) A (execs body env) (fun f s₃ => match f with
          | .next | .cont => ∃ m, m < n ∧ I m s₃
          | .brk => R .next s₃
          | .ret v => R (.ret v) s₃) s₂) (fun _ _ => False) s₁) (fun _ _ => False) s)
    (n : Nat) (h : I n s) (ht : ∀ v, letOwnedTupleGo target it v = pure () := by intro _; rfl) : codeP (model prog w) A (.forLoop target it body [] env) R s := by
  refine codeP_loop rfl rfl I (fun n s hI => ?_) n h
  show wpP _ _ ((forTurn target it body [] env).onRaise (fun x => do noteFrame x env; theTreesLotGoes x)) _ s
  refine wpP_onRaise ?_
  simp only [forTurn]
  refine wpP_leaf (wpAny_standAt (wpP_leaf (wpAny_onRaise (wpAny_mono (turn n s hI) (fun r s₁ h₁ => ?_) fun _ _ q => q.elim))))
  cases r with
  | none =>
    refine wpP_pure (.inr ⟨rfl, rfl, codeP_of (codeAny_block (wpAny_execs_nil h₁))⟩)
  | some v =>
    refine wpP_leaf (wpAny_of_eq (ht v) ?_)
    refine wpP_leaf (wpAny_mono h₁ (fun _ s₂ h₂ => wpP_bind (wpP_mono h₂ fun f s₃ h₃ => ?_)) fun _ _ h' => h')
    cases f with
    | next => exact wpP_pure (.inl ⟨rfl, h₃⟩)
    | cont => exact wpP_pure (.inl ⟨rfl, h₃⟩)
    | brk => exact wpP_pure h₃
    | ret v => exact wpP_pure h₃
end
end
section
open PySem PySem.W PySem.Calls PyProof.Rows
section
variable {prog : Program} {w : World} {A : Around} {C : Addr} {h : Heap} {g : Array GenState} {d : Drawn} {t : Nat} {os : OsState}
theorem wpP_if_neg {α : Type} {M : Model} {s : Shared} {c : Prop} [Decidable c] {a b : Sem α} {Q : α → Shared → Prop} (hc : ¬ c) (h : wpP M A b Q s) : wpP M A (if c then a else b) Q s := by rw [if_neg hc]; exact h
theorem codeP_call_builtin_at {id : String} {args : Args} {b : Builtin} {R : Flow → Shared → Prop} {s : Shared} (hq : (Code.builtin id args).quiet = true) (hd : notDec (.builtin id args) = true) (hb : entryFor table id = some b)
    (h : wpAny (model prog w) A.in1 (checkBuiltinCall id args) (fun _ s₁ => wpP (model prog w) (A.under (.builtin id args)) (b args)
      (fun fin s' => match fin with | .done f => R f s' | .again c' => c'.quiet = true ∧ notDec c' = true ∧ codeP (model prog w) A c' R s') s₁)
      (fun _ _ => False) s) : codeP (model prog w) A (.call (.builtin id) args) R s := by
  refine codeP_of_tree ?_
  show wpP _ A.in1 (do checkBuiltinCall id args; again (.builtin id args)) _ s
  refine wpP_leaf (wpAny_mono h (fun _ s₁ h₁ => wpP_pure (And.intro hq ⟨hd, codeP_of_tree ?_⟩)) fun _ _ h' => h')
  show wpP _ _ (match entryFor table id with | some b => b args | none => unsupported ((withoutEnding? id "#data").getD id)) _ s₁
  rw [hb]; exact h₁

theorem codeP_make {rest : List Value} {init : Value} {R : Flow → Shared → Prop} (Y : Makes (model prog w) h C) (hi : Looks (model prog w) h (typeLookup (.ref C) "__init__") (some init))
    (hb : ∀ self, Looks (model prog w) h (bindSpecial init self) (init, [self])) (hne : (some init != some (Value.builtin "object.__init__")) = true)
    (hq : codeP (model prog w) (A.under (.builtin "type.__call__" ⟨.ref C :: rest, []⟩)) (.call init ⟨.ref (h.objs.size + 1) :: rest, []⟩) (fun f s' => f = .ret .none ∧ R (.ret (.ref (h.objs.size + 1))) s') ⟨(h.push emptyDict).push (instObj C h.objs.size), g, d, t, os⟩) :
    codeP (model prog w) A (.call (.ref C) ⟨rest, []⟩) R ⟨h, g, d, t, os⟩ := by
  have Y' := Y
  obtain ⟨⟨oc, od, cd, sl, hC, e1, e2, e4⟩, made, base, self, top, call, typ⟩ := Y
  refine codeP_of_tree ?_
  show wpP _ _ (callAny (.ref C) _) _ _
  refine wpP_leaf (m := load C) (wpAny_load hC ?_)
  show wpP _ _ (callAny.viaDunder (.ref C) _) _ _
  unfold callAny.viaDunder
  refine wpP_leaf (call.at ?_)
  dsimp only
  rw [tc_bind]
  refine wpP_leaf (wpAny_pure (wpP_leaf (wpAny_pure ?_)))
  refine wpP_pure (a := Fin.again (.call (.builtin "type.__call__") ⟨.ref C :: rest, []⟩)) (And.intro rfl ⟨rfl, ?_⟩)
  refine codeP_call_builtin_at (Code.quiet_builtin _ (by decide +kernel)) (by show (!Builtin.Bytes.decodersThatHold.contains "type.__call__") = true; decide +kernel) entry_typeCall (check_slot tc_kind tc_split typ (tc_args _ _ _) ?_)
  unfold Builtin.«type.__call__»
  have hm : Looks (model prog w) h (mroOf (.ref C)) cd.mro := ((Looks.ld (part := none) hC).andThen .now).andThen .now
  refine wpP_if_neg (by simp) ?_
  refine wpP_leaf (hm.at ?_)
  refine wpP_if_neg (by rw [e4]; decide) ?_
  refine wpP_leaf (made.at ?_)
  refine wpP_leaf (wpAny_pure ?_)
  refine wpP_leaf (wpAny_holding (wpAny_call (new_K Y' hi (.inl hne) ?_)))
  have k : ∀ b o, h.get? b = some o → ((h.push emptyDict).push (instObj C h.objs.size)).get? b = some o := fun b o e => Heap.get?_push_of_some _ (Heap.get?_push_of_some _ e)
  have hx : ((h.push emptyDict).push (instObj C h.objs.size)).get? (h.objs.size + 1) = some (instObj C h.objs.size) := by
    have := Heap.get?_push_size (h.push emptyDict) (o := instObj C h.objs.size) rfl
    rwa [Heap.size_push] at this
  have t1 : Looks (model prog w) ((h.push emptyDict).push (instObj C h.objs.size)) (typeOf (.ref (h.objs.size + 1))) (.ref C) := (Looks.ld hx).andThen .now
  have s1 := self.keeps k
  have i1 := hi.keeps k
  have b1 := (hb (.ref (h.objs.size + 1))).keeps k
  show wpP _ _ (isInstance _ _ >>= _) _ _
  have L1 : Looks (model prog w) ((h.push emptyDict).push (instObj C h.objs.size)) (isInstance (.ref (h.objs.size + 1)) (.ref C)) true := t1.andThen s1
  refine wpP_leaf (L1.at ?_)
  refine wpP_if_neg (by decide) ?_
  show wpP _ _ (holding _ (callSpecial? _ _ _ _) >>= _) _ _
  unfold callSpecial? specialOf
  refine wpP_bind (wpP_holding (wpP_leaf (wpAny_bind (t1.at (i1.at ?_)))))
  dsimp only
  refine wpP_holding (wpP_leaf (b1.at ?_))
  refine wpP_bind (wpP_call (codeP_mono hq fun f s' z => ?_))
  obtain ⟨rfl, z⟩ := z
  refine wpP_pure ?_
  exact wpP_pure z
end
end
section
open PySem PySem.W PySem.Calls PyProof.Rows
theorem slot_ba_init : Slot "bytearray" "__init__" "bytearray.__init__" :=
  .of (owner := "bytearray") (n := "__init__") (by rw [typeLookup_type, builtinLookup_eq_fast]; kernel_rfl) (by decide +kernel) (by decide +kernel) (by decide +kernel)
    (by first | exact .inl (by decide +kernel) | exact .inr (by decide +kernel)) (by rw [isSubtype_type]; kernel_rfl)
theorem mro_ba : mroOf (.type "bytearray") = pure [.type "bytearray", .type "object"] := by rw [mroOf_type]; kernel_rfl
theorem lookup_ba_new : typeLookup (.type "bytearray") "__new__" = pure (some (.builtin "bytearray.__new__")) := by rw [typeLookup_type, builtinLookup_eq_fast]; kernel_rfl
theorem called_ba : TypeCalled "bytearray" "bytearray.__new__" "bytearray.__init__" :=
  ⟨by decide +kernel, by decide +kernel, ⟨_, _, mro_ba⟩, madeBy_type mro_ba lookup_ba_new (by decide +kernel), by decide +kernel, by rw [isSubtype_type]; kernel_rfl, slot_ba_init⟩
theorem typeCall_ba (a : Value) : checkTypeCall "bytearray" ⟨[a], []⟩ = pure () := by kernel_rfl
theorem newCall_ba (a : Value) : checkBuiltinCall "bytearray.__new__" ⟨[.type "bytearray", a], []⟩ = pure () := by kernel_rfl
theorem entry_ba_new : entryFor table "bytearray.__new__" = some Builtin.«list.__new__» := entryFor_alias (id' := "list.__new__") (by kernel_rfl) (by first | rfl | decide +kernel) (by decide +kernel) (by kernel_rfl)
theorem plain_ba_new : plainId "bytearray.__new__" = true := by decide +kernel
theorem entry_ba_init : entryFor table "bytearray.__init__" = some Builtin.«bytearray.__init__» := entryFor_of_tree (by kernel_rfl)
theorem plain_ba_init : plainId "bytearray.__init__" = true := by decide +kernel
theorem args_ba_init (a b : Value) : argsOk "bytearray.__init__" ⟨[a, b], []⟩ := by unfold argsOk; kernel_rfl
theorem sub_ba : isSubtype (.type "bytearray") (.type "bytearray") = pure true := by rw [isSubtype_type]; kernel_rfl
set_option maxRecDepth 1000000 in
set_option maxHeartbeats 4000000 in
theorem owner_ba_new : ("bytearray.__new__".splitOn ".__new__").headD "" = "bytearray" := by simp +decide [String.splitOn, String.splitOnAux]
theorem bind_ba (v : Value) : Builtin.Bytes.bindOptional "bytearray.__init__" "bytearray" ["source", "encoding", "errors"] [v] [] = pure [some v, none, none] := by kernel_rfl
theorem rel_ba : typeLookup (.type "bytearray") "__release_buffer__" = pure (some (.builtin "bytearray.__release_buffer__")) := by rw [typeLookup_type, builtinLookup_eq_fast]; kernel_rfl
theorem idx_bytes : typeLookup (.type "bytes") "__index__" = pure none := by rw [typeLookup_type, builtinLookup_eq_fast]; kernel_rfl
section
variable {prog : Program} {w : World} {A : Around} {E : Value → Shared → Prop} {s : Shared}
theorem code_ba_new (a : Value) {Q₁ : Value → Shared → Prop} (h : Q₁ (.ref s.heap.objs.size) { s with heap := s.heap.push { cls := .type "bytearray", data := .bytearray #[] } }) :
    codeAny (model prog w) A (.call (.builtin "bytearray.__new__") ⟨[.type "bytearray", a], []⟩) (wants Q₁ E) s := by
  refine codeAny_of_tree ?_
  show wpAny _ A.in1 (do checkBuiltinCall "bytearray.__new__" ⟨[.type "bytearray", a], []⟩; again (.builtin "bytearray.__new__" ⟨[.type "bytearray", a], []⟩)) _ _ s
  refine wpAny_bind (wpAny_of_eq (newCall_ba a) (wpAny_pure ⟨plainId_quiet plain_ba_new _, codeAny_builtin_stack entry_ba_new rfl fun p st => ?_⟩))
  rw [Around.under_plainId plain_ba_new _]
  have hsub := sub_ba
  have hown := owner_ba_new
  obtain ⟨hp, g, d, tk, os⟩ := s
  simp only [hown]
  wp_walk
  exact h

theorem slotOwn_ba {a : Addr} {b : Array UInt8} (x : IsBa s.heap a b) {Q : Bool → Shared → Prop} (h : Q false s) : wpAny (model prog w) A (Builtin.Bytes.ownRelease (.ref a)) Q E s := by
  unfold Builtin.Bytes.ownRelease Builtin.Bytes.slotIsOwn
  refine wpAny_bind (wpAny_bind (wpAny_specialOf x.type rel_ba ?_))
  dsimp only
  rw [if_neg (by decide +kernel)]
  have e : ("bytearray.__release_buffer__" : String).dropRight ("__release_buffer__".length + 1) = "bytearray" := by decide +kernel
  rw [e]
  exact wpAny_isInstance x.type sub_ba (wpAny_pure h)

theorem buffer_full {id : String} {b : Array UInt8} {t : Tok} : Builtin.Bytes.buffer? id (.bytes b t) true = pure (some b) := by
  unfold Builtin.Bytes.buffer?
  rw [KBy.special_eq KBy.look_buffer, KBy.own_buffer, KBy.own_release]
  kernel_rfl

theorem dite_no {P : Prop} [Decidable P] {f : P → Bool} {g : ¬P → Bool} (hn : ¬P) (h : ∀ n, ¬ g n = true) : ¬ dite P f g = true := by rw [dif_neg hn]; exact h hn
theorem exported_P {a : Addr} (hg : A.guards = some []) {Q : Bool → Shared → Prop} (h : Q false s) : wpP (model prog w) A (Builtin.Bytes.exported (.ref a)) Q s := fun Γ p hΓ hc => by
  unfold Builtin.Bytes.exported
  show Sem.wp _ Γ (Sem.bind stack _) _ _ p s
  unfold stack
  rw [Sem.wp_bind, Sem.wp_stack]
  have hgu : guardsOf ((Γ.code, p) :: Γ.below) = [] := by rw [guardsOf_cons]; exact hΓ.2.2.2.1 [] hg
  have hcl : ∀ x ∈ ((Γ.code, p) :: Γ.below), notDec x.1 = true := fun x hx => by
    rcases List.mem_cons.mp hx with rfl | hx
    · exact hc.1
    · exact hc.2 x hx
  generalize (Γ.code, p) :: Γ.below = l at hgu hcl ⊢
  show Q (l.any _) s
  have key : ∀ x ∈ l, x.1.isGuard = false := fun x hx => by
    cases q : x.1.isGuard with
    | false => rfl
    | true =>
      have : x.1 ∈ guardsOf l := List.mem_filter.mpr ⟨List.mem_map_of_mem hx, q⟩
      rw [hgu] at this; cases this
  rw [show l.any _ = false from List.any_eq_false.mpr fun x hx => ?_]
  · exact h
  · have h1 := key x hx
    have h2 := hcl x hx
    obtain ⟨c, q⟩ := x
    dsimp only at h1 h2 ⊢
    delta PySem.Builtin.Bytes.exported.match_1
    dsimp only
    cases c with
    | builtin id args =>
      refine dite_no (fun e => ?_) (fun _ => dite_no (fun e => ?_) fun _ => dite_no (fun e => ?_) fun _ => dite_no (fun e => ?_) fun _ => dite_no (fun e => ?_) fun _ => ?_)
      iterate 5 · subst e; exact absurd h1 (by rw [Code.isGuard]; decide +kernel)
      obtain ⟨ps, kw⟩ := args
      cases ps with
      | nil => exact Bool.false_ne_true
      | cons v vs =>
        have h3 : Builtin.Bytes.decodersThatHold.contains id = false := Bool.not_eq_true' _ ▸ h2
        show ¬ (Builtin.Bytes.sameRef v (.ref a) && Builtin.Bytes.decodersThatHold.contains id) = true
        rw [h3, Bool.and_false]; exact Bool.false_ne_true
    | _ => exact Bool.false_ne_true

end
end
section
open PySem PySem.W PySem.Calls PyProof.Rows
section
variable {prog : Program} {w : World} {A : Around} {s : Shared}
theorem wpP_orM {α : Type} {a b : Sem Bool} {f : Bool → Sem α} {Q : α → Shared → Prop} (h : wpP (model prog w) A a (fun x s₁ => if x then wpP (model prog w) A (f true) Q s₁ else wpP (model prog w) A (b >>= f) Q s₁) s) : wpP (model prog w) A ((a <||> b) >>= f) Q s := by
  unfold orM
  intro Γ p hΓ hc
  rw [Sem.wp_bind', Sem.wp_bind']
  refine Sem.wp_mono _ Γ a (fun x p' s' h' => ?_) (fun _ _ _ h' => h') p s (h Γ p hΓ hc)
  cases x with
  | true => exact h' Γ p' hΓ hc
  | false =>
    have h1 : wpP (model prog w) A (b >>= f) Q s' := h'
    have := h1 Γ p' hΓ hc
    rw [Sem.wp_bind'] at this
    exact this
theorem upd_ba {N : Addr} {f : Array UInt8 → Array UInt8} {b : Array UInt8} {Q : Unit → Shared → Prop} (hN : s.heap.get? N = some { cls := .type "bytearray", data := .bytearray b }) (hz : (f b).size ≤ sizeLine)
    (h : ∀ h', h'.get? N = some { cls := .type "bytearray", data := .bytearray (f b) } → (∀ a, a ≠ N → h'.get? a = s.heap.get? a) → Q () { s with heap := h' }) {E : Value → Shared → Prop} : wpAny (model prog w) A (Builtin.Bytes.write (.ref N) f) Q E s := by
  show wpAny _ _ (updateBytearray N f) _ _ s
  unfold updateBytearray
  refine wpAny_bind (wpAny_load hN ?_)
  show wpAny _ _ (update N (Obj.mapBytearray f) >>= fun _ => lookBehind N) _ _ _
  refine wpAny_bind (wpAny_update hN ?_)
  have h₂ : (s.heap.update N (Obj.mapBytearray f)).get? N = some { cls := .type "bytearray", data := .bytearray (f b) } := Heap.get?_update_self (Obj.mapBytearray f) hN rfl
  refine wpAny_lookBehind h₂ ?_ (h _ h₂ fun a ha => Heap.get?_update_other _ _ (Ne.symm ha))
  show (if (f b).size > sizeLine then some "bytearray:memory" else none) = none
  rw [if_neg (by lia)]
theorem init_ba {N : Addr} {b : Array UInt8} {t : Tok} (hg : A.guards = some []) (hN : s.heap.get? N = some { cls := .type "bytearray", data := .bytearray #[] }) (hz : b.size ≤ 2 ^ 20) {R : Fin → Shared → Prop}
    (h : ∀ h', h'.get? N = some { cls := .type "bytearray", data := .bytearray b } → (∀ a, a ≠ N → h'.get? a = s.heap.get? a) → R (.done (.ret .none)) { s with heap := h' }) :
    wpP (model prog w) A.in1 (Builtin.«bytearray.__init__» ⟨[.ref N, .bytes b t], []⟩) R s := by
  have x : IsBa s.heap N #[] := ⟨_, hN, rfl, rfl, _, rfl⟩
  unfold Builtin.«bytearray.__init__»
  refine wpP_leaf (slotOwn_ba x ?_)
  refine wpP_if_neg (by decide) ?_
  refine wpP_leaf (wpAny_of_eq (bind_ba _) ?_)
  refine wpP_leaf (wpAny_of_eq (a := ()) rfl ?_)
  refine wpP_leaf (wpAny_of_eq (a := ()) rfl ?_)
  refine wpP_orM (exported_P (A := A.in1) hg ?_)
  rw [if_neg (by decide)]
  refine wpP_leaf (wpAny_bind (wpAny_bind (wpAny_load hN (wpAny_pure (wpAny_pure ?_)))))
  refine wpP_if_neg (by decide) ?_
  refine wpP_leaf (upd_ba hN (Nat.zero_le _) fun h₁ g1 k1 => ?_)
  refine wpP_leaf (wpAny_of_eq (a := Option.none) rfl ?_)
  refine wpP_if_neg Bool.false_ne_true ?_
  refine wpP_leaf (wpAny_of_eq (a := ()) rfl ?_)
  refine wpP_leaf (wpAny_specialOf (typeIs_bytes _ b t) idx_bytes ?_)
  refine wpP_if_neg (by decide) ?_
  refine wpP_leaf (wpAny_of_eq buffer_full ?_)
  refine wpP_leaf (wpAny_rule ?_)
  refine wpP_leaf (upd_ba (f := fun _ => b) g1 (by rw [sizeLine_eq]; lia) fun h₂ g2 k2 => ?_)
  exact wpP_pure (h h₂ g2 fun a ha => (k2 a ha).trans (k1 a ha))
end
end
section
open PySem PySem.W PySem.Calls PyProof.Rows
section
variable {prog : Program} {w : World} {A : Around} {s : Shared}
theorem codeP_builtin {id : String} {args : Args} {b : Builtin} {R : Flow → Shared → Prop} (hb : entryFor table id = some b)
    (h : wpP (model prog w) (A.under (.builtin id args)) (b args) (fun fin s' => match fin with | .done f => R f s' | .again c' => c'.quiet = true ∧ notDec c' = true ∧ codeP (model prog w) A c' R s') s) : codeP (model prog w) A (.builtin id args) R s := by
  refine codeP_of_tree ?_
  show wpP _ _ (match entryFor table id with | some b => b args | none => unsupported ((withoutEnding? id "#data").getD id)) _ s
  rw [hb]; exact h

theorem callP_ba {b : Array UInt8} {t : Tok} (hg : A.guards = some []) (hz : b.size ≤ 2 ^ 20) {Q : Value → Shared → Prop}
    (h : ∀ h', h'.get? s.heap.objs.size = some { cls := .type "bytearray", data := .bytearray b } → (∀ a o, s.heap.get? a = some o → h'.get? a = some o) → Q (.ref s.heap.objs.size) { s with heap := h' }) :
    wpP (model prog w) A (call (.type "bytearray") [.bytes b t]) Q s := by
  refine wpP_call (codeP_of_tree ?_)
  show wpP _ _ (callAny (.type "bytearray") _) _ _
  refine wpP_pure ⟨Code.quiet_builtin _ (by decide +kernel), by show (!Builtin.Bytes.decodersThatHold.contains "type.__call__") = true; decide +kernel, codeP_builtin F.entry_type_call ?_⟩
  rw [Around.under_plain (weight_type_call_type "bytearray" _ []) (units_type_call_type "bytearray" _ [])]
  unfold Builtin.«type.__call__»
  refine wpP_if_neg (by decide) ?_
  dsimp only
  refine wpP_if_neg (by
    have := called_ba.canCreate
    intro q
    exact absurd q (by rw [Bool.not_eq_true]; exact this)) ?_
  refine wpP_leaf (wpAny_of_eq (typeCall_ba _) ?_)
  refine wpP_leaf (wpAny_of_eq mro_ba ?_)
  refine wpP_if_neg (by decide) ?_
  refine wpP_leaf (wpAny_of_eq called_ba.made ?_)
  refine wpP_leaf (wpAny_pure ?_)
  refine wpP_leaf (wpAny_holding (wpAny_call (codeAny_mono (code_ba_new (E := fun _ _ => False) (.bytes b t) (Q₁ := fun v s' => v = .ref s.heap.objs.size ∧ s' = { s with heap := s.heap.push { cls := .type "bytearray", data := .bytearray #[] } }) ⟨rfl, rfl⟩) fun r s₁ hr => ?_)))
  cases r with
  | error e => exact hr.elim
  | ok fl =>
    cases fl with
    | ret obj =>
      obtain ⟨rfl, rfl⟩ := hr
      have hN : (s.heap.push { cls := .type "bytearray", data := .bytearray #[] }).get? s.heap.objs.size = some { cls := .type "bytearray", data := .bytearray #[] } := Heap.get?_push_size _ rfl
      have hT : Shared.TypeIs { s with heap := s.heap.push { cls := .type "bytearray", data := .bytearray #[] } } (.ref s.heap.objs.size) "bytearray" := ⟨_, hN, rfl⟩
      dsimp only
      refine wpP_leaf (wpAny_isInstance hT sub_ba ?_)
      refine wpP_if_neg (by decide) ?_
      show wpP _ _ (holding _ (callSpecial? _ _ _ _) >>= _) _ _
      simp only [callSpecial?]
      refine wpP_bind (wpP_holding (wpP_leaf (wpAny_specialOf hT slot_ba_init.lookup ?_)))
      simp only [slot_ba_init.bind]
      refine wpP_holding (wpP_leaf (wpAny_pure (wpP_bind (wpP_call ?_))))
      refine codeP_call_builtin_at (plainId_quiet plain_ba_init _) (by show (!Builtin.Bytes.decodersThatHold.contains "bytearray.__init__") = true; decide +kernel) entry_ba_init (slot_ba_init.check _ _ _ _ _ _ _ _ hT (args_ba_init _ _) ?_)
      rw [Around.under_plainId plain_ba_init]
      refine init_ba (A := A.in1) hg hN hz fun h' g1 k1 => ?_
      refine wpP_pure ?_
      exact wpP_pure (h h' g1 fun a o e => (k1 a (Nat.ne_of_lt (Heap.lt_size e))).trans (Heap.get?_push_of_some _ e))
    | _ => exact hr.elim
end
end
section
open PySem PySem.W PySem.Calls PyProof.Rows
theorem St.enter {c : Cx} {fd : FuncData} {a : Addr} {I : Im} {s₀ s s₁ : Shared} {ρ : PEnv} {bs : List (Str × Value)} (r : Rd c [] I s) (hkeep₀ : ∀ b o, s₀.heap.get? b = some o → s.heap.get? b = some o) (hg₀ : s.gens = s₀.gens) (ho₀ : s.os = s₀.os)
    (hrb : RepB I bs ρ) (hns : bs.map (·.1) = ρ.map (·.1)) (hkb : ∀ x ∈ bs, fd.scope.names.lookup x.1 = some .local ∨ fd.scope.names.lookup x.1 = some .cell) (hnd : (ρ.map (·.1)).Nodup) (hp : plainFd fd) (hn : 1 ≤ c.n)
    (x : InCallC s (callEnvC fd s.heap.objs.size a).locals (bindL (callEnvC fd s.heap.objs.size a).kindOf bs fun _ => none) (callEnvC fd s.heap.objs.size a).cells
        (bindC (callEnvC fd s.heap.objs.size a).kindOf bs fun _ => none) s₁) : St (inside c fd s.heap.objs.size a) ⟨s₀.heap, I, c.l, [], s₀.gens, s₀.os⟩ ρ none I s₁ := by
  generalize hN : s.heap.objs.size = N at x ⊢
  have hIN : I N = none := hN ▸ r.sub.none_new
  have hsN : s.heap.get? N = none := hN ▸ get?_size _
  have keep := x.toInCall.keep
  obtain ⟨h₁, tk, hs₁⟩ := x.toInCall.same
  have none₀ : ∀ b, s.heap.get? b = none → s₀.heap.get? b = none := fun b hb => by
    cases q : s₀.heap.get? b with
    | none => rfl
    | some o => have := hkeep₀ _ _ q; rw [hb] at this; cases this
  have hcl : ∀ y cc, (callEnvC fd N a).cells.lookup y = some cc → N < cc := fun y cc e => x.above y cc (mem_of_lookup e)
  refine ⟨⟨⟨?_, ?_, ?_, r.ok.handled, hp.2.2.1, hp.2.2.2.1, hp.2.2.2.2.1, r.ok.guards⟩, r.base, fun b o' e => keep b o' (r.sub b o' e), StackOk.inside hp.2.2.1 rfl hIN x.toInCall.ns r.stack keep, fun y p e => ?_⟩, rfl, rfl, .of_keeps fun b o e => keep b o (hkeep₀ b o e), .refl _, fun _ _ e => .inl e, ?_, ?_, ⟨_, x.toInCall.ns⟩, ⟨hIN, none₀ _ hsN⟩, fun y cc e => ?_, x.apart, fun _ _ _ e => nomatch e⟩
  · exact Around.frames_deeper r.ok.frames
  · have := r.ok.depth; show c.A.depth + 1 + (c.n - 1) < 900; lia
  · have := r.ok.units; show c.A.units + 3 + 20 * (c.n - 1) + 100 < cLine; lia
  · obtain ⟨v, hv, hrv⟩ := hrb.find e
    refine ⟨v, ?_, hrv⟩
    have hnd' : (bs.map (·.1)).Nodup := hns ▸ hnd
    rcases hkb (y, v) hv with q | q
    · exact .inl ⟨q, _, x.toInCall.ns, bindL_in hnd' hv q⟩
    · obtain ⟨cc, hcc⟩ := Option.isSome_iff_exists.mp (cells_some (n := N + 1) (acc := []) (.inr q))
      refine .inr ⟨.inl q, cc, hcc, ?_⟩
      have := x.cell y cc hcc
      rwa [bindC_in hnd' hv (by show fd.scope.names.lookup y ≠ _; rw [q]; decide)] at this
  · rw [hs₁]; exact hg₀
  · rw [hs₁]; exact ho₀
  · have hlt := hcl y cc e
    have hnone : s.heap.get? cc = none := by
      cases q : s.heap.get? cc with
      | none => rfl
      | some o' => have := Heap.lt_size q; rw [hN] at this; exact absurd this (Nat.not_lt.mpr (Nat.le_of_lt hlt))
    refine ⟨⟨_, x.cell y cc e⟩, ?_, none₀ _ hnone⟩
    cases q : I cc with
    | none => rfl
    | some o' => have := r.sub _ _ q; rw [hnone] at this; cases this

noncomputable def Cx.crea (c : Cx) (C : Addr) (args : Args) : Cx := { c with A := c.A.under (.builtin "type.__call__" ⟨.ref C :: args.pos, args.kw⟩), n := c.n - 1 }
theorem Rd.crea {c : Cx} {ρ : PEnv} {I : Im} {s : Shared} (r : Rd c ρ I s) (hn : 1 ≤ c.n) {C : Addr} {args : Args} : Rd (c.crea C args) ρ I s :=
  ⟨⟨by show pushEnvs [] c.A.frames = _; exact r.ok.frames, by have := r.ok.depth; show c.A.depth + 1 + (c.n - 1) < 900; lia, by have := r.ok.units; show c.A.units + 1 + 20 * (c.n - 1) + 100 < cLine; lia, r.ok.handled, r.ok.kind, r.ok.globals, r.ok.builtins, by show pushGuards [] c.A.guards = _; exact r.ok.guards⟩, r.base, r.sub, r.stack, r.vars⟩

structure NewAt (c : Cx) (C : Addr) (I : Im) (s : Shared) (I' : Im) (s' : Shared) (x : Addr) (fs : List (Str × PV)) : Prop where
  post : Post c.l I s I' s'
  x0 : s.heap.get? x = none
  own : ∃ d es n, s'.heap.get? x = some (instObj C d) ∧ s'.heap.get? d = some (dictOf es n) ∧ RepFs I' es fs ∧ s.heap.get? d = none ∧ I' d = none ∧ d ≠ x
  xI : I' x = none

noncomputable def CallN (c : Cx) (C : Addr) (args : List PV) (Q : List (Str × PV) → Prop) : Prop :=
  ∀ I s vs, Rd c [] I s → RepAll I vs args → ∀ E, wpAny c.M c.A (call (.ref C) vs) (fun v s' => ∃ I' x fs, v = .ref x ∧ NewAt c C I s I' s' x fs ∧ Q fs) E s
noncomputable def CallNP (c : Cx) (C : Addr) (args : List PV) (Q : List (Str × PV) → Prop) : Prop :=
  ∀ I s vs, Rd c [] I s → RepAll I vs args → wpP c.M c.A (call (.ref C) vs) (fun v s' => ∃ I' x fs, v = .ref x ∧ NewAt c C I s I' s' x fs ∧ Q fs) s

structure MakeA (K : Frag) (C fI : Addr) : Prop where
  make : makesIn K C = true
  find : findIn K (.ref C) "__init__" = some (some (.ref fI))
  fn : typeIn K (.ref fI) = some (.type "function")

noncomputable def BindsM (c : Cx) (fd : FuncData) (args : List PV) (self : Str) (ρ : PEnv) : Prop := ∀ I s x vs, Rd c [] I s → RepAll I vs args → ∃ bs, BindsTo s fd ⟨.ref x :: vs, []⟩ ((self, .ref x) :: bs) ∧ RepB I bs ρ ∧ bs.map (·.1) = ρ.map (·.1)

noncomputable abbrev PK.init (a : Addr) (C : Addr) (Q : List (Str × PV) → Prop) : PK :=
  { next := fun _ σ => ∃ x fs, σ = some (x, a, .inst C fs) ∧ Q fs, ret := fun _ _ => False, exc := fun _ => False }

theorem init_start {c : Cx} {C fI : Addr} {fd : FuncData} {args : List PV} {self : Str} {ρ : PEnv} {I : Im} {s s₁ s₂ : Shared} {vs : List Value} {bs : List (Str × Value)} (r : Rd c [] I s) (hn : 2 ≤ c.n)
    (hs₁ : s₁ = { s with heap := (s.heap.push emptyDict).push (instObj C s.heap.objs.size) })
    (hrb : RepB I bs ρ) (hns : bs.map (·.1) = ρ.map (·.1)) (hkb : ∀ x ∈ ((self, Value.ref (s.heap.objs.size + 1)) :: bs), fd.scope.names.lookup x.1 = some .local ∨ fd.scope.names.lookup x.1 = some .cell) (hnd : (self :: ρ.map (·.1)).Nodup) (hp : plainFd fd)
    (x : InCallC s₁ (callEnvC fd s₁.heap.objs.size fI).locals (bindL (callEnvC fd s₁.heap.objs.size fI).kindOf ((self, Value.ref (s.heap.objs.size + 1)) :: bs) fun _ => none) (callEnvC fd s₁.heap.objs.size fI).cells
        (bindC (callEnvC fd s₁.heap.objs.size fI).kindOf ((self, Value.ref (s.heap.objs.size + 1)) :: bs) fun _ => none) s₂) :
    St (inside (c.crea C ⟨vs, []⟩) fd s₁.heap.objs.size fI) ⟨s.heap, I, c.l, [], s.gens, s.os⟩ ((self, .func (s.heap.objs.size + 1)) :: ρ) (some (self, s.heap.objs.size + 1, .inst C [])) I s₂ := by
  have keep : ∀ b o, s.heap.get? b = some o → s₁.heap.get? b = some o := fun b o e => by rw [hs₁]; exact Heap.get?_push_of_some _ (Heap.get?_push_of_some _ e)
  have r₁ : Rd (c.crea C ⟨vs, []⟩) [] I s₁ := (r.post (Post.keeps r.sub keep (by rw [hs₁]) (by rw [hs₁]))).crea (by lia)
  have S := St.enter (s₀ := s) (ρ := (self, .func (s.heap.objs.size + 1)) :: ρ) r₁ keep (by rw [hs₁]) (by rw [hs₁]) (.cons (.func _) hrb) (by simp [hns]) hkb (by simpa using hnd) hp (by show 1 ≤ c.n - 1; lia) x
  have hx1 : s₁.heap.get? (s.heap.objs.size + 1) = some (instObj C s.heap.objs.size) := by
    have := Heap.get?_push_size (s.heap.push emptyDict) (o := instObj C s.heap.objs.size) rfl
    rw [Heap.size_push] at this
    rw [hs₁]; exact this
  have hd1 : s₁.heap.get? s.heap.objs.size = some emptyDict := by
    rw [hs₁]; exact Heap.get?_push_of_some _ (Heap.get?_push_size _ rfl)
  have hx2 := x.toInCall.keep _ _ hx1
  have hd2 := x.toInCall.keep _ _ hd1
  obtain ⟨v, hv, hr⟩ := S.rd.vars self (.func (s.heap.objs.size + 1)) (by rw [List.lookup_cons, beq_self_eq_true])
  cases hr
  have n0 : ∀ b, s.heap.objs.size ≤ b → s.heap.get? b = none := fun b hb => by
    cases e : s.heap.get? b with
    | none => rfl
    | some o => exact absurd (Heap.lt_size e) (Nat.not_lt.mpr hb)
  have i0 : ∀ b, s.heap.get? b = none → I b = none := fun b hb => by
    cases e : I b with
    | none => rfl
    | some o => have := r.sub _ _ e; rw [hb] at this; cases this
  have fr : ∀ b, s.heap.get? b = none → b ≠ s₁.heap.objs.size → b ∉ (callEnvC fd s₁.heap.objs.size fI :: c.l).filterMap (·.frame) := fun b hb hne hm => by
    rw [List.filterMap_cons] at hm
    rcases List.mem_cons.mp hm with q | q
    · exact hne q
    · exact r.stack.none hb q
  have z1 := n0 (s.heap.objs.size + 1) (Nat.le_succ _)
  have z2 := n0 s.heap.objs.size (Nat.le_refl _)
  exact { S with owned := fun y b ow e => (by
    cases e
    exact ⟨hv, ⟨s.heap.objs.size, [], 0, hx2, hd2, .nil, ⟨i0 _ z2, .inl z2, fr _ z2 (Nat.ne_of_lt (Heap.lt_size hd1))⟩, Nat.ne_of_lt (Nat.lt_succ_self _)⟩, i0 _ z1, .inl z1, fr _ z1 (Nat.ne_of_lt (Heap.lt_size hx1))⟩) }

theorem init_end {c c' : Cx} {C : Addr} {I I' : Im} {s s' : Shared} {a : Addr} {y : Str} {fs : List (Str × PV)} {ρ : PEnv} (S : St c' ⟨s.heap, I, c.l, [], s.gens, s.os⟩ ρ (some (y, a, .inst C fs)) I' s') : NewAt c C I s I' s' a fs := by
  obtain ⟨_, ⟨d, es, n, q1, q2, q3, q4, q5⟩, m1, m2, _⟩ := S.owned y a _ rfl
  refine ⟨⟨S.le₀, S.rd.sub, S.fresh₀, S.kept.toF, S.gens, S.os⟩, ?_, ⟨d, es, n, q1, q2, q3, ?_, q4.1, q5⟩, m1⟩
  · rcases m2 with z | z
    · exact z
    · cases z
  · rcases q4.2.1 with z | z
    · exact z
    · cases z
end
section
open PySem PySem.W PySem.Calls PyProof.Rows
theorem RepB.zip {I : Im} {vs : List Value} {ps : List PV} (h : RepAll I vs ps) : ∀ {names : List Str}, RepB I (names.zip vs) (names.zip ps) :=
  RepAll.ind (motive := fun vs ps => ∀ {names : List Str}, RepB I (names.zip vs) (names.zip ps)) h (fun {names} => by simp only [List.zip_nil_right]; exact .nil) fun a _ ih => by
    intro names
    cases names with
    | nil => exact .nil
    | cons n names => exact .cons a ih
theorem zip_names : ∀ {names : List Str} {α : Type} {vs : List α}, names.length = vs.length → (names.zip vs).map (·.1) = names
  | [], _, _, _ => rfl
  | n :: names, _, [], h => by cases h
  | n :: names, _, v :: vs, h => by simp only [List.zip_cons_cons, List.map_cons]; rw [zip_names (by simpa using h)]

theorem wpP_enter {c : Cx} {R : Flow → Shared → Prop} {s : Shared} {a : Addr} {o : Obj} {fd : FuncData} {body : List Stmt} {vals : List Value} {binds : List (Str × Value)}
    (hroom : c.A.depth < recursionLimit) (ho : s.heap.get? a = some o) (hdata : o.data = .func fd) (hlim : s.heap.NoLimit) (hcd : s.heap.CodeRec fd.code fd.qualname)
    (hbody : fd.body = .stmts body) (hbind : BindsTo s fd ⟨vals, []⟩ binds) (hp : plainFd fd)
    (hkind : ∀ x ∈ binds, fd.scope.names.lookup x.1 = some .local ∨ (fd.scope.names.lookup x.1 = some .cell ∧ ((cellsFrom (s.heap.objs.size + 1) fd.scope.names []).lookup x.1).isSome = true))
    (h : ∀ s₁, InCallC s (callEnvC fd s.heap.objs.size a).locals (bindL (callEnvC fd s.heap.objs.size a).kindOf binds fun _ => none) (callEnvC fd s.heap.objs.size a).cells
        (bindC (callEnvC fd s.heap.objs.size a).kindOf binds fun _ => none) s₁ →
      wpP c.M (c.A.deeper (callEnvC fd s.heap.objs.size a)) (execs body (callEnvC fd s.heap.objs.size a)) (fun f s' => R (.ret (match f with | .ret v => v | _ => .none)) s') s₁) :
    codeP c.M c.A (.call (.ref a) ⟨vals, []⟩) R s := by
  obtain ⟨hco, hgen, hk, hg, hb, hclo⟩ := hp
  refine codeP_call_function hroom ho hdata hco hgen hbody hcd (hbind _ _ _ _ ?_)
  rw [hclo]
  refine wpAny_newFunctionEnv_cells hk hkind fun env he s' x => ?_
  subst he
  exact ⟨hlim.keeps x.toInCall.keep, codeP_func (h s' x)⟩

noncomputable def SxP (c : Cx) (F : Fm) (ρ : PEnv) (σ : Ow) (t : Sem Flow) (K : PK) : Prop := ∀ I s, St c F ρ σ I s → wpP c.M c.A t (QS c F I K) s
noncomputable def CallP (c : Cx) (f : Value) (args : List PV) (Q : PV → Prop) : Prop := ∀ I s vs, Rd c [] I s → RepAll I vs args → wpP c.M c.A (call f vs) (QV c I s Q) s
theorem SxP.of {c : Cx} {F : Fm} {ρ : PEnv} {σ : Ow} {t : Sem Flow} {K : PK} (h : Sx c F ρ σ t { K with exc := fun _ => False }) : SxP c F ρ σ t K := fun I s S => wpP_of (wpAny_mono (h I s S) (fun fl _ ⟨I', le, f⟩ => ⟨I', le, by cases fl <;> exact f⟩) fun e s' ⟨x, _, q⟩ => q)

section
variable {c : Cx} {C fI : Addr} {o : Obj} {fd : FuncData} {body : List Stmt} {args : List PV} {names : List Str} {self : Str} {Q : List (Str × PV) → Prop}
theorem call_new (hM : MakeA c.W.K C fI) (hK : c.W.K.lookup fI = some o) (hdata : o.data = .func fd) (hcd : codeIn c.W.K fd.code fd.qualname = true) (hbody : fd.body = .stmts body) (hp : plainFd fd) (hn : 2 ≤ c.n)
    (hb : ∀ v0 vs, names.length = vs.length → bindArgs fd ⟨v0 :: vs, []⟩ = pure ((self, v0) :: names.zip vs)) (hl : names.length = args.length) (hko : ∀ x ∈ self :: names, fd.scope.names.lookup x = some .local ∨ fd.scope.names.lookup x = some .cell) (hnd : (self :: names).Nodup)
    (h : ∀ N F vs a, F.mu = [] → F.outer = c.l → Sx (inside (c.crea C ⟨vs, []⟩) fd N fI) F ((self, .func a) :: names.zip args) (some (self, a, .inst C [])) (execs body (inside (c.crea C ⟨vs, []⟩) fd N fI).env) (PK.init a C Q)) :
    CallN c C args Q := by
  intro I s vs r hr E
  have hlv := hr.length
  obtain ⟨hh, g, d, t, os⟩ := s
  refine wpAny_call (make_core (makes_of r.inK hM.make) (looks_findIn r.inK hM.find) (fun self => bind_fn r.inK self hM.fn) (.inl rfl) ?_)
  have keep : ∀ b o, hh.get? b = some o → ((hh.push emptyDict).push (instObj C hh.objs.size)).get? b = some o := fun b o e => Heap.get?_push_of_some _ (Heap.get?_push_of_some _ e)
  have hroom : (c.crea C ⟨vs, []⟩).A.depth < recursionLimit := by have := r.ok.depth; show c.A.depth + 1 < 1000; lia
  have hkb : ∀ x ∈ ((self, Value.ref (hh.objs.size + 1)) :: names.zip vs), fd.scope.names.lookup x.1 = some .local ∨ fd.scope.names.lookup x.1 = some .cell := fun x hx => hko x.1 (by
    rcases List.mem_cons.mp hx with rfl | hx
    · exact .head _
    · exact .tail _ (List.of_mem_zip hx).1)
  have hlim : ((hh.push emptyDict).push (instObj C hh.objs.size)).NoLimit := r.lim.keeps keep
  refine wpAny_enter (c := c.crea C ⟨vs, []⟩) (s := ⟨(hh.push emptyDict).push (instObj C hh.objs.size), g, d, t, os⟩) hroom (keep _ _ (r.inK _ _ hK)) hdata hlim (codeRec_of (r.inK.keeps keep) hcd) hbody (.of_eq (hb _ _ (by lia))) hp (fun x hx => (hkb x hx).imp id fun q => ⟨q, cells_some (.inr q)⟩) fun s₂ x => ?_
  have S := init_start (vs := vs) (args := args) (fd := fd) (fI := fI) (ρ := names.zip args) (self := self) r hn rfl (RepB.zip hr) (by rw [zip_names (by lia), zip_names (by lia)]) hkb (by rw [zip_names hl]; exact hnd) hp x
  refine wpAny_mono (h _ ⟨hh, I, c.l, [], g, os⟩ vs _ rfl rfl I s₂ S) (fun fl s' ⟨I', hle, q⟩ => ?_) fun e s' ⟨y, _, q⟩ => q.elim
  cases fl with
  | next =>
    obtain ⟨ρ', σ', S', y, fs, rfl, hq⟩ := q
    exact ⟨rfl, I', _, fs, rfl, init_end (s := ⟨hh, g, d, t, os⟩) S', hq⟩
  | brk => obtain ⟨ρ', σ', S', hq⟩ := q; exact hq.elim
  | cont => obtain ⟨ρ', σ', S', hq⟩ := q; exact hq.elim
  | ret v => obtain ⟨p, σ', S', hr', hq⟩ := q; exact hq.elim

theorem call_newP (hM : MakeA c.W.K C fI) (hK : c.W.K.lookup fI = some o) (hdata : o.data = .func fd) (hcd : codeIn c.W.K fd.code fd.qualname = true) (hbody : fd.body = .stmts body) (hp : plainFd fd) (hn : 2 ≤ c.n)
    (hb : ∀ v0 vs, names.length = vs.length → bindArgs fd ⟨v0 :: vs, []⟩ = pure ((self, v0) :: names.zip vs)) (hl : names.length = args.length) (hko : ∀ x ∈ self :: names, fd.scope.names.lookup x = some .local ∨ fd.scope.names.lookup x = some .cell) (hnd : (self :: names).Nodup)
    (h : ∀ N F vs a, F.mu = [] → F.outer = c.l → SxP (inside (c.crea C ⟨vs, []⟩) fd N fI) F ((self, .func a) :: names.zip args) (some (self, a, .inst C [])) (execs body (inside (c.crea C ⟨vs, []⟩) fd N fI).env) (PK.init a C Q)) :
    CallNP c C args Q := by
  intro I s vs r hr
  have hlv := hr.length
  obtain ⟨hh, g, d, t, os⟩ := s
  refine wpP_call (codeP_make (makes_of r.inK hM.make) (looks_findIn r.inK hM.find) (fun self => bind_fn r.inK self hM.fn) rfl ?_)
  have keep : ∀ b o, hh.get? b = some o → ((hh.push emptyDict).push (instObj C hh.objs.size)).get? b = some o := fun b o e => Heap.get?_push_of_some _ (Heap.get?_push_of_some _ e)
  have hroom : (c.crea C ⟨vs, []⟩).A.depth < recursionLimit := by have := r.ok.depth; show c.A.depth + 1 < 1000; lia
  have hkb : ∀ x ∈ ((self, Value.ref (hh.objs.size + 1)) :: names.zip vs), fd.scope.names.lookup x.1 = some .local ∨ fd.scope.names.lookup x.1 = some .cell := fun x hx => hko x.1 (by
    rcases List.mem_cons.mp hx with rfl | hx
    · exact .head _
    · exact .tail _ (List.of_mem_zip hx).1)
  have hlim : ((hh.push emptyDict).push (instObj C hh.objs.size)).NoLimit := r.lim.keeps keep
  refine wpP_enter (c := c.crea C ⟨vs, []⟩) (s := ⟨(hh.push emptyDict).push (instObj C hh.objs.size), g, d, t, os⟩) hroom (keep _ _ (r.inK _ _ hK)) hdata hlim (codeRec_of (r.inK.keeps keep) hcd) hbody (.of_eq (hb _ _ (by lia))) hp (fun x hx => (hkb x hx).imp id fun q => ⟨q, cells_some (.inr q)⟩) fun s₂ x => ?_
  have S := init_start (vs := vs) (args := args) (fd := fd) (fI := fI) (ρ := names.zip args) (self := self) r hn rfl (RepB.zip hr) (by rw [zip_names (by lia), zip_names (by lia)]) hkb (by rw [zip_names hl]; exact hnd) hp x
  refine wpP_mono (h _ ⟨hh, I, c.l, [], g, os⟩ vs _ rfl rfl I s₂ S) fun fl s' ⟨I', hle, q⟩ => ?_
  cases fl with
  | next =>
    obtain ⟨ρ', σ', S', y, fs, rfl, hq⟩ := q
    exact ⟨rfl, I', _, fs, rfl, init_end (s := ⟨hh, g, d, t, os⟩) S', hq⟩
  | brk => obtain ⟨ρ', σ', S', hq⟩ := q; exact hq.elim
  | cont => obtain ⟨ρ', σ', S', hq⟩ := q; exact hq.elim
  | ret v => obtain ⟨p, σ', S', hr', hq⟩ := q; exact hq.elim

theorem call_defP {a : Addr} {ρ : PEnv} {Q : PV → Prop} (hK : c.W.K.lookup a = some o) (hdata : o.data = .func fd) (hcd : codeIn c.W.K fd.code fd.qualname = true) (hbody : fd.body = .stmts body) (hp : plainFd fd) (hn : 1 ≤ c.n)
    (hb : Binds c fd args ρ) (hko : kindsOk fd ρ = true) (hnd : (ρ.map (·.1)).Nodup)
    (h : ∀ N F, F.mu = [] → F.outer = c.l → SxP (inside c fd N a) F ρ none (execs body (inside c fd N a).env) (PK.fn Q fun _ => False)) :
    CallP c (.ref a) args Q := by
  intro I s vs r hr
  refine wpP_call ?_
  obtain ⟨bs, hbt, hrb, hns⟩ := hb I s vs r hr
  have hroom : c.A.depth < recursionLimit := by have := r.ok.depth; show c.A.depth < 1000; lia
  have hkb : ∀ x ∈ bs, fd.scope.names.lookup x.1 = some .local ∨ fd.scope.names.lookup x.1 = some .cell := fun x hx => by
    have hm : x.1 ∈ ρ.map (·.1) := hns ▸ List.mem_map_of_mem hx
    obtain ⟨q, hq, hqe⟩ := List.mem_map.mp hm
    have := List.all_eq_true.mp hko q hq
    rw [Bool.or_eq_true, beq_iff_eq, beq_iff_eq, hqe] at this
    exact this
  refine wpP_enter hroom (r.inK _ _ hK) hdata r.lim (codeRec_of r.inK hcd) hbody hbt hp (fun x hx => (hkb x hx).imp id fun q => ⟨q, cells_some (.inr q)⟩) fun s₁ x => ?_
  have S := St.enter (s₀ := s) (a := a) r (fun _ _ e => e) rfl rfl hrb hns hkb hnd hp hn x
  have fin : ∀ {σ : Ow} {ρ' : PEnv} {I' : Im} {s' : Shared}, St (inside c fd s.heap.objs.size a) ⟨s.heap, I, c.l, [], s.gens, s.os⟩ ρ' σ I' s' → Post c.l I s I' s' := fun S' => ⟨S'.le₀, S'.rd.sub, S'.fresh₀, S'.kept.toF, S'.gens, S'.os⟩
  refine wpP_mono (h _ ⟨s.heap, I, c.l, [], s.gens, s.os⟩ rfl rfl I s₁ S) fun fl s' ⟨I', hle, q⟩ => ?_
  cases fl with
  | next => obtain ⟨ρ', σ', S', hq⟩ := q; exact ⟨I', .none, fin S', .none, hq⟩
  | brk => obtain ⟨ρ', σ', S', hq⟩ := q; exact hq.elim
  | cont => obtain ⟨ρ', σ', S', hq⟩ := q; exact hq.elim
  | ret v => obtain ⟨p, σ', S', hr', hq⟩ := q; exact ⟨I', p, fin S', hr', hq⟩
end
end
section
open PySem PySem.W PySem.Calls PyProof.Rows
section
variable {c : Cx} {F : Fm} {ρ : PEnv} {σ : Ow} {K : PK} {I : Im} {s s' : Shared}

theorem St.storeNew {x : Str} {a C : Addr} {fs : List (Str × PV)} {I' : Im} {E : Value → Shared → Prop} {Q : Unit → Shared → Prop} (S : St c F ρ none I s) (N : NewAt c C I s I' s' a fs) (hx : Slot1 c none x)
    (h : ∀ s'', St c F ((x, .func a) :: ρ) (some (x, a, .inst C fs)) I' s'' → Q () s'') : wpAny c.M c.A (storeName c.env x (.ref a)) Q E s' := by
  obtain ⟨d, es, n, g1, g2, g3, g4, g5, g6⟩ := N.own
  have S' := S.post N.post
  have h0 : ∀ b, s.heap.get? b = none → F.h₀.get? b = none := fun b e => S.kept.none e
  have fr : ∀ b, s.heap.get? b = none → b ∉ c.l.filterMap (·.frame) := fun b e => S.rd.stack.none e
  have dL : d ≠ c.env.locals := fun q => fr d g4 (by rw [S.hl, List.filterMap_cons, S.hf, q]; exact .head _)
  refine S'.storeOwn (ow := .inst C fs) g1 (h0 _ N.x0) N.xI (fun v z => nomatch z) (fr _ N.x0) hx (fun h' e hk => ⟨d, es, n, e, hk d _ dL (fun v z => nomatch z) g2, g3, ⟨g5, .inl (h0 _ g4), fr _ g4⟩, g6⟩) h

theorem args_then {f : Value} {es : List Expr} {P : Heap → Prop} {pos : Pos} {X : PX → Prop} {QL : List PV → Prop} {R E : Value → Shared → Prop} (hk : Keeps c f) (h : EvL c ρ es QL X) (r : Rd c ρ I s) (ha : starEach es c.env = es.map fun e => (false, eval e c.env))
    (k : ∀ vs s' I' ps, Post c.l I s I' s' → Rd c ρ I' s' → RepAll I' vs ps → QL ps → wpAny c.M c.A (call f vs) R E s') (kE : ∀ e s' x, Exn c.l [] s e x s' → X x → E e s') :
    wpAny c.M c.A (callWith pos f [] (backTo pos (starEach es c.env)) (backToKw pos (keywordEach [] c.env))) R E s := by
  have e1 := backTo_map (pos := pos) ha
  rw [e1]
  have hp : ((es.map fun e => (false, eval e c.env)).any (·.1) || ([] : List (Option Str × Sem Value)).any (·.1.isNone)) = false := by simp
  refine callWith_of (P := fun h => ∃ k, (k = Keeper.frame ∨ k = Keeper.machine ∨ k = Keeper.boundFrame) ∧ Looks c.M h (keeperOf f) k) hp (fun h hk => hk) ?_
  have fin : ∀ vs s' I' ps, Post c.l I s I' s' → Rd c ρ I' s' → RepAll I' vs ps → QL ps →
      (∃ k, (k = Keeper.frame ∨ k = Keeper.machine ∨ k = Keeper.boundFrame) ∧ Looks c.M s'.heap (keeperOf f) k) ∧ wpAny c.M c.A (call f ([] ++ vs) []) R E s' :=
    fun vs s' I' ps a r' rv q => ⟨hk I' s' r'.none, k vs s' I' ps a r' rv q⟩
  cases es with
  | nil => exact evalArgs_nil3 (fin [] s I [] (Post.refl r.sub) r .nil h)
  | cons e es => exact evalArgs_plain (EvL.spliced rfl h r fin kE)

theorem Sx_new {x y : Str} {xp yp cp pos : Pos} {C : Addr} {es : List Expr} (hx : Slot1 c none x) (hC : NameIs c y (.ref C)) (hk : Keeps c (.ref C))
    (h : EvL c ρ es (fun ps => CallN c C ps fun fs => ∀ a, K.next ((x, .func a) :: ρ) (some (x, a, .inst C fs))) K.exc)
    (ha : starEach es c.env = es.map (fun e => (false, eval e c.env)) := by rfl) (hs : swapsWith (.Call (.Name y yp) es [] cp) (some (.Name x xp)) pos.line c.env = pure false := by rfl) :
    Sx c F ρ none (exec (.Assign [.Name x xp] (.Call (.Name y yp) es [] cp) pos) c.env) K := fun I s S => by
  refine wpAny_Assign_Name ?_ hs
  show wpAny c.M c.A (do callWith cp (← eval (.Name y yp) c.env) [] (backTo cp (starEach es c.env)) (backToKw cp (keywordEach [] c.env))) _ _ s
  refine wpAny_bind (name_is S.rd hC (args_then (P := fun _ => True) hk h S.rd ha (fun vs s₁ I₁ ps a r₁ rv q => ?_) fun e s' y a b => ⟨y, S.exn a, b⟩))
  refine wpAny_mono (q I₁ s₁ vs r₁.none rv (fun _ _ => False)) (fun v s₂ ⟨I₂, b, fs, e, N, hq⟩ => ?_) fun _ _ z => z.elim
  subst e
  exact (S.post a).storeNew N hx fun s₃ S₃ => ⟨I₂, a.le.trans N.post.le, _, _, S₃, hq b⟩

/-! clean contexts -/
noncomputable def EvP (c : Cx) (ρ : PEnv) (t : Sem Value) (Q : PV → Prop) : Prop := ∀ I s, Rd c ρ I s → wpP c.M c.A t (QV c I s Q) s
noncomputable def TrP (c : Cx) (ρ : PEnv) (t : Sem Bool) (Q : Bool → Prop) : Prop := ∀ I s, Rd c ρ I s → wpP c.M c.A t (QB c I s Q) s
theorem TrP.of {t : Sem Bool} {Q : Bool → Prop} (h : Tr c ρ t Q fun _ => False) : TrP c ρ t Q := fun I s r => wpP_of (wpAny_mono (h I s r) (fun _ _ q => q) fun _ _ ⟨_, _, q⟩ => q)
theorem TrP_not {e : Expr} {pos : Pos} {wh : Sem Value} {QT : Bool → Prop} (h : TrP c ρ (isTrue e c.env (eval e c.env)) (fun b => QT (!b))) : TrP c ρ (isTrue (.UnaryOp .Not e pos) c.env wh) QT := fun I s d => wpP_isTrue_not (wpP_mono (h I s d) fun _ _ ⟨I', a, q⟩ => ⟨I', a, q⟩)
theorem TrP_or {x : Expr} {rest : List Expr} {pos : Pos} {wh : Sem Value} {QT : Bool → Prop} (h : TrP c ρ (isTrue x c.env (eval x c.env)) (fun b => if b then QT true else TrP c ρ (isTrue (.BoolOp .Or rest pos) c.env wh) QT)) :
    TrP c ρ (isTrue (.BoolOp .Or (x :: rest) pos) c.env wh) QT := fun I s d => wpP_isTrue_or (wpP_mono (h I s d) fun b s' ⟨I', a, q⟩ => by
      cases b with
      | true => exact ⟨I', a, q⟩
      | false => exact wpP_mono (q I' s' (d.post a)) fun _ _ q => QB.post a q)
theorem argsP_then {f : Value} {es : List Expr} {pos : Pos} {QL : List PV → Prop} {R : Value → Shared → Prop} (hk : Keeps c f) (h : EvL c ρ es QL fun _ => False) (r : Rd c ρ I s) (ha : starEach es c.env = es.map fun e => (false, eval e c.env))
    (k : ∀ vs s' I' ps, Post c.l I s I' s' → Rd c ρ I' s' → RepAll I' vs ps → QL ps → wpP c.M c.A (call f vs) R s') :
    wpP c.M c.A (callWith pos f [] (backTo pos (starEach es c.env)) (backToKw pos (keywordEach [] c.env))) R s := by
  have e1 := backTo_map (pos := pos) ha
  rw [e1]
  have hp : ((es.map fun e => (false, eval e c.env)).any (·.1) || ([] : List (Option Str × Sem Value)).any (·.1.isNone)) = false := by simp
  refine wpP_callWith (P := fun h => ∃ k, (k = Keeper.frame ∨ k = Keeper.machine ∨ k = Keeper.boundFrame) ∧ Looks c.M h (keeperOf f) k) hp (fun h hk => hk) ?_
  have fin : ∀ vs s' I' ps, Post c.l I s I' s' → Rd c ρ I' s' → RepAll I' vs ps → QL ps →
      (∃ k, (k = Keeper.frame ∨ k = Keeper.machine ∨ k = Keeper.boundFrame) ∧ Looks c.M s'.heap (keeperOf f) k) ∧ wpP c.M c.A (call f ([] ++ vs) []) R s' :=
    fun vs s' I' ps a r' rv q => ⟨hk I' s' r'.none, k vs s' I' ps a r' rv q⟩
  refine wpP_of ?_
  cases es with
  | nil => exact evalArgs_nil3 (fin [] s I [] (Post.refl r.sub) r .nil h)
  | cons e es => exact evalArgs_plain (EvL.spliced rfl h r fin fun _ _ _ _ z => z)
theorem EvP_call {x : Str} {px pos : Pos} {es : List Expr} {f : Value} {Q : PV → Prop} (hx : NameIs c x f) (hk : Keeps c f) (h : EvL c ρ es (fun ps => CallP c f ps Q) fun _ => False)
    (hs : starEach es c.env = es.map (fun e => (false, eval e c.env)) := by rfl) : EvP c ρ (eval (.Call (.Name x px) es [] pos) c.env) Q := fun I s r => by
  show wpP c.M c.A (do callWith pos (← eval (.Name x px) c.env) [] (backTo pos (starEach es c.env)) (backToKw pos (keywordEach [] c.env))) _ s
  refine wpP_leaf (name_is r hx (argsP_then hk h r hs fun vs s' I' ps a r' rv q => ?_))
  exact wpP_mono (q I' s' vs r'.none rv) fun _ _ q => QV.post a q
theorem TrP_call {x : Str} {px pos : Pos} {es : List Expr} {QT : Bool → Prop} (h : EvP c ρ (eval (.Call (.Name x px) es [] pos) c.env) (fun p => TV c p QT)) : TrP c ρ (isTrue (.Call (.Name x px) es [] pos) c.env (eval (.Call (.Name x px) es [] pos) c.env)) QT := fun I s r => by
  refine wpP_isTrue_plain (wpP_mono (h I s r) fun v s' ⟨I', p, a, rv, q⟩ => ?_)
  exact wpAny_mono (q I' s' v (fun _ => False) (r.post a).none rv) (fun _ _ q => QB.post a q) fun _ _ ⟨_, _, z⟩ => z

theorem SxP_cons {st : Stmt} {rest : List Stmt} (h : SxP c F ρ σ (exec st c.env) { K with next := fun ρ' σ' => SxP c F ρ' σ' (execs rest c.env) K }) : SxP c F ρ σ (execs (st :: rest) c.env) K := fun I s S =>
  wpP_execs_cons (wpP_mono (h I s S) fun fl s' ⟨I', hle, q⟩ => by
    cases fl with
    | next =>
      obtain ⟨ρ', σ', S', h'⟩ := q
      exact wpP_mono (h' I' s' S') fun _ _ ⟨J, hle', z⟩ => ⟨J, hle.trans hle', z⟩
    | brk => exact ⟨I', hle, q⟩
    | cont => exact ⟨I', hle, q⟩
    | ret v => exact ⟨I', hle, q⟩)
theorem SxP_if {t : Expr} {b o : List Stmt} {pos : Pos} (h : TrP c ρ (isTrue t c.env (eval t c.env)) (fun z => if z then SxP c F ρ σ (execs b c.env) K else SxP c F ρ σ (execs o c.env) K)) : SxP c F ρ σ (exec (.If t b o pos) c.env) K := fun I s S =>
  wpP_If (wpP_mono (h I s S.rd) fun z s' ⟨I', a, q⟩ => by
    cases z <;> exact wpP_mono (q I' s' (S.post a)) fun _ _ ⟨J, hle, y⟩ => ⟨J, a.le.trans hle, y⟩)
theorem SxP_assign {x : Str} {px pos : Pos} {e : Expr} (hx : Slot1 c σ x) (h : EvP c ρ (eval e c.env) (fun p => K.next ((x, p) :: ρ) σ)) (hs : swapsWith e (some (.Name x px)) pos.line c.env = pure false := by rfl) :
    SxP c F ρ σ (exec (.Assign [.Name x px] e pos) c.env) K := fun I s S =>
  wpP_Assign_Name (wpP_mono (h I s S.rd) fun v s' ⟨I', p, a, r, q⟩ => (S.post a).store r hx.1 hx.2 fun s'' S'' _ => ⟨I', a.le, _, _, S'', q⟩) hs
theorem SxP_new {x y : Str} {xp yp cp pos : Pos} {C : Addr} {es : List Expr} (hx : Slot1 c none x) (hC : NameIs c y (.ref C)) (hk : Keeps c (.ref C))
    (h : EvL c ρ es (fun ps => CallNP c C ps fun fs => ∀ a, K.next ((x, .func a) :: ρ) (some (x, a, .inst C fs))) fun _ => False)
    (ha : starEach es c.env = es.map (fun e => (false, eval e c.env)) := by rfl) (hs : swapsWith (.Call (.Name y yp) es [] cp) (some (.Name x xp)) pos.line c.env = pure false := by rfl) :
    SxP c F ρ none (exec (.Assign [.Name x xp] (.Call (.Name y yp) es [] cp) pos) c.env) K := fun I s S => by
  refine wpP_Assign_Name ?_ hs
  show wpP c.M c.A (do callWith cp (← eval (.Name y yp) c.env) [] (backTo cp (starEach es c.env)) (backToKw cp (keywordEach [] c.env))) _ s
  refine wpP_leaf (name_is S.rd hC (argsP_then hk h S.rd ha fun vs s₁ I₁ ps a r₁ rv q => ?_))
  refine wpP_mono (q I₁ s₁ vs r₁.none rv) fun v s₂ ⟨I₂, b, fs, e, N, hq⟩ => ?_
  subst e
  exact (S.post a).storeNew N hx fun s₃ S₃ => ⟨I₂, a.le.trans N.post.le, _, _, S₃, hq b⟩

theorem SxP_setattr {x name : Str} {a C : Addr} {fs : List (Str × PV)} {xp ap pos : Pos} {e : Expr} (hS : SetA c.W.K C name) (hz : fs.length ≤ 100) (h : EvP c ρ (eval e c.env) (fun p => K.next ρ (some (x, a, .inst C (putF name p fs)))))
    (hs : swapsWith e (some (.Attribute (.Name x xp) name ap)) pos.line c.env = pure false := by rfl) (hd : (x == ("__debug__" : Str)) = false := by decide) (hn : (x == ("__classdict__" : Str)) = false := by decide) :
    SxP c F ρ (some (x, a, .inst C fs)) (exec (.Assign [.Attribute (.Name x xp) name ap] e pos) c.env) K := fun I s S => by
  refine wpP_Assign_Attribute (wpP_mono (h I s S.rd) fun v s' ⟨I', p, pp, rv, q⟩ => ?_) hs
  have S' := S.post pp
  refine own_name S' ?_ hd hn
  obtain ⟨hx, ⟨d, es, n, g1, g2, g3, g4, g5⟩, hm⟩ := S'.owned x a _ rfl
  obtain ⟨l1, l2⟩ := RepFs.looks (name := name) g3
  have hlen := RepFs.length g3
  refine setAttr_exact S'.rd.inK g1 g2 hS l1 (by omega) fun h' tk hsh tkey n' e1 e2 => ?_
  exact ⟨I', pp.le, ρ, _, S'.dict g1 g2 g4 g5 e1 e2 (g3.put rv), q⟩
theorem callP_bytearray {l : List Int} {Q : PV → Prop} (hz : l.length ≤ 2 ^ 20) (q : Q (.barr l)) : CallP c (.type "bytearray") [.bytes l] Q := fun I s vs d rv => by
  refine RepAll.e1 rv fun r => ?_
  refine Rep.bytesE r fun b t e0 => ?_
  subst e0
  ·
    rw [octs_length] at hz
    refine callP_ba d.ok.guards hz fun h' e k => ?_
    have p := Post.keeps (l := c.l) (s' := { s with heap := h' }) d.sub k rfl rfl
    refine ⟨I.put s.heap.objs.size { cls := .type "bytearray", data := .bytearray b }, .barr (octs b), ⟨Im.le_put d.sub.none_new _, Im.put2_sub p.sub e, fun a o q => ?_, p.kept, rfl, rfl⟩, .barr (Im.put_self _ _ _) ⟨rfl, rfl, _, rfl⟩, q⟩
    by_cases z : a = s.heap.objs.size
    · exact .inr (z ▸ get?_size _)
    · rw [Im.put_ne _ _ z] at q; exact .inl q

/-! loops -/
noncomputable def LoopP (c : Cx) (F : Fm) (x : Str) (body : List Stmt) (K : PK) : List PV → PEnv → Ow → Prop
  | [], ρ, σ => K.next ρ σ
  | p :: ps, ρ, σ => Slot1 c σ x ∧ SxP c F ((x, p) :: ρ) σ (execs body c.env) (K.turn (LoopP c F x body K ps))
theorem for_turnsP {x : Str} {px : Pos} {body : List Stmt} {it : Addr} {J I : Im} {items : List PV} {T : Nat → Heap → Prop} {s : Shared}
    (W : Wk c it J items T) (S : St c F ρ σ I s) (hJ : Le J I) (hT : T 0 s.heap) (h0 : F.h₀.get? it = none) (hI : I it = none) (h : LoopP c F x body K items ρ σ) :
    codeP c.M c.A (.forLoop (.Name x px) (.ref it) body [] c.env) (QS c F I K) s := by
  have Z := Turns.of W S hJ h0 hI
  refine codeP_forLoop (ForInv c F I (LoopP c F x body K) it T items) (fun k s' hi => ?_) (items.length + 1) ⟨0, ρ, σ, I, rfl, Nat.zero_le _, ⟨.refl _, S, hT, hI⟩, h⟩
  obtain ⟨i, ρ', σ', I', rfl, hi, B, hL⟩ := hi
  rcases Nat.lt_or_eq_of_le hi with hlt | rfl
  · refine Z.step (x := x) (px := px) B hlt (fun p e => ?_) (fun v s₁ z => z) fun p s₂ I₂ e hle S₃ back => ?_
    · rw [e] at hL; exact hL.1
    · rw [e] at hL
      refine wpP_mono (hL.2 _ s₂ S₃) fun fl s₄ q => ?_
      have z := Turns.flow hlt hle back q
      cases fl with
      | next => exact ⟨_, less_turn hlt, z⟩
      | cont => exact ⟨_, less_turn hlt, z⟩
      | brk => exact z
      | ret v => exact z
  · rw [List.drop_length] at hL
    exact Z.end B fun s₁ S₁ => ⟨I', B.le, ρ', σ', S₁, hL⟩
theorem SxP_for {x : Str} {px pos : Pos} {iter : Expr} {body : List Stmt} (h : Ev c ρ (eval iter c.env) (fun p => ∃ items, Iters c p items ∧ LoopP c F x body K items ρ σ) fun _ => False)
    (hs : ∀ v, foldedSetIterable iter c.env v = pure v := by intro _; rfl) : SxP c F ρ σ (exec (.For (.Name x px) iter body [] pos) c.env) K := fun I s S => by
  refine wpP_For (h.then S.rd (fun v s' I' p a r' rv ⟨items, hi, hl⟩ => ?_) fun _ _ _ _ z => z) hs
  have S' := S.post a
  refine hi I' s' v _ _ r'.ok.handled r'.sub rv fun h' T W hT hk => ?_
  have S'' : St c F ρ σ I' { s' with heap := h' } := S'.keeps hk rfl rfl
  have hI : I' s'.heap.objs.size = none := r'.sub.none_new
  have h0 : F.h₀.get? s'.heap.objs.size = none := S'.kept.none (get?_size _)
  exact codeP_mono (for_turnsP W S'' (.refl _) hT h0 hI hl) fun f s'' ⟨J, hle, z⟩ => ⟨J, a.le.trans hle, z⟩
end
end
section
open PySem PySem.W PySem.Calls PyProof.Rows
structure ExcC (K : Frag) (S : Setting) (C fI : Addr) : Prop where
  cls : ∃ oc od cd sl, K.lookup C = some ⟨oc, od, .cls cd, sl⟩ ∧ cd.hasDel = false ∧ cd.mro.isEmpty = false
  call : specialIn K (.ref C) "__call__" = some (some (.builtin "type.__call__"))
  typ : instIn K (.ref C) (.type "type") = some true
  made : peek K S (Bind.madeBy (.ref C)) = some (some "Exception.__new__")
  check : ∀ v, peek K S (checkBuiltinCall "Exception.__new__" ⟨[.ref C, v], []⟩) = some ()
  self : subIn K (.ref C) (.ref C) = some true
  exc : subIn K (.ref C) (.type "Exception") = some true
  base : subIn K (.ref C) (.type "BaseException") = some true
  noAttr : subIn K (.ref C) (.type "AttributeError") = some false
  noName : subIn K (.ref C) (.type "NameError") = some false
  here : peek K S (Bind.madeHere "BaseException.__new__" (.ref C)) = some ()
  find : findIn K (.ref C) "__init__" = some (some (.ref fI))
  fn : typeIn K (.ref fI) = some (.type "function")
  meta_ : typeIn K (.ref C) = some (.type "type")

noncomputable abbrev excObj (C t : Addr) : Obj := { cls := .ref C, data := .fields #[.ref t, .none, .none, .none, .bool false, .none] }
section
variable {prog : Program} {w : World} {A : Around} {K : Frag} {C fI : Addr} {R : Result → Shared → Prop} {h : Heap} {g : Array GenState} {d : Drawn} {t : Nat} {os : OsState}
theorem exc_new (X : K.In h) (F : ExcC K ⟨prog, w.params⟩ C fI) {v : Value}
    (hq : R (.ok (.ret (.ref (h.objs.size + 1)))) ⟨(h.push { cls := .type "tuple", data := .seq #[v] }).push (excObj C h.objs.size), g, d, t, os⟩) :
    codeAny (model prog w) A (.builtin "Exception.__new__" ⟨[.ref C, v], []⟩) R ⟨h, g, d, t, os⟩ := by
  have FE := PySem.F.excBase_Exception
  have hends := FE.ends
  obtain ⟨oc, od, cd, sl, hC, e1, e2⟩ := F.cls
  refine codeAny_builtinAt FE.entry ?_
  unfold Builtin.«BaseException.__new__»
  refine PySem.wpAt_bind ?_
  show PySem.wpAt _ _ _ (stack >>= _) _ _ _
  refine PySem.wpAt_bind (PySem.wpAt_stack fun p below => PySem.wpAt_of_wpAny ?_)
  wp_walk
  refine PySem.wpAt_of_wpAny ?_
  rw [FE.owner]
  have oX := X _ _ hC
  have LT : Looks (model prog w) h (isType (.ref C)) true := by
    intro A' Q' E' s' k q
    unfold isType loadHead
    exact wpAny_bind (wpAny_loadPart (k _ _ oX) (wpAny_pure q))
  refine wpAny_bind (LT.at ?_)
  rw [if_neg (by decide)]
  refine wpAny_bind ((looks_subIn X F.exc).at ?_)
  rw [if_neg (by decide)]
  refine wpAny_bind ((Looks.of_peek X F.here).at ?_)
  k_delta "ownAtBirth"
  refine wpAny_bind (wpAny_bind ((looks_subIn X F.noAttr).at ?_))
  rw [if_neg (by decide)]
  refine wpAny_bind ((looks_subIn X F.noName).at ?_)
  rw [if_neg (by decide)]
  refine wpAny_pure ?_
  refine wpAny_bind (wpAny_newTuple ?_ (by show 1 ≤ sizeLine; decide))
  refine wpAny_bind ?_
  show wpAny _ _ (newObj (.ref C) (.fields #[.ref h.objs.size, .none, .none, .none, .bool false, .none])) _ _ _
  unfold newObj
  dsimp only
  refine wpAny_ite (KBy.ite_no (show ¬ (6 > sizeLine + 2) by decide) ?_)
  unfold newObjAsIs
  refine wpAny_bind (wpAny_alloc (wpAny_bind ?_))
  unfold classHasDel
  refine wpAny_bind (wpAny_load (Heap.get?_push_of_some _ (Heap.get?_push_of_some _ oX)) ?_)
  dsimp only
  refine wpAny_pure ?_
  rw [e1]
  rw [if_neg (by decide)]
  refine wpAny_pure (wpAny_pure ?_)
  show R _ _
  rw [Heap.size_push]
  exact hq

theorem any_neg {α : Type} {M : Model} {A : Around} {s : Shared} {c : Prop} [Decidable c] {a b : Sem α} {Q : α → Shared → Prop} {E : Value → Shared → Prop} (hc : ¬ c) (h : wpAny M A b Q E s) : wpAny M A (if c then a else b) Q E s := by rw [if_neg hc]; exact h
theorem any_pos {α : Type} {M : Model} {A : Around} {s : Shared} {c : Prop} [Decidable c] {a b : Sem α} {Q : α → Shared → Prop} {E : Value → Shared → Prop} (hc : c) (h : wpAny M A a Q E s) : wpAny M A (if c then a else b) Q E s := by rw [if_pos hc]; exact h
theorem make_exc (X : K.In h) (F : ExcC K ⟨prog, w.params⟩ C fI) {v : Value}
    (hq : codeAny (model prog w) (A.under (.builtin "type.__call__" ⟨[.ref C, v], []⟩)) (.call (.ref fI) ⟨[.ref (h.objs.size + 1), v], []⟩) (InitBack (h.objs.size + 1) R) ⟨(h.push { cls := .type "tuple", data := .seq #[v] }).push (excObj C h.objs.size), g, d, t, os⟩) :
    codeAny (model prog w) A (.call (.ref C) ⟨[v], []⟩) R ⟨h, g, d, t, os⟩ := by
  obtain ⟨oc, od, cd, sl, hC, e1, e2⟩ := F.cls
  have oX := X _ _ hC
  have hc : clsIn K C = some cd := by unfold clsIn; rw [hC]
  refine codeAny_of_tree ?_
  show wpAny _ _ (callAny (.ref C) _) _ _ _
  refine wpAny_bind (m := load C) (wpAny_load oX ?_)
  show wpAny _ _ (callAny.viaDunder (.ref C) _) _ _ _
  unfold callAny.viaDunder
  refine wpAny_bind ((looks_specialIn X F.call).at ?_)
  dsimp only
  rw [tc_bind]
  refine wpAny_bind (wpAny_pure (wpAny_bind (wpAny_pure ?_)))
  refine wpAny_pure (a := Fin.again (.call (.builtin "type.__call__") ⟨[.ref C, v], []⟩)) (And.intro rfl ?_)
  refine codeAny_call_builtin_at (Code.quiet_builtin _ (by decide +kernel)) entry_typeCall (check_slot tc_kind tc_split (looks_instIn X F.typ) (tc_args _ _ _) ?_)
  unfold Builtin.«type.__call__»
  have hm : Looks (model prog w) h (mroOf (.ref C)) cd.mro := (looks_clsIn X hc).andThen .now
  refine any_neg (by simp) ?_
  refine wpAny_bind (hm.at ?_)
  refine any_neg (by rw [e2]; decide) ?_
  refine wpAny_bind ((Looks.of_peek X F.made).at ?_)
  refine wpAny_bind (wpAny_pure ?_)
  refine wpAny_bind (wpAny_holding (wpAny_call ?_))
  refine codeAny_call_builtin_code (Code.quiet_builtin _ (by decide +kernel)) ((Looks.of_peek X (F.check v)).at ?_)
  refine exc_new X F ?_
  have k : ∀ b o, h.get? b = some o → ((h.push { cls := .type "tuple", data := .seq #[v] }).push (excObj C h.objs.size)).get? b = some o := fun b o e => Heap.get?_push_of_some _ (Heap.get?_push_of_some _ e)
  have hx : ((h.push { cls := .type "tuple", data := .seq #[v] }).push (excObj C h.objs.size)).get? (h.objs.size + 1) = some (excObj C h.objs.size) := by
    have := Heap.get?_push_size (h.push { cls := .type "tuple", data := .seq #[v] }) (o := excObj C h.objs.size) rfl
    rwa [Heap.size_push] at this
  have t1 : Looks (model prog w) ((h.push { cls := .type "tuple", data := .seq #[v] }).push (excObj C h.objs.size)) (typeOf (.ref (h.objs.size + 1))) (.ref C) := (Looks.ld hx).andThen .now
  have L1 : Looks (model prog w) ((h.push { cls := .type "tuple", data := .seq #[v] }).push (excObj C h.objs.size)) (isInstance (.ref (h.objs.size + 1)) (.ref C)) true := t1.andThen ((looks_subIn X F.self).keeps k)
  have i1 := (looks_findIn (M := model prog w) X F.find).keeps k
  have b1 := (bind_fn (M := model prog w) X (.ref (h.objs.size + 1)) F.fn).keeps k
  show wpAny _ _ (isInstance _ _ >>= _) _ _ _
  refine wpAny_bind (L1.at ?_)
  refine any_neg (by decide) ?_
  show wpAny _ _ (holding _ (callSpecial? _ _ _ _) >>= _) _ _ _
  unfold callSpecial? specialOf
  refine wpAny_bind (wpAny_holding (wpAny_bind (wpAny_bind (t1.at (i1.at ?_)))))
  dsimp only
  refine wpAny_holding (wpAny_bind (b1.at ?_))
  refine wpAny_bind (wpAny_call (codeAny_mono hq fun r s' z => ?_))
  rcases r with e | (v | _ | _ | _) <;> first | exact z | exact z.elim | skip
  obtain ⟨rfl, z⟩ := z
  exact wpAny_pure (wpAny_pure z)
end
end
section
open PySem PySem.W PySem.Calls PyProof.Rows Builtin Builtin.ObjectAttr
structure SetX (K : Frag) (C : Addr) (name : Str) : Prop where
  set : findIn K (.ref C) "__setattr__" = some (some (.builtin "object.__setattr__"))
  cls : ∃ cd, clsIn K C = some cd ∧ cd.mro.isEmpty = false ∧ cd.mro.contains (.type "object") = true ∧ cd.hasDict = true ∧ ∀ self, refuseLoop self "__setattr__" cd.mro = pure ()
  taker : takerIn K C name = some none

section
variable {prog : Program} {w : World} {A : Around} {E : Value → Shared → Prop} {s : Shared} {K : Frag} {x C dx : Addr} {name : Str} {v : Value} {R : Result → Shared → Prop}
theorem osa_openX {ox : Obj} {od : Option Obj} {tk : Tok} (X : K.In s.heap) (I : InstAt s.heap x ox C od) (F : SetX K C name)
    (h : ∀ b, wpAny (model prog w) A.in1 (storeInOwnDict (.ref x) (.ref C) (.str name tk) name v b)
      (fun fin s' => match fin with | .done f => R (.ok f) s' | .again c' => c'.quiet = true ∧ codeAny (model prog w) A c' R s') (fun e s' => R (.error e) s') s) :
    codeAny (model prog w) A (.call (.builtin "object.__setattr__") ⟨[.ref x, .str name tk, v], []⟩) R s := by
  have SF := PySem.F.store_object
  obtain ⟨cd, hc, ne, hob, hdct, ho⟩ := F.cls
  have ht := F.taker
  have sub : Looks (model prog w) s.heap (isInstance (.ref x) (.type "object")) true := I.type.andThen (looks_mroIn X (by unfold mroIn; rw [hc, Option.bind_some, if_neg (by rw [ne]; decide), hob]))
  refine codeAny_call_builtin SF.slot.plain SF.entry (@check_slot (model prog w) _ _ s "object.__setattr__" "object" "__setattr__" (.ref x) [.str name tk, v] [] _ SF.kind SF.split sub (SF.args (.ref x) (.str name tk) v) ?_)
  obtain ⟨attr, ha, hr⟩ := Option.bind_eq_some_iff.mp ht
  have hm : Looks (model prog w) s.heap (mroOf (.ref C)) cd.mro := (looks_clsIn X hc).andThen .now
  have L3 : Looks (model prog w) s.heap (storeTaker? attr) none := by
    cases attr with
    | none => exact .now
    | some a =>
      obtain ⟨b, hb, e⟩ := Option.map_eq_some_iff.mp hr
      refine (looks_takesIn X hb).andThen ?_
      cases b
      · exact .now
      · cases e
  rw [osa_eq, refuse_eq]
  refine wpAny_bind (wpAny_bind (I.type.here (wpAny_bind (hm.here ?_))))
  rw [ho]
  refine wpAny_pure (wpAny_bind (I.type.here (wpAny_bind ((looks_findIn X ha).here (wpAny_bind (L3.here ?_))))))
  exact h _

theorem putL_len (hsh : Int) (k : Value) (es : List DictEntry) : (putL name hsh k v es).length ≤ es.length + 1 := by
  induction es with
  | nil => exact Nat.le_refl _
  | cons a r ih => unfold putL; split <;> simp <;> omega

theorem storeDict {h : Heap} {g : Array GenState} {dr : Drawn} {tt : Nat} {os : OsState} {es : List DictEntry} {n : Nat} {Q : Fin → Shared → Prop} {key : Tok} (hd : h.get? dx = some (dictOf es n)) (hl : (getL name es).isSome = true) (hz : es.length ≤ 900)
    (hq : ∀ h' tk hsh tkey n', h'.get? dx = some (dictOf (putL name hsh (.str name tkey) v es) n') → (∀ b, b ≠ dx → h'.get? b = h.get? b) → Q (.done (.ret .none)) ⟨h', g, dr, tk, os⟩) :
    wpAny (model prog w) A (storeInDict dx (.str name key) name v) Q E ⟨h, g, dr, tt, os⟩ := by
  refine wpAny_bind (wpAny_pure (wpAny_bind ?_))
  unfold nsSet
  refine wpAny_bind (wpAny_bind (wpAny_askSetting (wpAny_pure (wpAny_bind (wpAny_mkText (wpAny_bind (wpAny_loadPart hd ?_)))))))
  have hl' : (lookIn name (dictOf es n)).isSome = true := hl
  generalize hod : dictOf es n = od at hl' hd ⊢
  unfold lookIn at hl'
  split at hl'
  · rename_i es₀ n₀ q
    rw [q]
    dsimp only
    have c : (!es₀.any (·.key.isStr name) && es₀.any (·.refKey)) = false := by
      rw [← Array.any_toList, ← Array.any_toList]
      split at hl'
      · rename_i en he
        rw [List.any_eq_true.mpr ⟨en, List.mem_of_find?_eq_some he, List.find?_some he⟩]; rfl
      · split at hl'
        · cases hl'
        · rename_i z; rw [Bool.not_eq_true] at z; rw [z, Bool.and_false]
    rw [aRefKeyMayBeTheName_at, c]
    subst hod
    refine wpAny_updatePart hd ?_
    have e := putName_dict name (PyData.keyHash w.params name) (.str name tt) v es n
    have D' := Heap.get?_update_self (Obj.putName name (PyData.keyHash w.params name) (.str name tt) v) hd (by rw [e]; rfl)
    rw [e] at D'
    have hlen := putL_len (name := name) (v := v) (PyData.keyHash w.params name) (.str name tt) es
    refine wpAny_bind (wpAny_lookBehind D' (pastItsLine_dict (by rw [List.size_toArray, sizeLine_eq]; omega)) ?_)
    refine wpAny_pure (hq _ _ _ _ _ D' fun b hb => Heap.get?_update_other _ _ (Ne.symm hb))
  · cases hl'

theorem setX_more {ox : Obj} {Q : Unit → Shared → Prop} {es : List DictEntry} {n : Nat} (X : K.In s.heap) (hx : s.heap.get? x = some ox) (hcl : ox.cls = .ref C) (hno : notCls ox = true) (hdict : ox.dict = some dx) (hd : s.heap.get? dx = some (dictOf es n)) (F : SetX K C name) (hl : (getL name es).isSome = true) (hz : es.length ≤ 900)
    (h : ∀ h' tk hsh tkey n', h'.get? dx = some (dictOf (putL name hsh (.str name tkey) v es) n') → (∀ b, b ≠ dx → h'.get? b = s.heap.get? b) → Q () { s with heap := h', toks := tk }) :
    wpAny (model prog w) A (setAttr (.ref x) name v) Q E s := by
  obtain ⟨hh, g, dr, tt, os⟩ := s
  have I : InstAt hh x ox C (some (dictOf es n)) := ⟨hx, hcl, hno, by rw [hdict]; exact hd⟩
  refine set_plain (s := ⟨hh, g, dr, tt, os⟩) X I F.set ?_
  refine osa_openX (s := ⟨hh, g, dr, tt + 1, os⟩) X I F fun b => ?_
  obtain ⟨cd, hc, _, _, hd', _⟩ := F.cls
  refine wpAny_bind (wpAny_pure (wpAny_bind (wpAny_bind (wpAny_loadPart hx ?_))))
  rw [hcl]
  refine wpAny_bind ((looks_clsIn X hc).at ?_)
  rw [hd', hdict]
  refine wpAny_pure (a := some dx) ?_
  exact storeDict hd hl hz fun h' tk hsh tkey n' a b => h h' tk hsh tkey n' a b

theorem setX_new {ox : Obj} {Q : Unit → Shared → Prop} (X : K.In s.heap) (hx : s.heap.get? x = some ox) (hcl : ox.cls = .ref C) (hno : notCls ox = true) {vs : Array Value} (hdat : ox.data = .fields vs) (hdict : ox.dict = none) (hfr : ox.isFreed = false) (F : SetX K C name)
    (h : ∀ h' tk hsh tkey n', h'.get? x = some { ox with dict := some s.heap.objs.size } → h'.get? s.heap.objs.size = some (dictOf (putL name hsh (.str name tkey) v []) n') → (∀ b, b ≠ x → b ≠ s.heap.objs.size → h'.get? b = s.heap.get? b) → Q () { s with heap := h', toks := tk }) :
    wpAny (model prog w) A (setAttr (.ref x) name v) Q E s := by
  obtain ⟨hh, g, dr, tt, os⟩ := s
  have I : InstAt hh x ox C none := ⟨hx, hcl, hno, by rw [hdict]; trivial⟩
  refine set_plain (s := ⟨hh, g, dr, tt, os⟩) X I F.set ?_
  refine osa_openX (s := ⟨hh, g, dr, tt + 1, os⟩) X I F fun b => ?_
  obtain ⟨cd, hc, _, _, hd', _⟩ := F.cls
  refine wpAny_bind (wpAny_pure (wpAny_bind (wpAny_bind (wpAny_loadPart hx ?_))))
  rw [hcl]
  refine wpAny_bind ((looks_clsIn X hc).at ?_)
  rw [hd', hdict]
  refine any_neg Bool.false_ne_true ?_
  refine any_neg Bool.false_ne_true ?_
  have hx' := Heap.get?_push_of_some (dictOf [] 0) hx
  have hne : x ≠ hh.objs.size := Nat.ne_of_lt (Heap.lt_size hx)
  have hd₀ : (hh.push (dictOf [] 0)).get? hh.objs.size = some (dictOf [] 0) := Heap.get?_push_size _ rfl
  rw [hdat]
  refine wpAny_bind (wpAny_alloc (wpAny_bind ?_))
  refine wpAny_update hx' (wpAny_pure ?_)
  dsimp only
  have hd₁ : ((hh.push (dictOf [] 0)).update x fun o => { o with dict := some hh.objs.size }).get? hh.objs.size = some (dictOf [] 0) := by rw [Heap.get?_update_other _ _ hne]; exact hd₀
  have hx₁ : ((hh.push (dictOf [] 0)).update x fun o => { o with dict := some hh.objs.size }).get? x = some { ox with dict := some hh.objs.size } := Heap.get?_update_self _ hx' (Obj.isFreed_of_fields (by exact hdat))
  refine storeDict hd₁ (by rfl) (by decide) fun h' tk hsh tkey n' a1 a2 => ?_
  refine h h' tk hsh tkey n' ((a2 x hne).trans hx₁) a1 fun b hb1 hb2 => ?_
  rw [a2 b hb2, Heap.get?_update_other _ _ (Ne.symm hb1)]
  exact Heap.get?_push_ne _ _ _ hb2

end
end
section
open PySem PySem.W PySem.Calls PyProof.Rows Builtin Builtin.ObjectAttr
section
variable {prog : Program} {w : World} {A : Around} {E : Value → Shared → Prop} {s : Shared} {K : Frag} {S : Setting} {fI x C dx : Addr} {name : Str} {v : Value} {R : Result → Shared → Prop}
theorem ei_check {M : Model} {h : Heap} {g : Array GenState} {dr : Drawn} {tt : Nat} {os : OsState} {Q : Unit → Shared → Prop} {ox : Obj} {oc : Value} {odc : Option Addr} {cd : ClassData} {sl : Array (Option Value)} (hx : h.get? x = some ox) (hcl : ox.cls = .ref C) (hC : h.get? C = some ⟨oc, odc, .cls cd, sl⟩) (L : Looks M h (isInstance (.ref x) (.type "Exception")) true) (hq : Q () ⟨h, g, dr, tt, os⟩) : wpAny M A (checkBuiltinCall "Exception.__init__" ⟨[.ref x, v], []⟩) Q E ⟨h, g, dr, tt, os⟩ := by
  have F := PySem.F.excCall_Exception
  simp only [checkBuiltinCall, F.initKind, F.initSplit, F.initRow]
  refine wpAny_bind (L.at ?_)
  simp only [Bool.not_true, Bool.false_eq_true, if_false]
  repeat (first | (with_reducible refine wpAny_loadPart_at hx ?_; rw [hcl]) | (with_reducible refine wpAny_loadPart_at hC ?_) | wp_step)
  exact hq
theorem exc_base_init {t0 : Addr} {Q : Value → Shared → Prop} (X : K.In s.heap) (F0 : ExcC K S C fI) (hsub : subIn K (.ref C) (.type "Exception") = some true) (hx : s.heap.get? x = some (excObj C t0))
    (h : ∀ h' t1 tk, h'.get? x = some (excObj C t1) → (∀ b o, b ≠ x → s.heap.get? b = some o → h'.get? b = some o) → Q .none { s with heap := h', toks := tk }) :
    wpAny (model prog w) A (call (.builtin "Exception.__init__") [.ref x, v]) Q E s := by
  obtain ⟨hh, g, dr, tt, os⟩ := s
  obtain ⟨oc, odc, cd, sl, hC, _, _⟩ := F0.cls
  have F := PySem.F.excCall_Exception
  have L : Looks (model prog w) hh (isInstance (.ref x) (.type "Exception")) true := ((Looks.ld hx).andThen .now).andThen (looks_subIn X hsub)
  refine wpAny_call (codeAny_call_builtin F.init.plain F.initEntry (ei_check hx rfl (X _ _ hC) L ?_))
  unfold Builtin.«BaseException.__init__» Builtin.BaseException.bexcPut
  refine any_neg (by simp) ?_
  refine wpAny_bind (wpAny_newTuple ?_ (by show 1 ≤ sizeLine; decide))
  have hx' := Heap.get?_push_of_some { cls := .type "tuple", data := .seq #[v] } hx
  refine wpAny_bind (wpAny_bind (wpAny_field hx' rfl rfl (wpAny_bind (wpAny_setField hx' rfl (Nat.zero_lt_succ _) ?_))))
  show wpAny (model prog w) A.in1 (letGo [Value.ref t0]) _ _ _
  repeat wp_step
  refine h _ hh.objs.size _ (Heap.get?_update_self _ hx' rfl) fun b o hb e => ?_
  rw [Heap.get?_update_other _ _ (Ne.symm hb)]; exact Heap.get?_push_of_some _ e
end
end
section
open PySem PySem.W PySem.Calls PyProof.Rows Builtin Builtin.ObjectAttr
theorem method_typeX {prog : Program} {w : World} {A : Around} {E : Value → Shared → Prop} {s : Shared} {K : Frag} {name : Str} {v : Value} {T : String} {pl : Sem Bool} {Q : Value × List Value → Shared → Prop} (X : K.In s.heap) (ht : typeOf (.type T) = pure (.type "type")) (hs : Manifest.isStub T = false)
    (e : findCls K (.type T) (.type "type") name = some (.val v)) (hh : handedIn v = true) (h : Q (v, []) { s with toks := s.toks + 1 }) : wpAny (model prog w) A (getMethod (.type T) name pl) Q E s := by
  have hstub : opaqueClassAbove (.type T) = pure none := by unfold opaqueClassAbove; dsimp only; rw [hs]; rfl
  have L0 : Looks (model prog w) s.heap (typeOf (.type T)) (.type "type") := Looks.of_pure ht
  have hg : findIn K (.type "type") "__getattribute__" = some (some (.builtin "type.__getattribute__")) := type_tga
  unfold getMethod specialOf
  refine wpAny_bind (wpAny_bind (L0.here ((looks_findIn X hg).here ?_)))
  dsimp only
  rw [if_pos canon_tga]
  refine wpAny_bind (wpAny_mono (Q := fun v => Q (v, [])) (E := E) ?_ (fun _ _ z => wpAny_pure z) fun _ _ z => z)
  have LO : Looks (model prog w) s.heap (opaqueClassAbove (.type T)) none := Looks.of_pure hstub
  refine cls_open X LO L0 hg (looks_hook X (r := none) (by rfl)) (by show subIn K _ _ = _; rfl) e
    (wpAny_pure (by show wpAny _ _ (handedOut v) _ _ _; rw [handedOut_of hh]; exact wpAny_pure h))

theorem name_exact {c : Cx} {ρ : PEnv} {I : Im} {s : Shared} {x : Str} {a : Addr} {pos : Pos} {R E : Value → Shared → Prop} (r : Rd c ρ I s) (hp : ρ.lookup x = some (.func a)) (h : R (.ref a) s) (hd : (x == ("__debug__" : Str)) = false := by decide) (hn : (x == ("__classdict__" : Str)) = false := by decide) :
    wpAny c.M c.A (eval (.Name x pos) c.env) R E s := by
  obtain ⟨v, hv, hr⟩ := r.vars x _ hp
  cases hr
  refine wpAny_Name ?_ hd
  rcases hv with ⟨hk, m, hm, e⟩ | ⟨hk | hk, cl, hc, hcell⟩
  · exact wpAny_loadName_local r.ok.kind hk hm e h
  · exact wpAny_loadName_cell r.ok.kind hk hc hcell h
  · exact wpAny_loadName_free r.ok.kind hk hc hcell h hn

noncomputable abbrev excBody (a1 a2 a3 a4 a5 a6 b1 b2 b3 b4 c1 c2 c4 c5 c6 : Pos) (c3 : Nat) : List Stmt :=
  [.Expr (.Call (.Attribute (.Name "Exception" a1) "__init__" a2) [.Name "self" a3, .Name "why" a4] [] a5) a6,
   .Assign [.Attribute (.Name "self" b1) "why" b2] (.Name "why" b3) b4,
   .Assign [.Attribute (.Name "self" c1) "at" c2] (.UnaryOp .USub (.Constant (.int 1) c3 c4) c5) c6]

theorem exc_loose {C t : Addr} : Loose1 (excObj C t) := by
  refine ⟨fun h => ?_, _, rfl⟩
  unfold Solid at h
  rcases h with h | h | h | h | h | ⟨C, d, h⟩ <;> cases h

section
variable {c : Cx} {F : Fm} {ρ : PEnv} {I : Im} {s : Shared} {ea C t fI : Addr} {why : Str} {a1 a2 a3 a4 a5 a6 b1 b2 b3 b4 c1 c2 c4 c5 c6 : Pos} {c3 : Nat}
theorem exc_body {Q : Flow → Shared → Prop} {E : Value → Shared → Prop} {St0 : Setting} (S : St c F ρ none I s) (h1 : ρ.lookup ("self" : Str) = some (.func ea)) (h2 : ρ.lookup ("why" : Str) = some (.str why)) (hN : NameIs c "Exception" (.type "Exception"))
    (F0 : ExcC c.W.K St0 C fI) (W1 : SetX c.W.K C "why") (W2 : SetX c.W.K C "at") (hf : findCls c.W.K (.type "Exception") (.type "type") "__init__" = some (.val (.builtin "Exception.__init__")))
    (he : s.heap.get? ea = some (excObj C t)) (hI : I ea = none) (h0 : F.h₀.get? ea = none) (hi : interactive c.env = false) {pl : Sem Bool}
    (hcall : eval (.Call (.Attribute (.Name "Exception" a1) "__init__" a2) [.Name "self" a3, .Name "why" a4] [] a5) c.env = (do
      let ov ← eval (.Name "Exception" a1) c.env
      standAt a2.atName
      let (f, first) ← holding [ov] (getMethod ov "__init__" pl)
      callWith a5 f first (backTo a5 (starEach [.Name "self" a3, .Name "why" a4] c.env)) (backToKw a5 (keywordEach [] c.env))))
    (hq : ∀ s' I', St c F ρ none I' s' → Le I I' → ExcSt F.h₀ s'.heap none ea ⟨C, why⟩ → Q .next s') : wpAny c.M c.A (execs (excBody a1 a2 a3 a4 a5 a6 b1 b2 b3 b4 c1 c2 c4 c5 c6 c3) c.env) Q E s := by
  have hea : ∀ {I' s'}, Post c.l I s I' s' → s'.heap.get? ea = some (excObj C t) ∧ I' ea = none := fun p => ⟨(p.kept _ _ he).2 (S.rd.stack.not_rec he rfl), p.none_of hI he⟩
  refine wpAny_execs_cons (wpAny_Expr_any ?_ (by exact hi))
  refine methodCall_KW (name_is S.rd hN (method_typeX S.rd.inK (by rfl) (by rfl) hf (by rfl) ?_)) hcall
  have S0 := S.post (Post.tok S.rd.sub (s.toks + 1))
  refine args_then (P := fun _ => True) (X := fun _ => False) (QL := fun ps => ps = [.func ea, .str why]) (Keeps.builtin _) ?_ S0.rd rfl ?_ fun _ _ _ _ z => z.elim
  · exact Ev_name h1 (Ev_name h2 rfl)
  intro vs s₁ I₁ ps p₁ r₁ rv eps
  subst eps
  have P₁ := (Post.tok S.rd.sub (s.toks + 1)).trans p₁
  have S₁ := S.post P₁
  obtain ⟨e1, i1⟩ := hea P₁
  refine RepAll.e2 rv fun ra rb => ?_
  first | refine Rep.intE ra fun _ => ?_ | refine Rep.strE ra fun _ => ?_ | refine Rep.boolE ra ?_ | refine Rep.noneE ra ?_ | refine Rep.typeE ra ?_ | refine Rep.funcE ra ?_ | cases ra
  first | refine Rep.intE rb fun _ => ?_ | refine Rep.strE rb fun _ => ?_ | refine Rep.boolE rb ?_ | refine Rep.noneE rb ?_ | refine Rep.typeE rb ?_ | refine Rep.funcE rb ?_ | cases rb
  refine exc_base_init r₁.inK F0 F0.exc e1 fun h₂ t1 tk₂ e2 k2 => ?_
  have S₂ : St c F ρ none I₁ { s₁ with heap := h₂, toks := tk₂ } := S₁.off e1 exc_loose i1 h0 k2 rfl rfl
  refine wpAny_execs_cons (plainObj_wpAny_Assign_Attribute ?_)
  refine (Ev_name (X := fun _ => False) (Q := fun p => p = .str why) h2 rfl).then S₂.rd (fun v s₃ I₃ p p₃ r₃ rv q => ?_) fun _ _ _ _ z => z.elim
  subst q
  first | refine Rep.intE rv fun _ => ?_ | refine Rep.strE rv fun _ => ?_ | refine Rep.boolE rv ?_ | refine Rep.noneE rv ?_ | refine Rep.typeE rv ?_ | refine Rep.funcE rv ?_ | cases rv
  rename_i tkw
  have S₃ := S₂.post p₃
  have e3 : s₃.heap.get? ea = some (excObj C t1) := (p₃.kept _ _ e2).2 (S₂.rd.stack.not_rec e2 rfl)
  have i3 : I₃ ea = none := p₃.none_of i1 e2
  refine name_exact S₃.rd h1 ?_
  refine setX_new S₃.rd.inK e3 rfl rfl rfl rfl rfl W1 fun h₄ tk₄ hsh tkey n₄ e4 d4 k4 => ?_
  have hd0 : s₃.heap.get? s₃.heap.objs.size = none := get?_size _
  have kk : ∀ b o, b ≠ ea → s₃.heap.get? b = some o → h₄.get? b = some o := fun b o hb e => (k4 b hb fun q => by rw [q, hd0] at e; cases e).trans e
  have S₄ : St c F ρ none I₃ { s₃ with heap := h₄, toks := tk₄ } := S₃.off e3 exc_loose i3 h0 kk rfl rfl
  refine wpAny_execs_cons (plainObj_wpAny_Assign_Attribute ?_)
  refine UnaryOp_ (wpAny_Constant_int (PyProof.Rows.neg_int ?_))
  have S₅ := S₄.post (Post.tok S₄.rd.sub (tk₄ + 1 + 1))
  refine name_exact S₅.rd h1 ?_
  refine setX_more S₅.rd.inK e4 rfl rfl rfl d4 W2 (by rfl) (by simp [putL]) fun h₆ tk₆ hsh₆ tkey₆ n₆ d6 k6 => ?_
  have hne : ea ≠ s₃.heap.objs.size := Nat.ne_of_lt (Heap.lt_size e3)
  have S₆ : St c F ρ none I₃ { s₃ with heap := h₆, toks := tk₆ } := S₃.off e3 exc_loose i3 h0 (fun b o hb e => (k6 b fun q => by rw [q, hd0] at e; cases e).trans (kk b o hb e)) rfl rfl
  refine wpAny_execs_nil (hq _ I₃ S₆ (P₁.le.trans p₃.le) ?_)
  refine ⟨_, _, s₃.heap.objs.size, _, tkw, _, (k6 ea hne).trans e4, h0, rfl, rfl, rfl, rfl, d6, ⟨(fun vs q => nomatch q), S₃.kept.none hd0⟩, ?_, rfl⟩
  rfl
end
end
section
open PySem PySem.W PySem.Calls PyProof.Rows Builtin Builtin.ObjectAttr
set_option genInjectivity false in
set_option genSizeOf false in
structure ExcT (K : Frag) (C fI : Addr) where
  fd : FuncData
  o : Obj
  {a1 a2 a3 a4 a5 a6 b1 b2 b3 b4 c1 c2 c4 c5 c6 : Pos}
  {c3 : Nat}
  base : ∀ S, ExcC K S C fI
  why : SetX K C "why"
  at_ : SetX K C "at"
  init : findCls K (.type "Exception") (.type "type") "__init__" = some (.val (.builtin "Exception.__init__"))
  keep : keepIn K (.ref C) = true
  look : K.lookup fI = some o
  data : o.data = .func fd
  code : codeIn K fd.code fd.qualname = true
  body : fd.body = .stmts (excBody a1 a2 a3 a4 a5 a6 b1 b2 b3 b4 c1 c2 c4 c5 c6 c3)
  plain : plainFd fd
  bind : ∀ v0 v1, bindArgs fd ⟨[v0, v1], []⟩ = pure [(("self" : Str), v0), (("why" : Str), v1)]
  kself : fd.scope.names.lookup ("self" : Str) = some .local
  kwhy : fd.scope.names.lookup ("why" : Str) = some .local
  kexc : fd.scope.names.lookup ("Exception" : Str) = some .globalImplicit
  gexc : nsIn K mainGlobals "Exception" = some none
  bexc : bootBuiltins "Exception" = some (.type "Exception")
  pl : Nat → Sem Bool
  call : ∀ N, eval (.Call (.Attribute (.Name "Exception" a1) "__init__" a2) [.Name "self" a3, .Name "why" a4] [] a5) (callEnvC fd N fI) = (do
      let ov ← eval (.Name "Exception" a1) (callEnvC fd N fI)
      standAt a2.atName
      let (f, first) ← holding [ov] (getMethod ov "__init__" (pl N))
      callWith a5 f first (backTo a5 (starEach [.Name "self" a3, .Name "why" a4] (callEnvC fd N fI))) (backToKw a5 (keywordEach [] (callEnvC fd N fI))))

section
variable {c : Cx} {F : Fm} {ρ : PEnv} {σ : Ow} {I : Im} {s : Shared} {C fI : Addr} {K : PK}

theorem call_exc (T : ExcT c.W.K C fI) (hn : 2 ≤ c.n) {msg : Str} {tk : Tok} {R E : Value → Shared → Prop} (r : Rd c [] I s)
    (h : ∀ ea s', Exn c.l [] s (.ref ea) ⟨C, msg⟩ s' → ExcSt s.heap s'.heap none ea ⟨C, msg⟩ → c.W.K.In s'.heap → R (.ref ea) s') : wpAny c.M c.A (call (.ref C) [.str msg tk]) R E s := by
  obtain ⟨hh, g, d, t, os⟩ := s
  let v : Value := .str msg tk
  let h₂ : Heap := (hh.push { cls := .type "tuple", data := .seq #[v] }).push (excObj C hh.objs.size)
  let c' : Cx := c.crea C ⟨[v], []⟩
  have keep : ∀ b o, hh.get? b = some o → h₂.get? b = some o := fun b o e => Heap.get?_push_of_some _ (Heap.get?_push_of_some _ e)
  refine wpAny_call (make_exc r.inK (T.base _) ?_)
  have hroom : c'.A.depth < recursionLimit := by have := r.ok.depth; show c.A.depth + 1 < 1000; lia
  have hlim : h₂.NoLimit := r.lim.keeps keep
  have r₂ : Rd c' [] I ⟨h₂, g, d, t, os⟩ := (r.post (Post.keeps (s' := ⟨h₂, g, d, t, os⟩) r.sub keep rfl rfl)).crea (by lia)
  have hkb : ∀ x ∈ [(("self" : Str), Value.ref (hh.objs.size + 1)), ("why", v)], T.fd.scope.names.lookup x.1 = some .local ∨ T.fd.scope.names.lookup x.1 = some .cell := fun x hx => by
    rcases List.mem_cons.mp hx with rfl | hx
    · exact .inl T.kself
    · rcases List.mem_cons.mp hx with rfl | hx
      · exact .inl T.kwhy
      · cases hx
  refine wpAny_enter (c := c') (s := ⟨h₂, g, d, t, os⟩) hroom (keep _ _ (r.inK _ _ T.look)) T.data hlim (codeRec_of (r.inK.keeps keep) T.code) T.body (.of_eq (T.bind _ _)) T.plain (fun x hx => (hkb x hx).imp id fun q => ⟨q, cells_some (.inr q)⟩) fun s₃ x => ?_
  have S := St.enter (s₀ := ⟨hh, g, d, t, os⟩) (ρ := [("self", .func (hh.objs.size + 1)), ("why", .str msg)]) r₂ keep rfl rfl (.cons (.func _) (.cons (.str _ _) .nil)) rfl hkb (by simp; decide) T.plain (by show 1 ≤ c.n - 1; lia) x
  have hx1 : h₂.get? (hh.objs.size + 1) = some (excObj C hh.objs.size) := by
    have := Heap.get?_push_size (hh.push { cls := .type "tuple", data := .seq #[v] }) (o := excObj C hh.objs.size) rfl
    rw [Heap.size_push] at this
    exact this
  have n0 : hh.get? (hh.objs.size + 1) = none := by
    cases e : hh.get? (hh.objs.size + 1) with
    | none => rfl
    | some o => exact absurd (Heap.lt_size e) (Nat.not_lt.mpr (Nat.le_succ _))
  have i0 : I (hh.objs.size + 1) = none := by
    cases e : I (hh.objs.size + 1) with
    | none => rfl
    | some o => have := r.sub _ _ e; rw [n0] at this; cases this
  refine exc_body (c := inside c' T.fd h₂.objs.size fI) (t := hh.objs.size) (St0 := ⟨c.W.prog, c.W.w.params⟩) S (by rfl) (by rfl) ⟨T.kexc, by decide, .inr ⟨T.gexc, T.bexc, by decide⟩⟩ (T.base _) T.why T.at_ T.init (x.toInCall.keep _ _ hx1) i0 n0 (by show (_ && _) = false; rw [show (inside c' T.fd h₂.objs.size fI).env.scope.kind = .function from T.plain.2.2.1]; rfl) (T.call _) fun s' I' S' _ hx => ?_
  refine ⟨rfl, h _ s' ⟨S'.kept.toF, S'.gens, S'.os, _, rfl, none, hx, .inl rfl⟩ hx S'.rd.inK⟩

theorem raise_x {prog : Program} {w : World} {A : Around} {env : Env} {Kf : Frag} {St0 : Setting} {e : Expr} {pos : Pos} {Q : Flow → Shared → Prop} {E : Value → Shared → Prop} (hh : A.handled = none) (F0 : ExcC Kf St0 C fI)
    (h : wpAny (model prog w) A (eval e env) (fun v s₁ => ∃ ea oe vs, v = .ref ea ∧ Kf.In s₁.heap ∧ s₁.heap.get? ea = some oe ∧ oe.cls = .ref C ∧ oe.data = .fields vs ∧ vs[1]? = some .none ∧ E (.ref ea) s₁) E s) : wpAny (model prog w) A (exec (.Raise (some e) none pos) env) Q E s := by
  show wpAny (model prog w) A (do standAt pos; raiseStmt env (some (do let v ← eval e env; standAt pos; pure v)) none) Q E s
  refine wpAny_bind (wpAny_standAt ?_)
  unfold raiseStmt
  dsimp only
  refine wpAny_bind (wpAny_bind (wpAny_mono h (fun v s₁ h₁ => wpAny_bind (wpAny_standAt (wpAny_pure ?_))) fun _ _ x => x))
  obtain ⟨ea, oe, vs, rfl, X, ha, hcls, hd, hv, hE⟩ := h₁
  have hnt : Looks (model prog w) s₁.heap (isType (.ref ea)) false := by
    intro A' Q' E' s' k q
    simp only [isType, loadHead]
    refine wpAny_bind (wpAny_loadPart (k _ _ ha) ?_)
    rw [hd]; exact wpAny_pure q
  have t1 : Looks (model prog w) s₁.heap (typeOf (.ref ea)) (.ref C) := by rw [← hcls]; exact (Looks.ld ha).andThen .now
  have i1 : Looks (model prog w) s₁.heap (isInstance (.ref ea) (.type "BaseException")) true := t1.andThen (looks_subIn X F0.base)
  refine wpAny_bind (wpAny_pure ?_)
  dsimp only
  refine wpAny_bind (wpAny_holding ?_)
  unfold excFromValue isExcClass
  refine wpAny_bind (wpAny_bind (hnt.here ?_))
  simp only [Bool.false_eq_true, if_false]
  refine wpAny_pure ?_
  simp only [Bool.false_eq_true, if_false]
  refine wpAny_bind (i1.here ?_)
  simp only [if_true]
  refine wpAny_pure ?_
  refine wpAny_bind (hnt.here ?_)
  simp only [Bool.false_eq_true, if_false]
  unfold raisedInstance
  refine wpAny_bind (wpAny_bind (t1.here (wpAny_bind ((looks_typeIn X F0.meta_).here ?_))))
  refine any_pos (by decide) ?_
  refine wpAny_pure ?_
  unfold setFlight raiseNew
  refine wpAny_bind (wpAny_bind (wpAny_field ha hd hv ?_))
  rw [if_neg (by decide)]
  refine wpAny_pure (wpAny_bind (wpAny_handled ?_))
  rw [hh]
  first
    | exact wpAny_throw hE
    | exact wpAny_bind (wpAny_pure (wpAny_throw hE))

theorem Sx_raise {x : Str} {p1 p2 p3 p4 : Pos} {k : Nat} {msg : Str} (T : ExcT c.W.K C fI) (hx : NameIs c x (.ref C)) (hn : 2 ≤ c.n) (hE : K.exc ⟨C, msg⟩) :
    Sx c F ρ σ (exec (.Raise (some (.Call (.Name x p1) [.Constant (.str msg) k p2] [] p3)) none p4) c.env) K := fun I s S => by
  refine raise_x S.rd.ok.handled (T.base ⟨c.W.prog, c.W.w.params⟩) ?_
  show wpAny c.M c.A (do callWith p3 (← eval (.Name x p1) c.env) [] (backTo p3 (starEach [.Constant (.str msg) k p2] c.env)) (backToKw p3 (keywordEach [] c.env))) _ _ s
  refine wpAny_bind (name_is S.rd hx (args_then (P := fun _ => True) (X := fun _ => False) (QL := fun ps => ps = [.str msg]) (Keeps.K T.keep) (Ev_str rfl) S.rd rfl (fun vs s₁ I₁ ps p₁ r₁ rv eps => ?_) fun _ _ _ _ z => z.elim))
  subst eps
  refine RepAll.e1 rv fun ra => ?_
  first | refine Rep.intE ra fun _ => ?_ | refine Rep.strE ra fun _ => ?_ | refine Rep.boolE ra ?_ | refine Rep.noneE ra ?_ | refine Rep.typeE ra ?_ | refine Rep.funcE ra ?_ | cases ra
  refine call_exc T hn r₁.none fun ea s' y hx X => ?_
  obtain ⟨oe, vs, d, od, tk, a0, e1, e2, e3, e4, e5, e6, e7, e8, e9, e10⟩ := hx
  exact ⟨ea, oe, vs, rfl, X, e1, e3, e5, e10, _, S.exn (y.anchor p₁), hE⟩
end
end
section
open PySem PySem.W PySem.Calls PyProof.Rows
theorem ExnS.turn2 {c : Cx} {F : Fm} {st st' : Option Value} {ea : Addr} {x : PX} {s' s'' : Shared} (y : ExnS c F st ea x s')
    (hs : ∀ b o, s'.heap.get? b = some o → (∀ vs, o.data ≠ .fields vs) → ∃ sl, s''.heap.get? b = some { o with slots := sl })
    (hr : ∀ b o, s'.heap.get? b = some o → F.h₀.get? b ≠ none → b ∉ c.l.filterMap (·.frame) → s''.heap.get? b = some o)
    (hs0 : ∀ a, F.h₀.get? a ≠ none → a ∈ c.l.filterMap (·.frame) → a ∈ F.outer.filterMap (·.frame))
    (hg : s''.gens = s'.gens) (ho : s''.os = s'.os) (he : ExcSt F.h₀ s''.heap st' ea x) : ExnS c F st' ea x s'' where
  kept := fun a o e => by
    obtain ⟨⟨o', h0⟩, h1⟩ := y.kept a o e
    have hne : F.h₀.get? a ≠ none := by rw [e]; exact fun q => nomatch q
    by_cases hm : a ∈ c.l.filterMap (·.frame)
    · obtain ⟨env, henv, hfe⟩ := List.mem_filterMap.mp hm
      obtain ⟨_, L, oL, hfL, hoL, hd⟩ := y.frames env henv
      rw [hfe] at hfL; cases hfL
      rw [h0] at hoL; cases hoL
      obtain ⟨sl, hsl⟩ := hs a o' h0 hd
      refine ⟨⟨_, hsl⟩, fun hmu => ?_⟩
      obtain ⟨⟨sl1, h2⟩, h3⟩ := h1 hmu
      rw [h0] at h2; cases h2
      exact ⟨⟨sl, hsl⟩, fun hn => absurd (hs0 a hne hm) hn⟩
    · have h2 := hr a o' h0 hne hm
      refine ⟨⟨o', h2⟩, fun hmu => ?_⟩
      obtain ⟨⟨sl1, h3⟩, h4⟩ := h1 hmu
      refine ⟨⟨sl1, hr a _ h3 hne hm⟩, fun hn => hr a o (h4 hn) hne hm⟩
  gens := hg.trans y.gens
  os := ho.trans y.os
  frames := fun env henv => by
    obtain ⟨hk, L, o, hf', ho', hd⟩ := y.frames env henv
    obtain ⟨sl, hsl⟩ := hs L o ho' hd
    exact ⟨hk, L, _, hf', hsl, hd⟩
  exc := he

section
variable {c : Cx} {F : Fm} {ea : Addr} {x : PX} {s : Shared} {A : Around} {E : Value → Shared → Prop} {Q : Unit → Shared → Prop}

theorem new_entry2 {st : Option Value} {head : Value} {had : Bool} (hA : A.frames = some c.l) {r : List Env} (hl : c.l = c.env :: r) (hf : c.env.frame = some c.env.locals) (hs0 : ∀ a, F.h₀.get? a ≠ none → a ∈ c.l.filterMap (·.frame) → a ∈ F.outer.filterMap (·.frame)) (y : ExnS c F st ea x s)
    (h : ∀ s', ExnS c F (some (rawInt c.env.locals)) ea x s' → Q () s') :
    wpAny c.M A (do let a ← frameOf c.env; let pl ← entryPlaceOf c.env.locals had; let b ← EntryCells.newEntry head a .none (rawInt c.env.locals) .none pl; setField (.ref ea) 1 b) Q E s := by
  obtain ⟨oe, vs, d, od, tk, a0, e1, e2, e3, e4, e5, e6, e7, e8, e9, e10⟩ := y.exc
  have hfun := y.fun (base := {}) hide_frames
  have hea : ea ∉ c.l.filterMap (·.frame) := fun hm => by
    obtain ⟨env, he, hfe⟩ := List.mem_filterMap.mp hm
    obtain ⟨_, L, o, hf', ho, hd⟩ := y.frames env he
    rw [hfe] at hf'; cases hf'
    rw [e1] at ho; cases ho
    exact hd vs e5
  have hvs : 1 < vs.size := by
    cases st with
    | none => exact (Array.getElem?_eq_some_iff.mp e10).1
    | some v => obtain ⟨T, oT, ts, t1, _⟩ := e10; exact (Array.getElem?_eq_some_iff.mp t1).1
  have hA' : A.frames = some (c.env :: r) := by rw [hA, hl]
  rw [hl] at hfun
  refine wpAny_bind (wpAny_frameOf_fun hA' hfun hf fun h₁ hs₁ => ?_)
  rw [← hl] at hs₁
  refine wpAny_bind (wpAny_entryPlaceOf fun pl hpl => ?_)
  unfold EntryCells.newEntry newFields
  refine wpAny_bind (wpAny_newObj_type ?_ (hpl.sizeOk5 _ _ _ _ _))
  generalize hoT : ({ cls := .type "traceback", dict := none, data := .fields ([head, .ref c.env.locals, .none, rawInt c.env.locals, .none] ++ (if pl.isEmpty then List.replicate 6 Value.none else pl)).toArray } : Obj) = oT
  have hTf : oT.isFreed = false := by rw [← hoT]; rfl
  have hTd : ∃ ts, oT.data = .fields ts ∧ ts[3]? = some (rawInt c.env.locals) := by rw [← hoT]; exact ⟨_, rfl, by simp⟩
  have ea₁ : h₁.get? ea = some oe := (hs₁.2.1 ea hea).trans e1
  have ea₂ := Heap.get?_push_of_some oT ea₁
  have hTe : h₁.objs.size ≠ ea := Nat.ne_of_gt (Heap.lt_size ea₁)
  refine wpAny_setField ea₂ e5 hvs (h _ ?_)
  have hd₃ := Obj.data_mapFields e5 (·.setIfInBounds 1 (Value.ref h₁.objs.size))
  have keep : ∀ b o, b ≠ ea → h₁.get? b = some o → ((h₁.push oT).update ea (Obj.mapFields (·.setIfInBounds 1 (Value.ref h₁.objs.size)))).get? b = some o := fun b o hb q => by
    rw [Heap.get?_update_other _ _ (Ne.symm hb)]; exact Heap.get?_push_of_some _ q
  have hfree : F.h₀.get? h₁.objs.size = none := by
    cases q : F.h₀.get? h₁.objs.size with
    | none => rfl
    | some o =>
      obtain ⟨⟨o', q'⟩, _⟩ := y.kept _ _ q
      have := Heap.lt_size q'
      rw [hs₁.1] at this
      exact absurd this (Nat.lt_irrefl _)
  refine y.turn2 (fun b o hb hn => ?_) (fun b o hb hne hm => ?_) hs0 rfl rfl ?_
  · obtain ⟨sl, hsl⟩ := hs₁.2.2 b o hb
    exact ⟨sl, keep b _ (fun q => by rw [q, e1] at hb; cases hb; exact hn vs e5) hsl⟩
  · exact keep b o (fun q => hne (q ▸ e2)) ((hs₁.2.1 b hm).trans hb)
  · obtain ⟨sl, hsl⟩ := hs₁.2.2 d od e7
    obtain ⟨ts, ht, ht3⟩ := hTd
    refine ⟨_, _, d, _, tk, a0, Heap.get?_update_self _ ea₂ (Obj.isFreed_of_fields hd₃), e2, (Obj.cls_mapFields ..).trans e3, ?_, hd₃, ?_, keep d _ (fun q => ?_) hsl, ?_, ?_, h₁.objs.size, oT, ts, ?_, hTe, hfree, ?_, ht, ht3⟩
    · obtain ⟨_, _, dt, _⟩ := oe
      cases e5; exact e4
    · rw [Array.getElem?_setIfInBounds_ne (by decide)]; exact e6
    · rw [q, e1] at e7; cases e7; exact e8.1 vs e5
    · exact ⟨fun vs' q => e8.1 vs' q, e8.2⟩
    · exact e9
    · simp [hvs]
    · rw [Heap.get?_update_other _ _ (Ne.symm hTe)]; exact Heap.get?_push_size _ hTf

theorem mark_entry2 {v v' : Value} {r : List Env} (hl : c.l = c.env :: r) (hf : c.env.frame = some c.env.locals) (hs0 : ∀ a, F.h₀.get? a ≠ none → a ∈ c.l.filterMap (·.frame) → a ∈ F.outer.filterMap (·.frame)) (y : ExnS c F (some v) ea x s) :
    ∃ T, wpAny c.M A (field (.ref ea) 1) (fun tb s' => tb = .ref T ∧ s' = s) E s ∧ (∀ R : Unit → Shared → Prop, (∀ s', ExnS c F (some v') ea x s' → R () s') → wpAny c.M A (setField (.ref T) 3 v') R E s) ∧ wpAny c.M A (field (.ref T) 3) (fun u s' => u = v ∧ s' = s) E s := by
  obtain ⟨oe, vs, d, od, tk, a0, e1, e2, e3, e4, e5, e6, e7, e8, e9, T, oT, ts, t1, t2, t3, t4, t5, t6⟩ := y.exc
  refine ⟨T, wpAny_field e1 e5 t1 ⟨rfl, rfl⟩, fun R h => ?_, wpAny_field t4 t5 t6 ⟨rfl, rfl⟩⟩
  have h3 : 3 < ts.size := (Array.getElem?_eq_some_iff.mp t6).1
  refine wpAny_setField t4 t5 h3 (h _ ?_)
  have hd₃ := Obj.data_mapFields t5 (·.setIfInBounds 3 v')
  have keep : ∀ b, b ≠ T → (s.heap.update T (Obj.mapFields (·.setIfInBounds 3 v'))).get? b = s.heap.get? b := fun b hb => Heap.get?_update_other _ _ (Ne.symm hb)
  refine y.turn2 (fun b o hb hn => ⟨o.slots, (keep b (fun q => ?_)).trans hb⟩) (fun b o hb hne hm => (keep b (fun q => hne (q ▸ t3))).trans hb) hs0 rfl rfl ?_
  · rw [q, t4] at hb; cases hb; exact hn ts t5
  · refine ⟨oe, vs, d, od, tk, a0, (keep ea (Ne.symm t2)).trans e1, e2, e3, e4, e5, e6, (keep d fun q => ?_).trans e7, e8, e9, T, _, _, t1, t2, t3, Heap.get?_update_self _ t4 (Obj.isFreed_of_fields hd₃), hd₃, by simp [h3]⟩
    rw [q, t4] at e7; cases e7; exact e8.1 ts t5

theorem note_x2 {st : Option Value} (hst : st = none ∨ st = some .none ∨ st = some (rawInt c.env.locals)) (hA : A.frames = some c.l) {r : List Env} (hl : c.l = c.env :: r) (hf : c.env.frame = some c.env.locals) (hs0 : ∀ a, F.h₀.get? a ≠ none → a ∈ c.l.filterMap (·.frame) → a ∈ F.outer.filterMap (·.frame)) (y : ExnS c F st ea x s)
    (h : ∀ s', ExnS c F (some (rawInt c.env.locals)) ea x s' → Q () s') : wpAny c.M A (noteFrame (.ref ea) c.env) Q E s := by
  unfold noteFrame
  simp only [hf]
  rcases hst with rfl | rfl | rfl
  · obtain ⟨oe, vs, d, od, tk, a0, e1, e2, e3, e4, e5, e6, e7, e8, e9, e10⟩ := id y.exc
    refine wpAny_bind (wpAny_field e1 e5 e10 ?_)
    rw [if_neg (by decide)]
    exact new_entry2 hA hl hf hs0 y h
  · obtain ⟨T, q1, q2, q3⟩ := mark_entry2 (A := A) (E := E) (v' := .none) hl hf hs0 y
    refine wpAny_bind (wpAny_mono q1 (fun tb s' ⟨a, b⟩ => ?_) fun _ _ z => z)
    subst a b
    rw [if_pos (show (Value.ref T != Value.none) = true from by simp)]
    refine wpAny_bind (wpAny_mono q3 (fun u s'' ⟨a, b⟩ => ?_) fun _ _ z => z)
    subst a b
    rw [if_neg (show ¬ ((Value.none == rawInt c.env.locals) = true) from by simp [rawInt])]
    exact wpAny_bind (q2 _ fun s' y' => new_entry2 hA hl hf hs0 y' h)
  · obtain ⟨T, q1, q2, q3⟩ := mark_entry2 (A := A) (E := E) (v' := .none) hl hf hs0 y
    refine wpAny_bind (wpAny_mono q1 (fun tb s' ⟨a, b⟩ => ?_) fun _ _ z => z)
    subst a b
    rw [if_pos (show (Value.ref T != Value.none) = true from by simp)]
    refine wpAny_bind (wpAny_mono q3 (fun u s'' ⟨a, b⟩ => ?_) fun _ _ z => z)
    subst a b
    rw [if_pos (show (rawInt c.env.locals == rawInt c.env.locals) = true from by simp)]
    exact wpAny_pure (h _ y)

theorem flight_x2 {v : Value} {fr : Option Addr} {r : List Env} (hl : c.l = c.env :: r) (hf : c.env.frame = some c.env.locals) (hs0 : ∀ a, F.h₀.get? a ≠ none → a ∈ c.l.filterMap (·.frame) → a ∈ F.outer.filterMap (·.frame)) (y : ExnS c F (some v) ea x s)
    (h : ∀ s', ExnS c F (some (fr.elim .none fun f => rawInt f)) ea x s' → Q () s') : wpAny c.M A (setFlight (.ref ea) fr) Q E s := by
  unfold setFlight
  obtain ⟨T, q1, q2, q3⟩ := mark_entry2 (A := A) (E := E) (v' := fr.elim .none fun f => rawInt f) hl hf hs0 y
  refine wpAny_bind (wpAny_mono q1 (fun tb s' ⟨a, b⟩ => ?_) fun _ _ z => z)
  subst a b
  rw [if_pos (show (Value.ref T != Value.none) = true from by simp)]
  exact q2 _ h

end
end
section
open PySem PySem.W PySem.Calls PyProof.Rows Builtin Builtin.ObjectAttr
structure GetX (K : Frag) (C : Addr) (name : Str) : Prop where
  ga : findIn K (.ref C) "__getattribute__" = some (some (.builtin "BaseException.__getattribute__"))
  gh : findIn K (.ref C) "__getattr__" = some none
  base : subIn K (.ref C) (.type "BaseException") = some true
  self : subIn K (.ref C) (.ref C) = some true
  dict : (clsIn K C).any (·.hasDict) = true
  none : findIn K (.ref C) name = some none
  meta_ : typeIn K (.ref C) = some (.type "type")

section
variable {prog : Program} {w : World} {A : Around} {E : Value → Shared → Prop} {s : Shared} {K : Frag} {x C : Addr} {ox : Obj} {od : Obj} {name : Str} {expr : Bool} {v : Value} {Q : Value → Shared → Prop}
theorem gaKind : builtinKind "BaseException.__getattribute__" = some .slot := by decide +kernel
theorem gaSplit : splitId "BaseException.__getattribute__" = some ("BaseException", "__getattribute__") := by decide +kernel
theorem ga_body {Q : Fin → Shared → Prop} {h0 : Heap} {g : Array GenState} {d : Drawn} {t : Nat} {os : OsState} {tk : Tok} (L0 : Looks (model prog w) h0 (typeOf (.ref x)) (.ref C)) (L3 : Looks (model prog w) h0 (find (.ref x) (.ref C) name) (.value v)) (h : Q (.done (.ret v)) ⟨h0, g, d, t, os⟩) :
    wpAny (model prog w) A (Builtin.«object.__getattribute__» ⟨[.ref x, .str name tk], []⟩) Q E ⟨h0, g, d, t, os⟩ := by
  unfold Builtin.«object.__getattribute__»
  repeat (first | with_reducible refine L0.at ?_ | with_reducible refine L3.at ?_ | wp_step)
  exact h
theorem getX (X : K.In s.heap) (I : InstAt s.heap x ox C (some od)) (G : GetX K C name) (hl : lookIn name od = some (some v)) (hh : handedIn v = true) (h : ∀ tk, Q v { s with toks := tk }) : wpAny (model prog w) A (getAttr (.ref x) name expr) Q E s := by
  obtain ⟨h0, g, d, t, os⟩ := s
  obtain ⟨cd, hc, hd'⟩ := any_some G.dict
  have hf : findObj K C (some od) name = some (.value v) := by
    unfold findObj
    rw [hc, Option.bind_some, G.none, Option.bind_some]
    show (W.ownOf cd (some od) name).bind _ = _
    unfold W.ownOf
    rw [if_pos hd']
    show (lookIn name od).bind _ = _
    rw [hl]; rfl
  have L0 := I.type (M := model prog w)
  have L1 := looks_findIn (M := model prog w) X G.ga
  have L2 := looks_findIn (M := model prog w) X G.gh
  have L3 := looks_find (M := model prog w) X I hf
  have L4 : Looks (model prog w) h0 (isInstance (.ref x) (.type "BaseException")) true := L0.andThen (looks_subIn X G.base)
  have ga := PySem.F.excAttr_ValueError.ga
  unfold getAttr getAttrBy
  refine wpAny_bind (wpAny_mkText (wpAny_holding (wpAny_bind (L0.at (wpAny_bind (L1.at ?_))))))
  dsimp only
  refine any_neg (by simp) ?_
  unfold getAttrByItsOwn
  refine wpAny_bind ((show Looks (model prog w) h0 (hookBefore (.ref C)) none from L2).at ?_)
  refine wpAny_bind (wpAny_attempt (wpAny_holding ?_))
  unfold callGetattribute
  refine any_neg (by cases expr <;> exact Bool.false_ne_true) ?_
  unfold boundAndCalled
  rw [ga.bind]
  refine wpAny_bind (wpAny_pure ?_)
  refine wpAny_call (codeAny_call_builtin ga.plain PySem.F.entry_bexc_ga (@check_slot (model prog w) _ _ ⟨h0, g, d, t + 1, os⟩ "BaseException.__getattribute__" "BaseException" "__getattribute__" (.ref x) [.str name t] [] _ gaKind gaSplit L4 (PySem.F.args_bexc_ga _ _) ?_))
  refine ga_body L0 L3 ?_
  dsimp only
  rw [handedOut_of hh]; exact wpAny_pure (h _)

theorem excMatches_self {e : Addr} {oe : Obj} {St0 : Setting} {Q : Bool → Shared → Prop} (X : K.In s.heap) (G : GetX K C name) (he : s.heap.get? e = some oe) (hcl : oe.cls = .ref C) (h : Q true s) : wpAny (model prog w) A (excMatches (.ref e) (.ref C)) Q E s := by
  obtain ⟨h0, g, d, t, os⟩ := s
  obtain ⟨cd, hc, hd'⟩ := any_some G.dict
  have L0 : Looks (model prog w) h0 (typeOf (.ref e)) (.ref C) := by rw [← hcl]; exact (Looks.ld he).andThen .now
  have L1 : Looks (model prog w) h0 (isInstance (.ref C) (.type "tuple")) false := (looks_typeIn X G.meta_).andThen (looks_subIn X (by rfl))
  have L2 : Looks (model prog w) h0 (isType (.ref C)) true := by
    unfold clsIn at hc
    split at hc
    · rename_i oc od cdd sl hK
      exact fun A' Q' E' s' k q => by
        simp only [isType, loadHead]
        exact wpAny_bind (wpAny_loadPart (k _ _ (X _ _ hK)) (wpAny_pure q))
    · cases hc
  have L3 := looks_subIn (M := model prog w) X G.base
  have L4 := looks_subIn (M := model prog w) X G.self
  unfold excMatches isExcClass
  refine wpAny_bind (L1.at ?_)
  refine any_neg Bool.false_ne_true ?_
  repeat (first | with_reducible refine L0.at ?_ | with_reducible refine L2.at ?_ | with_reducible refine L3.at ?_ | with_reducible refine L4.at ?_ | wp_step)
  exact h
end
end
section
open PySem PySem.W PySem.Calls PyProof.Rows Builtin Builtin.ObjectAttr
theorem name_isA {c : Cx} {A : Around} {ρ : PEnv} {x : Str} {pos : Pos} {v : Value} {I : Im} {s : Shared} {R E : Value → Shared → Prop} (r : Rd c ρ I s) (hx : NameIs c x v) (h : R v s) :
    wpAny c.M A (eval (.Name x pos) c.env) R E s := by
  obtain ⟨hk, hd, e⟩ := hx
  refine Calls.Name_function_global r.ok.kind hk ?_ hd
  rcases e with e | ⟨e, hb, hn⟩
  · exact Calls.loadGlobal_global (by rw [r.ok.globals]; exact c.W.g.keeps r.inB) (c.W.glob e) h
  · exact Calls.loadGlobal_builtin (by rw [r.ok.globals]; exact c.W.g.keeps r.inB) (mg_none_of c.W.inK c.W.g e) (by rw [r.ok.builtins]; exact c.W.b.keeps r.inB) ((c.W.blt x hn).trans hb) h

section
variable {c : Cx} {F : Fm} {ρ : PEnv} {σ : Ow} {I : Im} {s : Shared} {C fI : Addr} {K : PK}

theorem Sub.keptF {h h' : Heap} (hs : Sub I h) (st : Stack c.l I h) (k : KeptF c.l h h') : Sub I h' := fun a o e => (k a o (hs a o e)).2 fun hm => by
  obtain ⟨env, he, hf⟩ := List.mem_filterMap.mp hm
  obtain ⟨_, L, o', hf', hL, _⟩ := st env he
  rw [hf] at hf'; cases hf'
  rw [hL] at e; cases e

theorem St.names (S : St c F ρ none I s) {s' : Shared} {m : Str → Option Value} (hs : Heap.SameBut c.env.locals s.heap s'.heap) (hn : s'.heap.Ns c.env.locals m) (hg : s'.gens = s.gens) (ho : s'.os = s.os) : St c F [] none I s' := by
  refine S.turn (a₀ := c.env.locals) hs.2 S.own.1 (.inl S.own.2) ?_ hg ho ⟨m, hn⟩ (fun y a e => ?_) (fun _ _ e => nomatch e) (fun _ _ _ e => nomatch e)
  · obtain ⟨o, es, ep, ho, hd, _⟩ := hn
    exact ⟨o, ho, fun vs q => by rw [hd] at q; cases q⟩
  · obtain ⟨⟨u, hu⟩, _⟩ := S.cells y a e
    obtain ⟨m0, hm0⟩ := S.ns
    exact ⟨u, hu.sameBut hs (cell_ne hu hm0)⟩

theorem Sx_try {e : Expr} {x n : Str} {rp xp np ap rp2 hp pos : Pos} (hx : NameIs c x (.ref C)) (G : GetX c.W.K C "why") (hk : c.env.kindOf n = some .local) (h : Ev c ρ (eval e c.env) (fun p => K.ret p none) (fun y => y.C = C ∧ K.ret (.str y.why) none))
    (hat : eval (.Attribute (.Name n np) "why" ap) c.env = (do
      let o ← eval (.Name n np) c.env
      standAt ap.atName
      let r ← holding [o] (getAttr o "why" true)
      letTemporaryGo (.Name n np) o r
      pure r) := by with_unfolding_all rfl) (hd : (n == ("__debug__" : Str)) = false := by decide) :
    Sx c F ρ none (exec (.Try [.Return (some e) rp] [.ExceptHandler (some (.Name x xp)) (some n) [.Return (some (.Attribute (.Name n np) "why" ap)) rp2] hp] [] [] pos) c.env) K := fun I s S => by
  refine wpAny_Try_except (wpAny_execs_cons (wpAny_Return_some (h.then S.rd (fun v s' I' p a r' rv q => ⟨I', a.le, p, none, (S.post a).nil, rv, q⟩) fun e s' y exn ⟨hC, hK⟩ => ?_)))
  obtain ⟨ea, rfl, st, hst, hor⟩ := exn.exc
  have hst' : st = none ∨ st = some .none ∨ st = some (rawInt c.env.locals) := hor.imp id (Or.imp id fun ⟨_, h, _⟩ => nomatch h)
  let F' : Fm := ⟨s.heap, I, c.l, [], s.gens, s.os⟩
  have y' : ExnS c F' st ea y s' := ⟨fun a o e => ⟨exn.kept.some e, fun _ => exn.kept a o e⟩, exn.gens, exn.os, fun env he => by
    obtain ⟨hk, L, o, hf, _, ho, hd⟩ := S.rd.stack env he
    obtain ⟨sl, hs⟩ := (exn.kept L o ho).1
    exact ⟨hk, L, _, hf, hs, hd⟩, hst⟩
  have hs0 : ∀ a, F'.h₀.get? a ≠ none → a ∈ c.l.filterMap (·.frame) → a ∈ F'.outer.filterMap (·.frame) := fun _ _ h => h
  have toPost : ∀ {st s₁}, ExnS c F' st ea y s₁ → Post c.l I s I s₁ := fun z => ⟨.refl _, S.rd.sub.keptF S.rd.stack z.kept.toF, fun _ _ e => .inl e, z.kept.toF, z.gens, z.os⟩
  refine note_x2 hst' S.rd.ok.frames S.hl S.hf hs0 y' fun s₁ y₁ => flight_x2 (fr := none) S.hl S.hf hs0 y₁ fun s₂ y₂ => ?_
  have S₂ := S.post (toPost y₂)
  refine wpAny_handleBy_cons (codeAny_handlers_test (name_isA S₂.rd hx ?_)) (by intro q; cases q)
  obtain ⟨oe, vs, d, od, tk, a0, e1, e2, e3, _⟩ := id y₂.exc
  refine excMatches_self (St0 := ⟨c.W.prog, c.W.w.params⟩) S₂.rd.inK G e1 (by rw [e3, hC]) ?_
  refine codeAny_handlers_suite_as ?_
  refine flight_x2 (fr := none) S.hl S.hf hs0 y₂ fun s₃ y₃ => ?_
  have S₃ := S.post (toPost y₃)
  obtain ⟨m₃, hm₃⟩ := S₃.ns
  have hpf : (c.env.scope.kind == .class || (c.env.scope.kind == .module && c.env.locals != c.env.globals)) = false := by rw [S.rd.ok.kind]; rfl
  refine wpAny_storeName_local hk hm₃ (fun h₄ hn₄ hs₄ => ?_) hpf
  obtain ⟨oe, vs, d, od, tk, a0, e1, e2, e3, e4, e5, e6, e7, e8, e9, _⟩ := id y₃.exc
  obtain ⟨_, _, _, hL0, _, _⟩ : ∃ (m : Str → Option Value) (o : Obj) (_ : True), s.heap.get? c.env.locals = some o ∧ True ∧ True := by
    obtain ⟨m, o, es, ep, ho, _⟩ := S.ns
    exact ⟨m, o, trivial, ho, trivial, trivial⟩
  have hne1 : ea ≠ c.env.locals := fun q => by rw [q] at e2; rw [hL0] at e2; cases e2
  have hne2 : d ≠ c.env.locals := fun q => by have := e8.2; rw [q] at this; rw [hL0] at this; cases this
  have S₄ : St c F [] none I { s₃ with heap := h₄ } := S₃.names hs₄ hn₄ rfl rfl
  refine wpAny_execs_cons (wpAny_Return_some (Attribute_any_ (wpAny_Name (wpAny_loadName_local S.rd.ok.kind hk hn₄ (if_pos rfl) ?_) hd) hat))
  refine getX (ox := oe) (od := od) S₄.rd.inK ⟨(hs₄.2 _ hne1).trans e1, by rw [e3, hC], by unfold notCls; rw [e5], by rw [e4]; exact (hs₄.2 _ hne2).trans e7⟩ G e9 rfl fun tk₅ => ?_
  refine wpAny_nameGoes_keeps hk hn₄ hpf fun h₆ v₆ hn₆ hs₆ => ?_
  refine ⟨I, .refl _, .str y.why, none, ?_, .str _ _, hK⟩
  exact S₄.names (s' := ⟨h₆, s₃.gens, s₃.drawn, tk₅ + 1, s₃.os⟩) hs₆ hn₆ rfl rfl
end
end
section
open PySem PySem.W PySem.Calls PyProof.Rows Builtin Builtin.ObjectAttr
mutual
noncomputable def noInst : PV → Bool
  | .inst _ _ => false
  | .list l => noInsts l
  | .tuple l => noInsts l
  | _ => true
noncomputable def noInsts : List PV → Bool
  | [] => true
  | p :: r => noInst p && noInsts r
end
theorem Rep.noInst {I J : Im} (h : ∀ a o, I a = some o → (o.cls = .type "list" ∨ o.cls = .type "tuple" ∨ o.cls = .type "bytearray" ∨ o.cls = .type "range") → J a = some o) {v : Value} {p : PV} (r : Rep I v p) : noInst p = true → Rep J v p :=
  Rep.rec (motive_1 := fun v p _ => Mine.noInst p = true → Rep J v p) (motive_2 := fun vs ps _ => noInsts ps = true → RepAll J vs ps) (motive_3 := fun _ _ _ => True)
    (fun _ => .none) (fun b _ => .bool b) (fun i t _ => .int i t) (fun s t _ => .str s t) (fun b t _ => .bytes b t) (fun ha ho _ ih e => .list (h _ _ ha (.inl ho.1)) ho (ih e)) (fun ha ho _ ih e => .tuple (h _ _ ha (.inr (.inl ho.1))) ho (ih e))
    (fun ha ho _ => .barr (h _ _ ha (.inr (.inr (.inl ho.1)))) ho) (fun _ _ _ _ e => Bool.noConfusion e)
    (fun a _ => .func a) (fun ha ho _ => .range (h _ _ ha (.inr (.inr (.inr (rangeObj_cls ho))))) ho) (fun v _ => .any v) (fun n _ => .type n) (fun _ => .nil)
    (fun _ _ a b e => .cons (a (Bool.and_eq_true_iff.mp e).1) (b (Bool.and_eq_true_iff.mp e).2)) trivial (fun _ _ _ _ => trivial) r

noncomputable def EvS (c : Cx) (F : Fm) (ρ : PEnv) (σ : Ow) (t : Sem Value) (Q : PV → Prop) (X : PX → Prop) : Prop := ∀ I s, St c F ρ σ I s → wpAny c.M c.A t (QV c I s Q) (QE c s X) s
noncomputable def TrS (c : Cx) (F : Fm) (ρ : PEnv) (σ : Ow) (t : Sem Bool) (Q : Bool → Prop) (X : PX → Prop) : Prop := ∀ I s, St c F ρ σ I s → wpAny c.M c.A t (QB c I s Q) (QE c s X) s

section
variable {c : Cx} {F : Fm} {ρ : PEnv} {σ : Ow} {I : Im} {s : Shared} {K : PK} {x : Str} {a d C : Addr} {fs : List (Str × PV)} {es : List DictEntry} {n : Nat}
noncomputable abbrev lent (I : Im) (a d C : Addr) (es : List DictEntry) (n : Nat) : Im := (I.put a (instObj C d)).put d (dictOf es n)
theorem lent_ne {b : Addr} (h1 : b ≠ a) (h2 : b ≠ d) : lent I a d C es n b = I b := (Im.put_ne _ _ h2).trans (Im.put_ne _ _ h1)
theorem rd_lend (r : Rd c ρ I s) (g1 : s.heap.get? a = some (instObj C d)) (g2 : s.heap.get? d = some (dictOf es n)) (g3 : RepFs I es fs) (ia : I a = none) (id' : I d = none) (fa : a ∉ c.l.filterMap (·.frame)) (fd : d ∉ c.l.filterMap (·.frame)) (hne : d ≠ a) (hx : Holds s.heap c.env x (.ref a)) :
    Rd c ((x, .inst C fs) :: ρ) (lent I a d C es n) s := by
  have l1 : Le I (I.put a (instObj C d)) := Im.le_put ia _
  have id2 : I.put a (instObj C d) d = none := (Im.put_ne _ _ hne).trans id'
  have l2 : Le I (lent I a d C es n) := l1.trans (Im.le_put id2 _)
  refine ⟨r.ok, fun b o e => l2 _ _ (r.base b o e), Im.put2_sub (Im.put2_sub r.sub g1) g2, fun env he => ?_, fun y p e => ?_⟩
  · obtain ⟨hk, L, o, hf, hL, r⟩ := r.stack env he
    have hm : L ∈ c.l.filterMap (·.frame) := List.mem_filterMap.mpr ⟨env, he, hf⟩
    exact ⟨hk, L, o, hf, (lent_ne (fun q => by rw [q] at hm; exact fa hm) (fun q => by rw [q] at hm; exact fd hm)).trans hL, r⟩
  · rw [List.lookup_cons] at e
    by_cases z : y = x
    · subst z; rw [beq_self_eq_true] at e; cases e
      exact ⟨.ref a, hx, .inst ((Im.put_ne _ _ (Ne.symm hne)).trans (Im.put_self _ _ _)) (Im.put_self _ _ _) (g3.mono l2)⟩
    · rw [beq_eq_false_iff_ne.mpr z] at e
      obtain ⟨v, h1, h2⟩ := r.vars y p e
      exact ⟨v, h1, h2.mono l2⟩
noncomputable def unlent (I : Im) (a d : Addr) : Im := fun b => if b = a ∨ b = d then none else I b
theorem Post.unlend {I' : Im} {s' : Shared} (p : Post c.l (lent I a d C es n) s I' s') (ia : I a = none) (id' : I d = none) : Post c.l I s (unlent I' a d) s' where
  le := fun b o e => by
    have h1 : b ≠ a := fun q => by rw [q, ia] at e; cases e
    have h2 : b ≠ d := fun q => by rw [q, id'] at e; cases e
    exact (if_neg (by simp [h1, h2])).trans (p.le b o ((lent_ne h1 h2).trans e))
  sub := fun b o e => p.sub b o (by unfold unlent at e; split at e <;> first | cases e | exact e)
  fresh := fun b o e => by
    unfold unlent at e
    split at e
    · cases e
    · rename_i q
      simp only [not_or] at q
      rcases p.fresh b o e with z | z
      · exact .inl ((lent_ne q.1 q.2).symm.trans z)
      · exact .inr z
  kept := p.kept
  gens := p.gens
  os := p.os

theorem EvS.lend {t : Sem Value} {Q : PV → Prop} {X : PX → Prop} (h : Ev c ((x, .inst C fs) :: ρ) t (fun p => noInst p = true ∧ Q p) X) : EvS c F ρ (some (x, a, .inst C fs)) t Q X := fun I s S => by
  obtain ⟨hx, ⟨d, es, n, g1, g2, g3, g4, g5⟩, hm⟩ := S.owned x a _ rfl
  refine wpAny_mono (h _ s (rd_lend S.rd g1 g2 g3 hm.1 g4.1 hm.2.2 g4.2.2 g5 hx)) (fun v s' ⟨I', p, pp, r, hn, q⟩ => ?_) fun _ _ z => z
  refine ⟨_, p, pp.unlend hm.1 g4.1, r.noInst (fun b o e hs => (if_neg fun z => ?_).trans e) hn, q⟩
  rcases z with z | z
  · have := pp.sub _ _ (pp.le a _ ((Im.put_ne _ _ (Ne.symm g5)).trans (Im.put_self _ _ _)))
    rw [← z, pp.sub _ _ e] at this; cases this
    simp at hs
  · have := pp.sub _ _ (pp.le d _ (Im.put_self _ _ _))
    rw [← z, pp.sub _ _ e] at this; cases this
    simp at hs
theorem TrS.lend {t : Sem Bool} {Q : Bool → Prop} {X : PX → Prop} (h : Tr c ((x, .inst C fs) :: ρ) t Q X) : TrS c F ρ (some (x, a, .inst C fs)) t Q X := fun I s S => by
  obtain ⟨hx, ⟨d, es, n, g1, g2, g3, g4, g5⟩, hm⟩ := S.owned x a _ rfl
  refine wpAny_mono (h _ s (rd_lend S.rd g1 g2 g3 hm.1 g4.1 hm.2.2 g4.2.2 g5 hx)) (fun v s' ⟨I', pp, q⟩ => ⟨_, pp.unlend hm.1 g4.1, q⟩) fun _ _ z => z
theorem Sx_ifS {t : Expr} {b o : List Stmt} {pos : Pos} (h : TrS c F ρ σ (isTrue t c.env (eval t c.env)) (fun z => if z then Sx c F ρ σ (execs b c.env) K else Sx c F ρ σ (execs o c.env) K) K.exc) :
    Sx c F ρ σ (exec (.If t b o pos) c.env) K := fun I s S =>
  wpAny_If (wpAny_mono (h I s S) (fun z s' ⟨I', a, q⟩ => by
    cases z <;> exact wpAny_mono (q I' s' (S.post a)) (fun _ _ ⟨J, hle, y⟩ => ⟨J, a.le.trans hle, y⟩) fun _ _ y => y) fun _ _ ⟨x, a, b⟩ => ⟨x, S.exn a, b⟩)
theorem Sx_assignS {y : Str} {px pos : Pos} {e : Expr} (hx : Slot1 c σ y) (h : EvS c F ρ σ (eval e c.env) (fun p => K.next ((y, p) :: ρ) σ) K.exc)
    (hs : swapsWith e (some (.Name y px)) pos.line c.env = pure false) : Sx c F ρ σ (exec (.Assign [.Name y px] e pos) c.env) K := fun I s S =>
  wpAny_Assign_Name (wpAny_mono (h I s S) (fun v s' ⟨I', p, a, r, q⟩ => (S.post a).store r hx.1 hx.2 fun s'' S'' _ => ⟨I', a.le, _, _, S'', q⟩) fun _ _ ⟨x, a, b⟩ => ⟨x, S.exn a, b⟩) hs
end
end
section
open PySem PySem.W PySem.Calls PyProof.Rows Builtin Builtin.ObjectAttr
structure OwnPost (c : Cx) (C : Addr) (I : Im) (s : Shared) (I' : Im) (s' : Shared) (a d : Addr) (fs : List (Str × PV)) : Prop where
  le : Le I I'
  sub : Sub I' s'.heap
  fresh : ∀ b o, I' b = some o → I b = some o ∨ s.heap.get? b = none
  kept : KeptX c.l [a, d] s.heap s'.heap
  gens : s'.gens = s.gens
  os : s'.os = s.os
  aI : I' a = none
  own : ∃ d' es n, s'.heap.get? a = some (instObj C d') ∧ s'.heap.get? d' = some (dictOf es n) ∧ RepFs I' es fs ∧ I' d' = none ∧ (s.heap.get? d' = none ∨ d' ∈ [a, d]) ∧ d' ∉ c.l.filterMap (·.frame) ∧ d' ≠ a
noncomputable def CallM (c : Cx) (f : Value) (C : Addr) (fs : List (Str × PV)) (Q : List (Str × PV) → Prop) : Prop :=
  ∀ I s a d es n, Rd c [] I s → s.heap.get? a = some (instObj C d) → s.heap.get? d = some (dictOf es n) → RepFs I es fs → I a = none → I d = none → a ∉ c.l.filterMap (·.frame) → d ∉ c.l.filterMap (·.frame) → d ≠ a →
    ∀ E, wpAny c.M c.A (call f [.ref a]) (fun v s' => ∃ I' fs', OwnPost c C I s I' s' a d fs' ∧ Q fs') E s
noncomputable abbrev PK.mut (a : Addr) (C : Addr) (Q : List (Str × PV) → Prop) : PK :=
  { next := fun _ σ => ∃ x fs, σ = some (x, a, .inst C fs) ∧ Q fs, ret := fun _ σ => ∃ x fs, σ = some (x, a, .inst C fs) ∧ Q fs, exc := fun _ => False }

section
variable {c : Cx} {F : Fm} {ρ : PEnv} {σ : Ow} {I I' : Im} {s s' : Shared} {K : PK} {x : Str} {a d C : Addr} {fs fs' : List (Str × PV)} {es : List DictEntry} {n : Nat}
theorem St.mu {h0 : Heap} {I0 : Im} {ou : List Env} {g : Array GenState} {os : OsState} (S : St c ⟨h0, I0, ou, [], g, os⟩ ρ none I s) (mu : List Addr) : St c ⟨h0, I0, ou, mu, g, os⟩ ρ none I s where
  rd := S.rd
  hl := S.hl
  hf := S.hf
  kept := fun b o e => ⟨(S.kept b o e).1, fun _ => (S.kept b o e).2 (nomatch ·)⟩
  le₀ := S.le₀
  fresh₀ := S.fresh₀
  gens := S.gens
  os := S.os
  ns := S.ns
  own := S.own
  cells := S.cells
  apart := S.apart
  owned := fun _ _ _ q => nomatch q

theorem St.lentBack (S : St c F ρ (some (x, a, .inst C fs)) I s) (g1 : s.heap.get? a = some (instObj C d)) (g2 : s.heap.get? d = some (dictOf es n)) (g4 : Mine1 c F I d) (p : OwnPost c C I s I' s' a d fs') : St c F ρ (some (x, a, .inst C fs')) I' s' := by
  obtain ⟨hx, _, hm⟩ := S.owned x a _ rfl
  have nm : ∀ {b o}, s.heap.get? b = some o → (∀ k, o ≠ instObj C k) → (∀ es n, o ≠ dictOf es n) → b ∉ [a, d] := fun hb h1 h2 q => by
    rcases List.mem_cons.mp q with rfl | q
    · rw [g1] at hb; cases hb; exact h1 _ rfl
    · rcases List.mem_cons.mp q with rfl | q
      · rw [g2] at hb; cases hb; exact h2 _ _ rfl
      · cases q
  have nf : ∀ {L}, L ∈ c.l.filterMap (·.frame) → L ∉ [a, d] := fun hL q => by
    rcases List.mem_cons.mp q with rfl | q
    · exact hm.2.2 hL
    · rcases List.mem_cons.mp q with rfl | q
      · exact g4.2.2 hL
      · cases q
  have hLm : c.env.locals ∈ c.l.filterMap (·.frame) := by rw [S.hl, List.filterMap_cons, S.hf]; exact .head _
  have k1 : ∀ {b o}, s.heap.get? b = some o → b ∉ [a, d] → ∃ sl, s'.heap.get? b = some { o with slots := sl } := fun hb h => ((p.kept _ _ hb).2 h).1
  have hns : ∀ {m}, s.heap.Ns c.env.locals m → s'.heap.Ns c.env.locals m := fun ⟨o, es, ep, ho, hd, r⟩ => let ⟨sl, h⟩ := k1 ho (nf hLm); ⟨_, es, ep, h, hd, r⟩
  have hcell : ∀ {b v}, s.heap.IsCell b v → s'.heap.IsCell b v := fun ⟨o, ho, hd⟩ => by
    obtain ⟨sl, h⟩ := k1 ho (nm ho (fun k q => by rw [q] at hd; cases hd) fun es n q => by rw [q] at hd; cases hd)
    exact ⟨_, h, hd⟩
  have hnone : ∀ {b o}, I b = none → s.heap.get? b = some o → I' b = none := fun hI ho => by
    cases q : I' _ with
    | none => rfl
    | some o' =>
      rcases p.fresh _ o' q with r | r
      · rw [hI] at r; cases r
      · rw [ho] at r; cases r
  have hold : ∀ {x v}, Holds s.heap c.env x v → Holds s'.heap c.env x v := fun h => by
    rcases h with ⟨q, m, hm, e⟩ | ⟨q, cl, hc, hv⟩
    · exact .inl ⟨q, m, hns hm, e⟩
    · exact .inr ⟨q, cl, hc, hcell hv⟩
  exact {
    rd := ⟨S.rd.ok, fun b o e => p.le _ _ (S.rd.base b o e), p.sub, fun env he => by
      obtain ⟨hk, L, o, hf, hL, ho, hd⟩ := S.rd.stack env he
      obtain ⟨sl, h⟩ := k1 ho (nf (List.mem_filterMap.mpr ⟨env, he, hf⟩))
      exact ⟨hk, L, _, hf, hnone hL ho, h, hd⟩, fun y q e => let ⟨v, h1, h2⟩ := S.rd.vars y q e; ⟨v, hold h1, h2.mono p.le⟩⟩
    hl := S.hl
    hf := S.hf
    kept := fun b o e => by
      obtain ⟨⟨o', h0⟩, h00⟩ := S.kept b o e
      refine ⟨(p.kept b o' h0).1, fun hmu => ?_⟩
      have hb : b ∉ [a, d] := fun q => by
        rcases List.mem_cons.mp q with rfl | q
        · rcases hm.2.1 with z | z
          · rw [e] at z; cases z
          · exact hmu z
        · rcases List.mem_cons.mp q with rfl | q
          · rcases g4.2.1 with z | z
            · rw [e] at z; cases z
            · exact hmu z
          · cases q
      obtain ⟨⟨sl, h1⟩, h2⟩ := h00 hmu
      have hL : b ≠ c.env.locals := fun q => by rw [q, S.own.2] at e; cases e
      refine ⟨let ⟨sl', h3⟩ := ((p.kept b _ h1).2 hb).1; ⟨sl', h3⟩, fun hn => ((p.kept b o (h2 hn)).2 hb).2 fun hm' => ?_⟩
      rw [S.hl, List.filterMap_cons, S.hf] at hm'
      rcases List.mem_cons.mp hm' with q | q
      · exact hL q
      · exact hn q
    le₀ := S.le₀.trans p.le
    fresh₀ := fun b o e => by
      rcases p.fresh b o e with q | q
      · exact S.fresh₀ b o q
      · exact .inr (S.kept.none q)
    gens := p.gens.trans S.gens
    os := p.os.trans S.os
    ns := let ⟨m, h⟩ := S.ns; ⟨m, hns h⟩
    own := let ⟨m, o, _, _, ho, _⟩ := S.ns; ⟨hnone S.own.1 ho, S.own.2⟩
    cells := fun y b e => by
      obtain ⟨⟨v, o, ho, hd⟩, h2, h3⟩ := S.cells y b e
      exact ⟨⟨v, hcell ⟨o, ho, hd⟩⟩, hnone h2 ho, h3⟩
    apart := S.apart
    owned := fun y b ow e => by
      cases e
      obtain ⟨d', es', n', q1, q2, q3, q4, q5, q6, q7⟩ := p.own
      refine ⟨hold hx, ⟨d', es', n', q1, q2, q3, ⟨q4, ?_, q6⟩, q7⟩, p.aI, hm.2⟩
      rcases q5 with z | z
      · exact .inl (S.kept.none z)
      · rcases List.mem_cons.mp z with rfl | z
        · exact hm.2.1
        · rcases List.mem_cons.mp z with rfl | z
          · exact g4.2.1
          · cases z }

theorem Sx_callM {y : Str} {f : Value} {yp xp cp pos : Pos} (hf : NameIs c y f) (hk : Keeps c f) (hx : ρ.lookup x = some (.func a)) (h : CallM c f C fs fun fs' => K.next ρ (some (x, a, .inst C fs')))
    (ha : starEach [.Name x xp] c.env = [(false, eval (.Name x xp) c.env)] := by rfl) (hi : interactive c.env = false := by rfl) (hs : swapsWith (.Call (.Name y yp) [.Name x xp] [] cp) none pos.line c.env = pure false := by rfl)
    (hd : (x == ("__debug__" : Str)) = false := by decide) (hn : (x == ("__classdict__" : Str)) = false := by decide) :
    Sx c F ρ (some (x, a, .inst C fs)) (exec (.Expr (.Call (.Name y yp) [.Name x xp] [] cp) pos) c.env) K := fun I s S => by
  refine wpAny_Expr_any ?_ hi hs
  show wpAny c.M c.A (do callWith cp (← eval (.Name y yp) c.env) [] (backTo cp (starEach [.Name x xp] c.env)) (backToKw cp (keywordEach [] c.env))) _ _ s
  refine wpAny_bind (name_is S.rd hf (args_then (P := fun _ => True) (X := fun _ => False) (QL := fun ps => ps = [.func a]) hk (Ev_name hx rfl hd hn) S.rd ha (fun vs s₁ I₁ ps p₁ r₁ rv eps => ?_) fun _ _ _ _ z => z.elim))
  subst eps
  refine RepAll.e1 rv fun ra => ?_
  first | refine Rep.intE ra fun _ => ?_ | refine Rep.strE ra fun _ => ?_ | refine Rep.boolE ra ?_ | refine Rep.noneE ra ?_ | refine Rep.typeE ra ?_ | refine Rep.funcE ra ?_ | cases ra
  have S₁ := S.post p₁
  obtain ⟨_, ⟨d, es, n, g1, g2, g3, g4, g5⟩, hm⟩ := S₁.owned x a _ rfl
  exact wpAny_mono (h I₁ s₁ a d es n r₁.none g1 g2 g3 hm.1 g4.1 hm.2.2 g4.2.2 g5 (ES c F K.exc)) (fun v s' ⟨I', fs', p, q⟩ => ⟨I', p₁.le.trans p.le, ρ, _, S₁.lentBack g1 g2 g4 p, q⟩) fun _ _ z => z

theorem call_mut {f : Addr} {o : Obj} {fd : FuncData} {body : List Stmt} {self : Str} {Q : List (Str × PV) → Prop}
    (hK : c.W.K.lookup f = some o) (hdata : o.data = .func fd) (hcd : codeIn c.W.K fd.code fd.qualname = true) (hbody : fd.body = .stmts body) (hp : plainFd fd) (hn : 1 ≤ c.n)
    (hb : ∀ v, bindArgs fd ⟨[v], []⟩ = pure [(self, v)]) (hko : fd.scope.names.lookup self = some .local)
    (h : ∀ N F a, F.outer = c.l → Sx (inside c fd N f) F [(self, .func a)] (some (self, a, .inst C fs)) (execs body (inside c fd N f).env) (PK.mut a C Q)) :
    CallM c (.ref f) C fs Q := by
  intro I s a d es n r g1 g2 g3 ia id' fa fd' hne E
  refine wpAny_call ?_
  have hroom : c.A.depth < recursionLimit := by have := r.ok.depth; show c.A.depth < 1000; lia
  have hkb : ∀ x ∈ [(self, Value.ref a)], fd.scope.names.lookup x.1 = some .local ∨ fd.scope.names.lookup x.1 = some .cell := fun x hx => by
    rcases List.mem_cons.mp hx with rfl | hx
    · exact .inl hko
    · cases hx
  refine wpAny_enter hroom (r.inK _ _ hK) hdata r.lim (codeRec_of r.inK hcd) hbody (.of_eq (hb _)) hp (fun x hx => (hkb x hx).imp id fun q => ⟨q, cells_some (.inr q)⟩) fun s₁ x => ?_
  have S := (St.enter (s₀ := s) (a := f) (ρ := [(self, .func a)]) r (fun _ _ e => e) rfl rfl (.cons (.func a) .nil) rfl hkb (by simp) hp hn x).mu [a, d]
  have ka := x.toInCall.keep _ _ g1
  have kd := x.toInCall.keep _ _ g2
  obtain ⟨v, hv, hr⟩ := S.rd.vars self (.func a) (by rw [List.lookup_cons, beq_self_eq_true])
  cases hr
  have fr : ∀ b, b ∉ c.l.filterMap (·.frame) → b ≠ s.heap.objs.size → b ∉ (callEnvC fd s.heap.objs.size f :: c.l).filterMap (·.frame) := fun b hb hne hm => by
    rw [List.filterMap_cons] at hm
    rcases List.mem_cons.mp hm with q | q
    · exact hne q
    · exact hb q
  have S' : St (inside c fd s.heap.objs.size f) ⟨s.heap, I, c.l, [a, d], s.gens, s.os⟩ [(self, .func a)] (some (self, a, .inst C fs)) I s₁ :=
    { S with owned := fun y b ow e => (by
        cases e
        exact ⟨hv, ⟨d, es, n, ka, kd, g3, ⟨id', .inr (by simp), fr _ fd' (Nat.ne_of_lt (Heap.lt_size g2))⟩, hne⟩, ia, .inr (by simp), fr _ fa (Nat.ne_of_lt (Heap.lt_size g1))⟩) }
  have fin : ∀ {ρ' : PEnv} {I' : Im} {s' : Shared} {y : Str} {fs'}, St (inside c fd s.heap.objs.size f) ⟨s.heap, I, c.l, [a, d], s.gens, s.os⟩ ρ' (some (y, a, .inst C fs')) I' s' → OwnPost c C I s I' s' a d fs' := fun S' => by
    obtain ⟨_, ⟨d', es', n', q1, q2, q3, q4, q5⟩, m1⟩ := S'.owned _ a _ rfl
    refine ⟨S'.le₀, S'.rd.sub, S'.fresh₀, S'.kept, S'.gens, S'.os, m1.1, d', es', n', q1, q2, q3, q4.1, q4.2.1, fun hm => q4.2.2 ?_, q5⟩
    show _ ∈ (callEnvC fd s.heap.objs.size f :: c.l).filterMap (·.frame)
    rw [List.filterMap_cons]; exact .tail _ hm
  refine wpAny_mono (h _ ⟨s.heap, I, c.l, [a, d], s.gens, s.os⟩ a rfl I s₁ S') (fun fl s' ⟨I', hle, q⟩ => ?_) fun e s' ⟨y, _, q⟩ => q.elim
  cases fl with
  | next => obtain ⟨ρ', σ', S', y, fs', rfl, hq⟩ := q; exact ⟨I', fs', fin S', hq⟩
  | brk => obtain ⟨ρ', σ', S', hq⟩ := q; exact hq.elim
  | cont => obtain ⟨ρ', σ', S', hq⟩ := q; exact hq.elim
  | ret v => obtain ⟨p, σ', S', hr', y, fs', rfl, hq⟩ := q; exact ⟨I', fs', fin S', hq⟩
end
end
section
open PySem PySem.W PySem.Calls PyProof.Rows Builtin Builtin.ObjectAttr
section
variable {c : Cx} {F : Fm} {ρ : PEnv} {σ : Ow} {I : Im} {s s' : Shared} {K : PK}

theorem St.offs (S : St c F ρ σ I s) (k : ∀ b o, s.heap.get? b = some o → (∀ vs, o.data ≠ .fields vs) → s'.heap.get? b = some o) (kI : ∀ b o, I b = some o → s'.heap.get? b = some o)
    (k0 : ∀ b o o1, F.h₀.get? b = some o → s.heap.get? b = some o1 → s'.heap.get? b = some o1) (hg : s'.gens = s.gens) (ho : s'.os = s.os) : St c F ρ σ I s' := by
  have nf : ∀ b o', s.heap.get? b = some o' → (∀ vs, o'.data ≠ .fields vs) → s'.heap.get? b = some o' := k
  have hns : ∀ {a m}, s.heap.Ns a m → s'.heap.Ns a m := fun ⟨o', es, ep, ho', hd', r⟩ => ⟨o', es, ep, nf _ _ ho' fun vs q => by (rw [hd'] at q; cases q), hd', r⟩
  have hcell : ∀ {a v}, s.heap.IsCell a v → s'.heap.IsCell a v := fun ⟨o', ho', hd'⟩ => ⟨o', nf _ _ ho' fun vs q => by (rw [hd'] at q; cases q), hd'⟩
  have hold : ∀ {x v}, Holds s.heap c.env x v → Holds s'.heap c.env x v := fun h => by
    rcases h with ⟨a, m, hm, q⟩ | ⟨a, cl, hc, hv⟩
    · exact .inl ⟨a, m, hns hm, q⟩
    · exact .inr ⟨a, cl, hc, hcell hv⟩
  exact {
    rd := ⟨S.rd.ok, S.rd.base, kI, fun env he => by
      obtain ⟨hk, L, o', hf, hL, hL2, hd'⟩ := S.rd.stack env he
      exact ⟨hk, L, o', hf, hL, nf _ _ hL2 hd', hd'⟩, fun x p q => let ⟨v, h1, h2⟩ := S.rd.vars x p q; ⟨v, hold h1, h2⟩⟩
    hl := S.hl
    hf := S.hf
    kept := fun a o' q => by
      obtain ⟨⟨o1, h1⟩, h2⟩ := S.kept a o' q
      refine ⟨⟨o1, k0 a o' o1 q h1⟩, fun hm => ?_⟩
      obtain ⟨⟨sl, h3⟩, h4⟩ := h2 hm
      exact ⟨⟨sl, k0 a o' _ q h3⟩, fun hn => k0 a o' _ q (h4 hn)⟩
    le₀ := S.le₀
    fresh₀ := S.fresh₀
    gens := hg.trans S.gens
    os := ho.trans S.os
    ns := let ⟨m, hm⟩ := S.ns; ⟨m, hns hm⟩
    own := S.own
    cells := fun x a q => let ⟨⟨v, hv⟩, r⟩ := S.cells x a q; ⟨⟨v, hcell hv⟩, r⟩
    apart := S.apart
    owned := fun x a ow q => by
      obtain ⟨h1, h2, h3⟩ := S.owned x a ow q
      refine ⟨hold h1, ?_, h3⟩
      cases ow with
      | list ps => obtain ⟨o1, vs1, q1, ⟨q2, ⟨n, q3⟩, q4⟩, r⟩ := h2; exact ⟨o1, vs1, nf _ _ q1 (fun vs z => by rw [q3] at z; cases z), ⟨q2, ⟨n, q3⟩, q4⟩, r⟩
      | inst C fs => obtain ⟨d, es, n, q1, q2, r, m, z⟩ := h2; exact ⟨d, es, n, nf _ _ q1 (fun vs z => nomatch z), nf _ _ q2 (fun vs z => nomatch z), r, m, z⟩
      | dict k => obtain ⟨o, kvs, q, ⟨es, ep, q0, q1, q2⟩, r⟩ := h2; exact ⟨o, kvs, nf _ _ q (fun vs z => by rw [q1] at z; cases z), ⟨es, ep, q0, q1, q2⟩, r⟩ }

noncomputable def LoopE (c : Cx) (F : Fm) (x y : Str) (body : List Stmt) (K : PK) : Nat → List PV → PEnv → Ow → Prop
  | _, [], ρ, σ => K.next ρ σ
  | i, p :: ps, ρ, σ => σ = none ∧ Slot1 c none x ∧ Slot1 c none y ∧ Sx c F ((y, p) :: (x, .int i) :: ρ) none (execs body c.env) (K.turn (LoopE c F x y body K (i + 1) ps))

theorem enum_loose {o : Obj} {vs : Array Value} (h : o = { cls := .type "enumerate", dict := none, data := .fields vs, slots := #[] }) : Loose1 o := by subst h; exact loose_type rfl rfl (by decide)

structure BackE (c : Cx) (F : Fm) (I : Im) (e it l : Addr) (i : Nat) (old : Value) (ρ₁ : PEnv) (σ₁ : Ow) (I₁ : Im) (s₄ : Shared) : Prop where
  le : Le I I₁
  st : St c F ρ₁ σ₁ I₁ s₄
  en : IsEnum s₄.heap e it (i : Int) old
  li : s₄.heap.IsListIter it l i
  ne : I₁ e = none
  ni : I₁ it = none
inductive InvE (c : Cx) (F : Fm) (I : Im) (L : Nat → List PV → PEnv → Ow → Prop) (e it l : Addr) (items : List PV) (k : Nat) (s' : Shared) : Prop
  | mk (i : Nat) (old : Value) (ρ' : PEnv) (σ' : Ow) (I' : Im) (hk : k = items.length + 1 - i) (hi : i ≤ items.length) (b : BackE c F I e it l i old ρ' σ' I' s') (q : L i (items.drop i) ρ' σ')
structure TurnsE (c : Cx) (F : Fm) (J I : Im) (e it l : Addr) (ol : Obj) (vs : List Value) (items : List PV) : Prop where
  hmu : F.mu = []
  hlst : J l = some ol
  hol : listObj ol vs
  hrep : RepAll J vs items
  hJ : Le J I
  hne : e ≠ it
  h0 : F.h₀.get? e = none
  h0' : F.h₀.get? it = none
  hI : I e = none
  hI' : I it = none
  nI₀ : F.I₀ e = none
  nI₀' : F.I₀ it = none
  nB : c.W.B.get? e = none
  nB' : c.W.B.get? it = none
section
variable {e it l : Addr} {J I : Im} {ol : Obj} {vs : List Value} {items : List PV}
theorem TurnsE.lst (Z : TurnsE c F J I e it l ol vs items) {I₁ : Im} {h : Heap} (hl : Le J I₁) (hs : Sub I₁ h) : h.IsList l vs.toArray :=
  let ⟨hc1, n1, hd1⟩ := Z.hol; ⟨ol, hs _ _ (hl _ _ Z.hlst), hc1, n1, hd1⟩
noncomputable abbrev tupE (i : Nat) (s : Shared) (v : Value) : Obj := { cls := .type "tuple", data := .seq #[.int i s.toks, v] }
noncomputable abbrev enumE (it : Addr) (i : Nat) (v : Value) : Obj := { cls := .type "enumerate", dict := none, data := .fields #[.none, .bool false, .ref it, rawInt ((i : Int) + 1), .none, v], slots := #[] }
theorem TurnsE.ground (Z : TurnsE c F J I e it l ol vs items) {i : Nat} {old v : Value} {I' : Im} {s' : Shared} {h₁ h₂ : Heap} {ot : Obj} (B : BackE c F I e it l i old ρ none I' s')
    (htup : h₁.get? s'.heap.objs.size = some (tupE i s' v)) (hk : ∀ b o, b ≠ e → b ≠ it → s'.heap.get? b = some o → h₁.get? b = some o)
    (hE₂ : h₂.get? e = some (enumE it i v)) (hs₂ : ∀ b, b ≠ e → h₂.get? b = h₁.get? b) (hot : h₂.get? it = some ot) (lt : Loose1 ot) :
    ∃ I₃, Le I I₃ ∧ St c F ρ none I₃ { s' with heap := h₂, toks := s'.toks + 1 } ∧ I₃ s'.heap.objs.size = some (tupE i s' v) ∧ I₃ e = some (enumE it i v) ∧ I₃ it = some ot := by
  obtain ⟨oi, hoi, hci, hdi⟩ := id B.li
  have hoe := B.en
  have hTn : s'.heap.get? s'.heap.objs.size = none := get?_size _
  have keep : ∀ b o, b ≠ e → b ≠ it → s'.heap.get? b = some o → h₂.get? b = some o := fun b o h1 h2 q => (hs₂ b h1).trans (hk b o h1 h2 q)
  have S₁ : St c F ρ none I' { s' with heap := h₂, toks := s'.toks + 1 } := B.st.offs (fun b o q hn => keep b o (fun z => by rw [z, hoe] at q; cases q; exact hn _ rfl) (fun z => by rw [z, hoi] at q; cases q; exact hn _ hdi) q)
    (fun b o q => keep b o (fun z => by rw [z, B.ne] at q; cases q) (fun z => by rw [z, B.ni] at q; cases q) (B.st.rd.sub b o q))
    (fun b o o1 q q1 => keep b o1 (fun z => by rw [z, Z.h0] at q; cases q) (fun z => by rw [z, Z.h0'] at q; cases q) q1) rfl rfl
  have hneT : s'.heap.objs.size ≠ e := fun z => by rw [z, hoe] at hTn; cases hTn
  have hneT' : s'.heap.objs.size ≠ it := fun z => by rw [z, hoi] at hTn; cases hTn
  have mT : Mine1 c F I' s'.heap.objs.size := ⟨B.st.rd.sub.none_new, .inl (B.st.kept.none hTn), B.st.rd.stack.none hTn⟩
  have S₂ := S₁.more ((hs₂ _ hneT).trans htup) mT Z.hmu (fun v z => nomatch z)
  have iE₂ := (Im.put_ne I' (tupE i s' v) (Ne.symm hneT)).trans B.ne
  have iT₂ := (Im.put_ne I' (tupE i s' v) (Ne.symm hneT')).trans B.ni
  have S₂e := S₂.hold hE₂ (enum_loose rfl) iE₂ Z.h0
  have iT₃ := (Im.put_ne (I'.put s'.heap.objs.size (tupE i s' v)) (enumE it i v) (Ne.symm Z.hne)).trans iT₂
  have leT := Im.le_put iT₃ ot
  have leE := Im.le_put iE₂ (enumE it i v)
  exact ⟨_, B.le.trans (((Im.le_put mT.1 (tupE i s' v)).trans leE).trans leT), S₂e.hold hot lt iT₃ Z.h0', (leE.trans leT) _ _ (Im.put_self I' s'.heap.objs.size (tupE i s' v)),
    leT _ _ (Im.put_self (I'.put s'.heap.objs.size (tupE i s' v)) e (enumE it i v)), Im.put_self _ it ot⟩
theorem TurnsE.back (Z : TurnsE c F J I e it l ol vs items) {i : Nat} {v : Value} {I₃ I₁ : Im} {s₄ : Shared} {ot : Obj} (hle : Le I I₃) (inE : I₃ e = some (enumE it i v)) (inT : I₃ it = some ot) (lt : Loose1 ot)
    (hct : ot.cls = .type "list_iterator") (hdt : ot.data = .fields #[.ref l, .int ((i + 1 : Nat) : Int) 0]) (hle₁ : Le I₃ I₁) (S₄ : St c F ρ σ I₁ s₄) : BackE c F I e it l (i + 1) v ρ σ ((I₁.drop e).drop it) s₄ := by
  have hoE := S₄.rd.sub _ _ (hle₁ _ _ inE)
  have hoT := S₄.rd.sub _ _ (hle₁ _ _ inT)
  have SA := S₄.drop hoE (enum_loose rfl) Z.nI₀ Z.nB
  refine ⟨fun a o' q => ?_, SA.drop hoT lt Z.nI₀' Z.nB', ?_, ⟨ot, hoT, hct, hdt⟩, ?_, if_pos rfl⟩
  · have h1 : a ≠ e := fun z => by rw [z, Z.hI] at q; cases q
    have h2 : a ≠ it := fun z => by rw [z, Z.hI'] at q; cases q
    exact (if_neg h2).trans ((if_neg h1).trans (hle₁ _ _ (hle _ _ q)))
  · show s₄.heap.get? e = _
    rw [hoE]; rfl
  · unfold Im.drop; rw [if_neg Z.hne, if_pos rfl]
end
theorem flowE {e it l : Addr} {I I₃ : Im} {items : List PV} {L : Nat → List PV → PEnv → Ow → Prop} {i : Nat} {v : Value} {fl : Flow} {s₄ : Shared}
    (hlt : i < items.length) (hle : Le I I₃) (back : ∀ {ρ₁ σ₁ I₁ s₄}, Le I₃ I₁ → St c F ρ₁ σ₁ I₁ s₄ → BackE c F I e it l (i + 1) v ρ₁ σ₁ ((I₁.drop e).drop it) s₄)
    (q : QS c F I₃ (K.turn (L (i + 1) (items.drop (i + 1)))) fl s₄) : TurnTo (InvE c F I L e it l items (items.length + 1 - (i + 1)) s₄) (QS c F I K .next s₄) (fun v => QS c F I K (.ret v) s₄) fl := by
  obtain ⟨I₁, hle₁, q⟩ := q
  cases fl with
  | next => obtain ⟨ρ₁, σ₁, S₄, q⟩ := q; exact ⟨i + 1, v, ρ₁, σ₁, _, rfl, hlt, back hle₁ S₄, q⟩
  | cont => obtain ⟨ρ₁, σ₁, S₄, q⟩ := q; exact ⟨i + 1, v, ρ₁, σ₁, _, rfl, hlt, back hle₁ S₄, q⟩
  | brk => obtain ⟨ρ₁, σ₁, S₄, q⟩ := q; exact ⟨_, (back hle₁ S₄).le, ρ₁, σ₁, (back hle₁ S₄).st, q⟩
  | ret v => obtain ⟨p₁, σ₁, S₄, r₁, q⟩ := q; exact ⟨I₁, hle.trans hle₁, p₁, σ₁, S₄, r₁, q⟩
theorem TurnsE.step {x y : Str} {px py pt : Pos} {k1 : Nat} {body : List Stmt} {e it l : Addr} {J I I' : Im} {ol : Obj} {vs : List Value} {items : List PV} {s' : Shared} {i : Nat} {old : Value} {N : Option Value → Shared → Prop} {E : Value → Shared → Prop} {G : Shared → Prop} {p : PV}
    (Z : TurnsE c F J I e it l ol vs items) (B : BackE c F I e it l i old ρ none I' s') (hp : items[i]? = some p) (hx : Slot1 c none x) (hy : Slot1 c none y)
    (hN : ∀ v s₁, wpAny c.M c.A (letOwnedTupleGo (.Tuple [.Name x px, .Name y py] k1 pt) (.ref e) v) (fun _ s₁' => wpAny c.M c.A (assign (.Tuple [.Name x px, .Name y py] k1 pt) c.env v) (fun _ s₂ => G s₂) E s₁') E s₁ → N (some v) s₁)
    (key : ∀ v s₂ I₂, Le I I₂ → St c F ((y, p) :: (x, .int i) :: ρ) none I₂ s₂ → (∀ {ρ₁ σ₁ I₁ s₄}, Le I₂ I₁ → St c F ρ₁ σ₁ I₁ s₄ → BackE c F I e it l (i + 1) v ρ₁ σ₁ ((I₁.drop e).drop it) s₄) → G s₂) :
    wpAny c.M c.A (pyNext (.ref e)) N E s' := by
  obtain ⟨v, hv, hrv⟩ := Z.hrep.get hp
  refine wpAny_pyNext_enum_item B.en B.li (Z.lst (Z.hJ.trans B.le) B.st.rd.sub) (x := v) (by simpa using hv) Z.hne fun h₁ hE₁ hT₁ htup hsz hk => hN _ _ ?_
  refine wpAny_letOwnedTupleGo_enum hE₁ fun h₂ hE₂ hs₂ => ?_
  obtain ⟨ot, q, hct, hdt⟩ := hT₁
  have hot := (hs₂.2 _ (Ne.symm Z.hne)).trans q
  have lt : Loose1 ot := loose_type hct hdt (by decide)
  obtain ⟨I₃, hle, S₃, iTup, iE, iT⟩ := Z.ground B htup hk hE₂ hs₂.2 hot lt
  refine assign_names (xs := [x, y]) (ps := [.int i, p]) rfl (fun z hz => ?_) S₃ (.tuple iTup ⟨rfl, _, rfl⟩ (.cons (.int _ _) (.cons (hrv.mono (Z.hJ.trans hle)) .nil))) (.inl rfl) rfl fun s₃ S₃ =>
    key v s₃ I₃ hle S₃ fun hle₁ S₄ => Z.back hle iE iT lt hct hdt hle₁ S₄
  rcases List.mem_cons.mp hz with rfl | hz
  · exact hx
  · rcases List.mem_cons.mp hz with rfl | hz
    · exact hy
    · cases hz
theorem for_turnsE {x y : Str} {px py pt : Pos} {k1 : Nat} {body : List Stmt} {e it l : Addr} {J I : Im} {ol : Obj} {vs : List Value} {items : List PV} {s : Shared} (hmu : F.mu = []) (hlst : J l = some ol) (hol : listObj ol vs) (hrep : RepAll J vs items)
    (S : St c F ρ σ I s) (hJ : Le J I) (he : IsEnum s.heap e it 0 .none) (hit : s.heap.IsListIter it l 0) (hne : e ≠ it) (h0 : F.h₀.get? e = none) (h0' : F.h₀.get? it = none) (hI : I e = none) (hI' : I it = none) (h : LoopE c F x y body K 0 items ρ σ) :
    codeAny c.M c.A (.forLoop (.Tuple [.Name x px, .Name y py] k1 pt) (.ref e) body [] c.env) (FR c F I K) s := by
  have nI₀ : ∀ {b}, I b = none → F.I₀ b = none := fun {b} hb => by
    cases q : F.I₀ b with
    | none => rfl
    | some o => exact absurd ((S.le₀ _ _ q).symm.trans hb) (by simp)
  have nB : ∀ {b}, I b = none → c.W.B.get? b = none := fun {b} hb => by
    cases q : c.W.B.get? b with
    | none => rfl
    | some o => exact absurd ((S.rd.base _ _ q).symm.trans hb) (by simp)
  have Z : TurnsE c F J I e it l ol vs items := ⟨hmu, hlst, hol, hrep, hJ, hne, h0, h0', hI, hI', nI₀ hI, nI₀ hI', nB hI, nB hI'⟩
  refine codeAny_forLoop_any (R := FR c F I K) (InvE c F I (LoopE c F x y body K) e it l items) (fun k s' hi => ?_) (items.length + 1) ⟨0, .none, ρ, σ, I, rfl, Nat.zero_le _, ⟨.refl _, S, he, hit, hI, hI'⟩, h⟩
  obtain ⟨i, old, ρ', σ', I', rfl, hi, B, hL⟩ := hi
  rcases Nat.lt_or_eq_of_le hi with hlt | rfl
  · rw [List.drop_eq_getElem_cons hlt] at hL
    obtain ⟨rfl, hx, hy, hbody⟩ := hL
    refine Z.step (x := x) (y := y) (px := px) (py := py) (pt := pt) (k1 := k1) (body := body) B (List.getElem?_eq_getElem hlt) hx hy (fun v s₁ z => z) fun v s₂ I₂ hle S₃ back => ?_
    refine wpAny_mono (hbody _ s₂ S₃) (fun fl s₄ q => ?_) fun e s₄ q => es_noted S q
    have z := flowE (L := LoopE c F x y body K) hlt hle back q
    cases fl with
    | next => exact ⟨_, less_turn hlt, z⟩
    | cont => exact ⟨_, less_turn hlt, z⟩
    | brk => exact z
    | ret v => exact z
  · rw [List.drop_length] at hL
    obtain ⟨oi, hoi, hci, hdi⟩ := id B.li
    refine wpAny_pyNext_enum_end B.st.rd.ok.handled B.en B.li (Z.lst (hJ.trans B.le) B.st.rd.sub) (by simp [← hrep.length]) fun h₁ hk => wpAny_execs_nil ?_
    refine ⟨I', B.le, ρ', σ', B.st.offs (fun b o q hn => hk b o (fun z => by rw [z, hoi] at q; cases q; exact hn _ hdi) q) (fun b o q => hk b o (fun z => by rw [z, B.ni] at q; cases q) (B.st.rd.sub b o q)) (fun b o o1 q q1 => hk b o1 (fun z => by rw [z, h0'] at q; cases q) q1) rfl rfl, ?_⟩
    exact hL
theorem Sx_enum {x y f : Str} {px py pt fp cp pos : Pos} {k1 : Nat} {e : Expr} {body : List Stmt} (hmu : F.mu = []) (hf : NameIs c f (.type "enumerate"))
    (h : Ev c ρ (eval e c.env) (fun p => ∃ items, p = .list items ∧ LoopE c F x y body K 0 items ρ σ) K.exc)
    (ha : starEach [e] c.env = [(false, eval e c.env)] := by rfl) (hs : ∀ v, foldedSetIterable (.Call (.Name f fp) [e] [] cp) c.env v = pure v := by intro _; rfl) :
    Sx c F ρ σ (exec (.For (.Tuple [.Name x px, .Name y py] k1 pt) (.Call (.Name f fp) [e] [] cp) body [] pos) c.env) K := fun I s S => by
  refine wpAny_For ?_ hs
  show wpAny c.M c.A (do callWith cp (← eval (.Name f fp) c.env) [] (backTo cp (starEach [e] c.env)) (backToKw cp (keywordEach [] c.env))) _ _ s
  refine wpAny_bind (name_is S.rd hf (args_then (P := fun _ => True) (X := K.exc) (QL := fun ps => ∃ items, ps = [.list items] ∧ LoopE c F x y body K 0 items ρ σ) (Keeps.type _) (h.mono (fun p ⟨items, e, q⟩ => ⟨items, by rw [e], q⟩) fun _ z => z) S.rd ha (fun vs s₁ I₁ ps p₁ r₁ rv ⟨items, eps, hl⟩ => ?_) fun _ _ y a b => ⟨y, S.exn a, b⟩))
  subst eps
  refine RepAll.e1 rv fun ra => ?_
  refine Rep.listE ra fun hla hol hr => ?_
  have S₁ := S.post p₁
  have hn1 := get?_size s₁.heap
  have hn2 : s₁.heap.get? (s₁.heap.objs.size + 1) = none := by
    cases e : s₁.heap.get? (s₁.heap.objs.size + 1) with
    | none => rfl
    | some o => exact absurd (Heap.lt_size e) (Nat.not_lt.mpr (Nat.le_succ _))
  have nI : ∀ {b}, s₁.heap.get? b = none → I₁ b = none := fun {b} hb => by
    cases q : I₁ b with
    | none => rfl
    | some o => exact absurd ((r₁.sub _ _ q).symm.trans hb) (by simp)
  refine call_enumerate_list (let ⟨h1, n, h2⟩ := hol; ⟨_, r₁.sub _ _ hla, h1, n, h2⟩) fun h' he hit hsz hk => ?_
  have S₂ : St c F ρ σ I₁ { s₁ with heap := h' } := S₁.keeps hk rfl rfl
  refine wpAny_pyIter_enum he ?_
  refine codeAny_mono (for_turnsE hmu hla hol hr S₂ (.refl _) he hit (Nat.succ_ne_self _) (S₁.kept.none hn2) (S₁.kept.none hn1) (nI hn2) (nI hn1) hl) fun r s'' q => ?_
  cases r with
  | ok f => obtain ⟨J, hle, z⟩ := q; exact ⟨J, p₁.le.trans hle, z⟩
  | error e => exact q
end
end
section
open PySem PySem.W PySem.Calls PyProof.Rows
structure PK.Le (K K' : PK) : Prop where
  next : ∀ ρ σ, K.next ρ σ → K'.next ρ σ
  brk : ∀ ρ σ, K.brk ρ σ → K'.brk ρ σ
  cont : ∀ ρ σ, K.cont ρ σ → K'.cont ρ σ
  ret : ∀ p σ, K.ret p σ → K'.ret p σ
  exc : ∀ x, K.exc x → K'.exc x
section
variable {c : Cx} {F : Fm} {ρ : PEnv} {σ : Ow} {K K' : PK}
theorem QS.mono (h : K.Le K') {I : Im} {fl : Flow} {s : Shared} (q : QS c F I K fl s) : QS c F I K' fl s := by
  obtain ⟨J, hl, q⟩ := q
  refine ⟨J, hl, ?_⟩
  cases fl with
  | next => obtain ⟨ρ', σ', S, z⟩ := q; exact ⟨ρ', σ', S, h.next _ _ z⟩
  | brk => obtain ⟨ρ', σ', S, z⟩ := q; exact ⟨ρ', σ', S, h.brk _ _ z⟩
  | cont => obtain ⟨ρ', σ', S, z⟩ := q; exact ⟨ρ', σ', S, h.cont _ _ z⟩
  | ret v => obtain ⟨p, σ', S, r, z⟩ := q; exact ⟨p, σ', S, r, h.ret _ _ z⟩
theorem Sx.mono {t : Sem Flow} (y : Sx c F ρ σ t K) (h : K.Le K') : Sx c F ρ σ t K' := fun I s S =>
  wpAny_mono (y I s S) (fun _ _ q => QS.mono h q) fun _ _ ⟨x, a, b⟩ => ⟨x, a, h.exc _ b⟩
theorem SxP.mono {t : Sem Flow} (y : SxP c F ρ σ t K) (h : K.Le K') : SxP c F ρ σ t K' := fun I s S => wpP_mono (y I s S) fun _ _ q => QS.mono h q
theorem turn_le {n n' : PEnv → Ow → Prop} (h : ∀ ρ σ, n ρ σ → n' ρ σ) : (K.turn n).Le (K.turn n') := ⟨h, fun _ _ z => z, h, fun _ _ z => z, fun _ z => z⟩

theorem Loop_inv {x : Str} {body : List Stmt} {items : List PV} (Inv : Nat → PEnv → Ow → Prop) (h0 : Inv 0 ρ σ)
    (step : ∀ i p ρ σ, items[i]? = some p → Inv i ρ σ → Slot1 c σ x ∧ Sx c F ((x, p) :: ρ) σ (execs body c.env) (K.turn (Inv (i + 1))))
    (done : ∀ ρ σ, Inv items.length ρ σ → K.next ρ σ) : Loop c F x body K items ρ σ := by
  suffices key : ∀ (r : List PV) (i : Nat) (ρ : PEnv) (σ : Ow), items.drop i = r → i + r.length = items.length → Inv i ρ σ → Loop c F x body K r ρ σ from key items 0 ρ σ (by simp) (by simp) h0
  intro r
  induction r with
  | nil =>
    intro i ρ σ hd hl hi
    exact done ρ σ (by rw [← hl]; exact hi)
  | cons p r ih =>
    intro i ρ σ hd hl hi
    have hp : items[i]? = some p := by rw [← List.head?_drop, hd]; rfl
    obtain ⟨a, b⟩ := step i p ρ σ hp hi
    exact ⟨a, b.mono (turn_le fun ρ' σ' z => ih (i + 1) ρ' σ' (by rw [← List.drop_drop, hd]; rfl) (by rw [← hl, List.length_cons]; lia) z)⟩
theorem LoopP_inv {x : Str} {body : List Stmt} {items : List PV} (Inv : Nat → PEnv → Ow → Prop) (h0 : Inv 0 ρ σ)
    (step : ∀ i p ρ σ, items[i]? = some p → Inv i ρ σ → Slot1 c σ x ∧ SxP c F ((x, p) :: ρ) σ (execs body c.env) (K.turn (Inv (i + 1))))
    (done : ∀ ρ σ, Inv items.length ρ σ → K.next ρ σ) : LoopP c F x body K items ρ σ := by
  suffices key : ∀ (r : List PV) (i : Nat) (ρ : PEnv) (σ : Ow), items.drop i = r → i + r.length = items.length → Inv i ρ σ → LoopP c F x body K r ρ σ from key items 0 ρ σ (by simp) (by simp) h0
  intro r
  induction r with
  | nil =>
    intro i ρ σ hd hl hi
    exact done ρ σ (by rw [← hl]; exact hi)
  | cons p r ih =>
    intro i ρ σ hd hl hi
    have hp : items[i]? = some p := by rw [← List.head?_drop, hd]; rfl
    obtain ⟨a, b⟩ := step i p ρ σ hp hi
    exact ⟨a, b.mono (turn_le fun ρ' σ' z => ih (i + 1) ρ' σ' (by rw [← List.drop_drop, hd]; rfl) (by rw [← hl, List.length_cons]; lia) z)⟩
theorem LoopE_inv {x y : Str} {body : List Stmt} {items : List PV} (Inv : Nat → PEnv → Prop) (h0 : Inv 0 ρ)
    (hx : Slot1 c none x) (hy : Slot1 c none y)
    (step : ∀ i p ρ, items[i]? = some p → Inv i ρ → Sx c F ((y, p) :: (x, .int i) :: ρ) none (execs body c.env) (K.turn fun ρ' σ' => σ' = none ∧ Inv (i + 1) ρ'))
    (done : ∀ ρ, Inv items.length ρ → K.next ρ none) : LoopE c F x y body K 0 items ρ none := by
  suffices key : ∀ (r : List PV) (i : Nat) (ρ : PEnv), items.drop i = r → i + r.length = items.length → Inv i ρ → LoopE c F x y body K i r ρ none from key items 0 ρ (by simp) (by simp) h0
  intro r
  induction r with
  | nil =>
    intro i ρ hd hl hi
    exact done ρ (by rw [← hl]; exact hi)
  | cons p r ih =>
    intro i ρ hd hl hi
    have hp : items[i]? = some p := by rw [← List.head?_drop, hd]; rfl
    have b := step i p ρ hp hi
    exact ⟨rfl, hx, hy, b.mono (turn_le fun ρ' σ' z => by
      obtain ⟨rfl, z⟩ := z
      exact ih (i + 1) ρ' (by rw [← List.drop_drop, hd]; rfl) (by rw [← hl, List.length_cons]; lia) z)⟩
theorem LoopW_inv {test : Expr} {body : List Stmt} (Inv : Nat → PEnv → Ow → Prop) (h0 : ∀ ρ σ, ¬ Inv 0 ρ σ)
    (step : ∀ n ρ σ, Inv (n + 1) ρ σ → Tr c ρ (isTrue test c.env (eval test c.env)) (fun b => if b then Sx c F ρ σ (execs body c.env) (K.turn (Inv n)) else K.next ρ σ) K.exc) :
    ∀ (n : Nat) (ρ : PEnv) (σ : Ow), Inv n ρ σ → LoopW c F test body K n ρ σ := by
  intro n
  induction n with
  | zero => intro ρ σ h; exact absurd h (h0 ρ σ)
  | succ n ih =>
    intro ρ σ h
    unfold LoopW
    refine Tr.mono (step n ρ σ h) fun b q => ?_
    cases b with
    | false => exact q
    | true => exact Sx.mono q (turn_le fun ρ' σ' z => ih ρ' σ' z)
end
end
section
open PySem PySem.W PySem.Calls PyProof.Rows
section
variable {prog : Program} {w : World} {A : Around} {E : Value → Shared → Prop} {s : Shared}
theorem call_list_bytes {Q : Value → Shared → Prop} (hh : A.handled = none) {b : Array UInt8} {t : Tok} (hn : b.size ≤ 2 ^ 20)
    (hQ : ∀ h' tk acc' c', (∀ a o, s.heap.get? a = some o → h'.get? a = some o) → h'.get? s.heap.objs.size = some { cls := .type "list", dict := none, data := .seq acc' c', slots := #[] } →
      ItemsOf (fun i v => ∃ c u, b[i]? = some c ∧ v = .int (c.toNat : Int) u) acc' b.size → Q (.ref s.heap.objs.size) { s with heap := h', toks := tk }) :
    wpAny (model prog w) A (call (.type "list") [.bytes b t]) Q E s := by
  have hn' : b.size ≤ sizeLine := by rw [sizeLine_eq]; lia
  refine callType_codes (Q₁ := fun obj s₁ => obj = .ref s.heap.objs.size ∧ s₁ = { s with heap := s.heap.push { cls := .type "list", data := .seq #[] } }) PySem.F.called_list (PySem.F.typeCall_list_1 _) PySem.F.entry_list_init
    (code_list_new _ ⟨rfl, rfl⟩) fun obj s₁ h₁ => ?_
  obtain ⟨rfl, rfl⟩ := h₁
  have hS : (s.heap.push { cls := .type "list", data := .seq #[] }).get? s.heap.objs.size = some { cls := .type "list", data := .seq #[] } := Heap.get?_push_size _ rfl
  have hk0 : ∀ a o, s.heap.get? a = some o → (s.heap.push { cls := .type "list", data := .seq #[] }).get? a = some o := fun a o e => Heap.get?_push_of_some _ e
  have hsz : (s.heap.push { cls := .type "list", data := .seq #[] }).objs.size = s.heap.objs.size + 1 := size_push' _ _
  refine ⟨⟨_, hS, rfl⟩, PySem.F.args_list_init_2 _ _, ?_⟩
  generalize (s.heap.push { cls := .type "list", data := .seq #[] }) = h1 at hS hk0 hsz
  have hlt : ∀ a o, s.heap.get? a = some o → a ≠ s.heap.objs.size := fun a o e => Nat.ne_of_lt (Heap.lt_size e)
  generalize s.heap.objs.size = S at hS hsz hQ hlt ⊢
  show wpAny _ _ (do let old ← Builtin.List.listItems (.ref S); Builtin.List.listUpdate (.ref S) (fun _ => #[]); letGo old.toList.reverse; Builtin.List.listExtendWith (.ref S) (.bytes b t) .none) _ _ _
  refine wpAny_bind ?_
  unfold Builtin.List.listItems
  refine wpAny_bind (wpAny_seqItems hS rfl (wpAny_pure ?_))
  show wpAny _ _ (updateSeq S (fun _ => #[]) >>= fun _ => letGo (#[] : Array Value).toList.reverse >>= fun _ => Builtin.List.listExtendWith (.ref S) (.bytes b t) .none) _ _ _
  refine wpAny_bind (wpAny_updateSeq hS rfl ?_)
  have hS₂ := Heap.get?_update_self (Obj.mapSeq (fun _ => (#[] : Array Value))) hS rfl
  have oth : ∀ a o, a ≠ S → h1.get? a = some o → (h1.update S (Obj.mapSeq (fun _ => (#[] : Array Value)))).get? a = some o :=
    fun a o hb e => (Heap.get?_update_other _ _ (Ne.symm hb)).trans e
  have hne : ∀ a o, s.heap.get? a = some o → a ≠ S := fun a o e q => hlt a o e q
  refine wpAny_bind (wpAny_letGo ?_)
  generalize h1.update S (Obj.mapSeq (fun _ => (#[] : Array Value))) = h2 at hS₂ oth
  unfold Builtin.List.listExtendWith
  refine wpAny_bind (wpAny_typeOf (T := "bytes") (v := .bytes b t) rfl ?_)
  have e1 : Builtin.List.listSameRef (.ref S) (.bytes b t) = false := rfl
  have e2 : (Value.type "bytes" == Value.type "list") = false := by decide
  have e3 : (Value.type "bytes" == Value.type "tuple") = false := by decide
  simp only [e1, e2, e3, Bool.or_false, Bool.false_eq_true, if_false]
  refine wpAny_bind (KBw.pyIter_bytes ?_)
  refine wpAny_bind (wpAny_holding ?_)
  unfold Builtin.List.listLengthHint
  refine wpAny_bind (wpAny_specialOf (T := "bytes") (v := .bytes b t) rfl FB.slot_bytes_len.lookup ?_)
  generalize hid : ("bytes.__len__" : String) = id0
  wp_delta
  rw [show splitId id0 = some ("bytes", "__len__") from by subst hid; decide +kernel]
  subst hid
  refine wpAny_bind (wpAny_isInstance (T := "bytes") (v := .bytes b t) (b := true) rfl (by rw [isSubtype_type]; kernel_rfl) ?_)
  refine wpAny_ite_split (fun hab => absurd hab (by decide)) (fun _ => ?_)
  refine wpAny_ite_split (fun _ => ?_) (fun hab => absurd (by decide +kernel) hab)
  refine wpAny_bind (wpAny_typeOf (T := "bytes") (v := .bytes b t) rfl ?_)
  refine wpAny_pure ?_
  refine wpAny_ite_split (fun hab => absurd hab (by decide)) (fun _ => ?_)
  have hSI : S ≠ h2.objs.size := Nat.ne_of_lt (Heap.lt_size hS₂)
  refine wpAny_pure ⟨plainId_quiet PySem.F.plain_extend_loop _, codeAny_extend_loopS (KBw.walks (prog := prog) (w := w) (A := A.in1.in1) hh h2.objs.size b t).toS hn' S (fun hm => hSI (List.mem_singleton.mp hm)) .none b.size 0 _ _ _ rfl (Nat.zero_le _)
    ⟨_, Heap.get?_push_size _ rfl, rfl, rfl⟩ (Heap.get?_push_of_some _ hS₂) (ItemsOf.nil _) fun s' acc' c' hm hS' hacc => ?_⟩
  rw [Moved.eq_with hm]
  refine ⟨rfl, hQ s'.heap s'.toks acc' c' (fun a o e => hm.heap a o (fun hmem => ?_) (Heap.get?_push_of_some _ (oth a o (hne a o e) (hk0 a o e)))) hS' hacc⟩
  rcases List.mem_cons.mp hmem with e' | hmem
  · exact hne a o e e'
  · exact absurd (Heap.lt_size (oth a o (hne a o e) (hk0 a o e))) (by rw [List.mem_singleton.mp hmem]; exact Nat.lt_irrefl _)
end
theorem RepAll.of_get {I : Im} : ∀ {vs : List Value} {ps : List PV}, vs.length = ps.length → (∀ (i : Nat) v p, vs[i]? = some v → ps[i]? = some p → Rep I v p) → RepAll I vs ps
  | [], [], _, _ => .nil
  | [], _ :: _, h, _ => nomatch h
  | _ :: _, [], h, _ => nomatch h
  | v :: vs, p :: ps, h, k => .cons (k 0 v p rfl rfl) (RepAll.of_get (Nat.succ.inj h) fun i v p => k (i + 1) v p)
section
variable {c : Cx} {Q : PV → Prop} {X : PX → Prop}
theorem list_bytes {l : List Int} (hl : l.length ≤ 2 ^ 20) (q : Q (.list (l.map .int))) : CallV c (.type "list") [.bytes l] Q X := by
  intro I s vs r rv
  refine RepAll.e1 rv fun rb => ?_
  all_goals
    refine Rep.bytesE rb fun b t e0 => ?_
    subst e0
    ·
      rw [octs_length] at hl
      refine call_list_bytes r.ok.handled hl fun h' tk acc' c' hk hS ⟨i1, i2⟩ => ?_
      have hnew : s.heap.get? s.heap.objs.size = none := get?_size _
      refine ⟨I.put s.heap.objs.size { cls := .type "list", dict := none, data := .seq acc' c', slots := #[] }, _, ⟨Im.le_put r.sub.none_new _, fun a o e => ?_, fun a o e => ?_, .of_keeps hk, rfl, rfl⟩, ?_, q⟩
      · by_cases z : a = s.heap.objs.size
        · rw [z, Im.put_self] at e; cases e; rw [z]; exact hS
        · rw [Im.put_ne _ _ z] at e; exact hk _ _ (r.sub _ _ e)
      · by_cases z : a = s.heap.objs.size
        · rw [z]; exact .inr hnew
        · rw [Im.put_ne _ _ z] at e; exact .inl e
      · refine .list (Im.put_self _ _ _) ⟨rfl, c', by rw [Array.toArray_toList]⟩ ?_
        refine RepAll.of_get (by rw [Array.length_toList, i1, List.length_map, octs_length]) fun i v p hv hp => ?_
        rw [Array.getElem?_toList] at hv
        obtain ⟨c', u, h1, rfl⟩ := i2 i v hv
        have : (octs b)[i]? = some (c'.toNat : Int) := by show (b.toList.map _)[i]? = _; rw [List.getElem?_map, Array.getElem?_toList, h1]; rfl
        rw [List.getElem?_map, this] at hp
        cases hp
        exact .int _ _
end
end
section
open PySem PySem.W PySem.Calls PyProof.Rows
structure EqC (K : Frag) (C : Addr) : Prop where
  eq : findIn K (.ref C) "__eq__" = some (some (.builtin "object.__eq__"))
  str : mroIn K C (.type "str") = some false
  obj : mroIn K C (.type "object") = some true
section
open PySem.SeqAt PySem.MeetsSeq
open AutoSeq1 (wpAny_loadPart')
theorem str_eq_inst (b : Str) (u : Tok) (l : Addr) (C d : Addr) :
    PySem.Meets (Builtin.«str.__eq__» ⟨[.str b u, .ref l], []⟩) (fun _ R s => s.heap.get? l = some (instObj C d) ∧ R (.ok (.ret .notImplemented)) s) :=
  .of_wp fun prog w A R s h => by obtain ⟨hp, g, d, tk, os⟩ := s; obtain ⟨hl, h⟩ := h; wp_walk using wpAny_loadPart' hl, wpAny_load hl; exact ⟨_, rfl, h⟩
variable {K : Frag} {prog : Program} {w : World} {A : Around} {E : Value → Shared → Prop} {s : Shared} {a C d : Addr} {od : Option Obj} {b : Str} {u : Tok}
theorem objEq_str {M : Model} {Q : Fin → Shared → Prop} (hq : Q (.done (.ret .notImplemented)) s) : wpAny M A (Builtin.«object.__eq__» ⟨[.ref a, .str b u], []⟩) Q E s := by
  unfold Builtin.«object.__eq__»
  repeat (first | with_reducible refine wpAny_of_eq (m := isSame _ _) (rfl : isSame (.ref a) (.str b u) = pure false) ?_ | wp_step)
  exact hq
theorem special_eq_str (X : K.In s.heap) (I : InstAt s.heap a (instObj C d) C od) (hE : EqC K C) {Q : Option Value → Shared → Prop} (q : Q (some .notImplemented) s) :
    wpAny (model prog w) A (callSpecialIfBound? (.ref a) "__eq__" [.str b u]) Q E s := by
  have S := F.cmp_object.eq
  have call1 : wpAny (model prog w) A (call (.builtin "object.__eq__") ([.ref a] ++ [.str b u])) (fun v => Q (some v)) E s :=
    wpAny_call (codeAny_call_builtin S.plain F.cmpEntry_eq (check_slot (owner := "object") F.cmpKind_eq F.cmpSplit_eq (I.type.andThen (looks_mroIn X hE.obj)) (F.cmpArgs_eq _ _) (objEq_str q)))
  simp only [callSpecialIfBound?, bindSpecialIfBound?]
  refine wpAny_holding (wpAny_bind (wpAny_bind (wpAny_bind (I.type.here ((looks_findIn X hE.eq).here ?_)))))
  simp only [S.bind]
  refine wpAny_bind (wpAny_askSetting (wpAny_ite ?_))
  have fin : wpAny (model prog w) A (call (.builtin "object.__eq__") ([.ref a] ++ [.str b u]) >>= fun v => pure (some v)) Q E s :=
    wpAny_bind (wpAny_mono call1 (fun v s' h' => wpAny_pure h') fun _ _ h' => h')
  split
  · exact wpAny_bind (wpAny_pure (wpAny_pure fin))
  · exact wpAny_tryCatch (wpAny_bind (wpAny_pure (wpAny_pure fin)))
theorem rc_str_inst (X : K.In s.heap) (I : InstAt s.heap a (instObj C d) C od) (hE : EqC K C) (hu : A.units < cLine) {Q : Value → Shared → Prop} (q : Q (.bool false) s) :
    wpAny (model prog w) A (richCompare .Eq (.str b u) (.ref a)) Q E s := by
  have hT := typeIs_str s b u
  simp only [richCompare, cmpInfo, hT.oneThing_none]
  refine wpAny_holding ?_
  refine wpAny_bind (wpAny_cRoomFor hu ?_)
  refine wpAny_bind (wpAny_typeOf hT (wpAny_bind (I.type.here ?_)))
  rw [if_pos (by rfl)]
  refine wpAny_bind ((looks_mroIn X hE.str).here ?_)
  simp only [Bool.false_eq_true, if_false, Bool.not_false, if_true]
  refine wpAny_bind (m := tryCompare (.str b u) _ (.ref a)) (wpAny_tryCompare_declines hT F.slot_str_eq (call_meets F.slot_str_eq hT F.entry_str_eq (F.args_str_eq_2 _ _) (str_eq_inst b u a C d) ⟨I.1, ⟨rfl, ?_⟩⟩))
  refine wpAny_bind (m := tryCompare (.ref a) _ (.str b u)) (wpAny_bind (special_eq_str X I hE (wpAny_pure ?_)))
  exact wpAny_bind (wpAny_rule (wpAny_bind (wpAny_of_eq (rfl : isSame (.str b u) (.ref a) = pure false) (wpAny_pure q))))
end
section
variable {c : Cx} {Q : PV → Prop} {X : PX → Prop}
theorem rep_strs {I : Im} {vs : List Value} {ps : List PV} (h : RepAll I vs ps) : (∀ p ∈ ps, ∃ y, p = .str y) → ∀ v ∈ vs, ∃ z t, v = .str z t :=
  RepAll.ind (motive := fun vs ps => (∀ p ∈ ps, ∃ y, p = .str y) → ∀ v ∈ vs, ∃ z t, v = .str z t) h (fun _ v h => nomatch h) fun r _ ih hp v h => by
    rcases List.mem_cons.mp h with rfl | h
    · obtain ⟨y, rfl⟩ := hp _ (.head _)
      refine Rep.strE r fun t => ?_
      exact ⟨_, _, rfl⟩
    · exact ih (fun p q => hp p (.tail _ q)) v h
theorem in_inst {C : Addr} {fs : List (Str × PV)} {l : List PV} (hC : EqC c.W.K C) (hl : ∀ p ∈ l, ∃ y, p = .str y) (q : Q (.bool false)) : V2 c (compareOp .In) (.inst C fs) (.list l) Q X := fun I s va vb d ra rb => by
  obtain ⟨a, dd, es, n, rfl, Ia, _⟩ := rep_inst d.sub ra
  refine Rep.listE rb ?_; intro b o vs hb ho hr
  ·
    obtain ⟨h1, m, h2⟩ := ho
    have hu := d.ok.units
    refine SeqAt.in_listAt (fun _ => false) (items := vs.toArray) ⟨_, d.sub _ _ hb, h1, _, h2⟩ (fun y hy => ?_) ?_
    · have : ∃ z t, y = .str z t := by
        exact rep_strs hr hl y (by simpa using hy)
      obtain ⟨z, t, rfl⟩ := this
      intro prog w E Q h
      unfold eqBool
      refine wpAny_holding ?_
      refine wpAny_ite_split (fun hab => ?_) (fun _ => ?_)
      · exact absurd (eq_of_beq hab) (fun z => nomatch z)
      · exact wpAny_bind (rc_str_inst d.inK Ia hC (by show c.A.units + 1 < cLine; lia) (wpAny_truthy_bool h))
    · rw [show (vs.toArray.any fun _ => false) = false by simp]
      exact QV.now' d.sub (.bool _) q
end
end
section
open PySem PySem.W PySem.Calls PyProof.Rows
section
variable {c : Cx} {F : Fm} {ρ ρ₁ : PEnv} {σ₁ : Ow} {I I₁ : Im} {s s₁ : Shared} {C : Addr} {h' : Heap}
theorem St.but (S₁ : St c F ρ₁ σ₁ I₁ s₁) (hC : s₁.heap.get? C = none) (S : St c F ρ none I s) (hI : I C = none) (hs : ∀ b, b ≠ C → h'.get? b = s.heap.get? b) : St c F ρ none I { s with heap := h' } := by
  have ne : ∀ {a o}, s₁.heap.get? a = some o → a ≠ C := fun e q => by rw [q, hC] at e; cases e
  have hloc : c.env.locals ≠ C := by
    obtain ⟨m, o, _, _, ho, _⟩ := S₁.ns
    exact ne ho
  have hcell : ∀ x a, c.env.cells.lookup x = some a → a ≠ C := fun x a e => by
    obtain ⟨v, o, ho, _⟩ := (S₁.cells x a e).1
    exact ne ho
  exact {
    rd := ⟨S.rd.ok, S.rd.base, fun a o e => (hs a (fun q => by rw [q, hI] at e; cases e)).trans (S.rd.sub a o e), fun env he => by
      obtain ⟨hk, L, o, hf, hL, hL2, hd⟩ := S.rd.stack env he
      obtain ⟨_, L', o', hf', _, hL2', _⟩ := S₁.rd.stack env he
      rw [hf] at hf'
      cases hf'
      exact ⟨hk, L, o, hf, hL, (hs L (ne hL2')).trans hL2, hd⟩, fun x p e => by
      obtain ⟨v, hv, hr⟩ := S.rd.vars x p e
      exact ⟨v, hv.sameBut hs (Ne.symm hloc) (fun a ha => hcell x a ha), hr⟩⟩
    hl := S.hl
    hf := S.hf
    kept := fun a o e => by
      obtain ⟨⟨o1, h1⟩, h2⟩ := S.kept a o e
      obtain ⟨⟨o2, h3⟩, _⟩ := S₁.kept a o e
      rw [hs a (ne h3)]
      exact ⟨⟨o1, h1⟩, h2⟩
    le₀ := S.le₀
    fresh₀ := S.fresh₀
    gens := S.gens
    os := S.os
    ns := by
      obtain ⟨m, o, es, ep, ho, r⟩ := S.ns
      exact ⟨m, o, es, ep, (hs _ hloc).trans ho, r⟩
    own := S.own
    cells := fun x a e => by
      obtain ⟨⟨v, o, ho, r⟩, h2⟩ := S.cells x a e
      exact ⟨⟨v, o, (hs _ (hcell x a e)).trans ho, r⟩, h2⟩
    apart := S.apart
    owned := fun _ _ _ e => nomatch e }
end
section
variable {c : Cx} {F : Fm} {ρ ρc : PEnv} {K : PK} {scope : Scope} {xs : List Str} {elt target iter : Expr} {ifs : List Expr} {pos cpos yp : Pos} {y : Str}
theorem Sx_assignC (hx : Slot1 c none y) (cl : List (Str × Addr)) (hc : CompSc c scope cl xs ρ ρc)
    (h : Ev c ρ (eval iter c.env) (fun p => ∃ items f, Iters c p items ∧ items.length ≤ 2 ^ 20 ∧ (∀ cl, CompSc c scope cl xs ρ ρc → ∀ p ∈ items, CompItem c scope cl xs ρc target elt ifs f p) ∧ K.next ((y, .list (items.filterMap f)) :: ρ) none) K.exc)
    (hsw : swapsWith (.ListComp elt [⟨target, iter, ifs, 0⟩] scope cpos) (some (.Name y yp)) pos.line c.env = pure true)
    (hs : ∀ v, foldedSetIterable iter c.env v = pure v := by intro _; rfl) : Sx c F ρ none (exec (.Assign [.Name y yp] (.ListComp elt [⟨target, iter, ifs, 0⟩] scope cpos) pos) c.env) K := fun I s S => by
  rw [exec_Assign_Name_used _ _ _ _ hsw, arm_evalThenUse_ListComp]
  refine wpAny_bind (wpAny_standAt (wpAny_bind (wpAny_bind (m := comprehension _ _ _ _ _ false _ _) ?_)))
  refine wpAny_comprehension_free (use := some _) rfl hs hc.clos hc.kind hc.names (h.then S.rd (fun v s₁ I₁ p a r₁ rv ⟨items, f, hit, hz, hi, q⟩ => ?_) fun _ _ x a b => ⟨x, S.exn a, b⟩)
  refine hit I₁ s₁ v _ _ r₁.ok.handled r₁.sub rv fun h' T W hT hk => ?_
  refine comp_block hc (s₂ := { s₁ with heap := h' }) r₁ W hT rfl hk rfl rfl hz (hi cl hc) ?_
  intro D C s' I' ys m' P hID hD hC hIC hCD hn hpl hys
  have S₁ := S.post a
  obtain ⟨nD, hoD⟩ := hpl
  have P₃ : Post c.l I₁ s₁ (I'.put D { cls := .type "list", data := .seq ys nD }) s' :=
    ⟨P.le.trans (Im.le_put hID _), fun a o e => by
      by_cases z : a = D
      · subst z; rw [Im.put_self] at e; cases e; exact hoD
      · rw [Im.put_ne _ _ z] at e; exact P.sub a o e, fun a o e => by
      by_cases z : a = D
      · subst z; exact .inr hD
      · rw [Im.put_ne _ _ z] at e; exact P.fresh a o e, P.kept, P.gens, P.os⟩
  have rep : Rep (I'.put D { cls := .type "list", data := .seq ys nD }) (.ref D) (.list (items.filterMap f)) := .list (Im.put_self _ _ _) (vs := ys.toList) ⟨rfl, nD, by simp⟩ (hys.mono (Im.le_put hID _))
  refine PyProof.Rows.assign_Name ((S₁.post P₃).store rep hx.1 hx.2 fun s'' S'' hk'' => ?_)
  have hloc : C ≠ c.env.locals := fun q => by
    obtain ⟨_, o, _, _, ho, _⟩ := S₁.ns
    rw [← q, hC] at ho; cases ho
  obtain ⟨o, es, ep, ho, hd, hm⟩ := hn
  refine ⟨m', ⟨o, es, ep, hk'' _ _ ho hloc (fun v z => by rw [hd] at z; cases z), hd, hm⟩, fun h₂ hsb => ?_⟩
  refine wpAny_pure (wpAny_pure ?_)
  exact ⟨_, a.le.trans P₃.le, _, _, S₁.but hC S'' (by rw [Im.put_ne _ _ hCD]; exact hIC) hsb.2, q⟩
end
end
section
open PySem PySem.W PySem.Calls PyProof.Rows
noncomputable def IntEs (l : List (Int × Value)) : Prop := ∀ e ∈ l, ∃ i tk, e = (hashInt i, .int i tk)
inductive SetL (b : Bool) (h : Heap) (a : Addr) (n : Nat) : Prop
  | mk (o : Obj) (es : Array (Int × Value)) (ep : Nat) (t : SetTable) (h1 : h.get? a = some o) (h2 : o.ExactSet) (h3 : o.data = .set es ep t) (h4 : IntEs es.toList) (h5 : t.fits es.size = true) (h6 : es.size ≤ n) (h7 : t.led = b)
theorem isInt_self (i : Int) (tk : Tok) : Value.isInt i (.int i tk) = true := by simp [Value.isInt]
theorem IntEs.elems {prog : Program} {w : World} {l : List (Int × Value)} (h : IntEs l) : ElemsOf (intKind prog w) l := fun e he => by
  obtain ⟨i, tk, rfl⟩ := h e he
  exact ⟨⟨i, isInt_self i tk, rfl⟩, rfl⟩
theorem IntEs.perm {l l' : List (Int × Value)} (h : IntEs l) (p : List.Perm l' l) : IntEs l' := fun e he => h e (p.mem_iff.mp he)
theorem led_orStandIn (t : SetTable) (n : Nat) : (t.orStandIn n).led = t.led := by unfold SetTable.orStandIn; split <;> rfl
theorem led_layNew (t : SetTable) (es : Array (Int × Value)) (h : Int) (x : Value) : (layNew t es h x).2.1.led = t.led := by
  unfold layNew
  split
  · exact led_orStandIn _ _
  · rfl
theorem led_laid {mask finger moves : Nat} {led plain : Bool} {hs : Array Int} {r : SetTable × Array Nat} (h : SetTable.laid mask finger moves led plain hs = some r) : r.1.led = led := by
  unfold SetTable.laid at h
  cases ho : SetTable.layClean mask hs with
  | none => rw [ho] at h; cases h
  | some o => rw [ho] at h; cases h; rfl
theorem led_relayAll (t : SetTable) (es : Array (Int × Value)) (n : Nat) : (relayAll t es n).2.1.led = t.led := by
  unfold relayAll
  cases h : t.relaid (es.map (·.1)) n with
  | none => rfl
  | some r =>
    obtain ⟨t', o⟩ := r
    dsimp only
    split
    · exact led_laid h
    · rfl
section
variable {prog : Program} {w : World} {A : Around} {E : Value → Shared → Prop} {s : Shared} {a : Addr} {b : Bool} {n : Nat}
inductive StoreL (b : Bool) (h : Heap) (a : Addr) (n ep : Nat) (es' : Array (Int × Value)) (t' : SetTable) : Prop
  | mk (o' : Obj) (h1 : h.get? a = some o') (h2 : o'.ExactSet) (h3 : o'.data = .set es' (ep + 1) t') (h4 : SetL b h a n)
inductive AddPost (s : Shared) (a : Addr) (b : Bool) (n : Nat) (r : Option Bool) (s' : Shared) : Prop
  | mk (h' : Heap) (e1 : r = some true) (e2 : s' = { s with heap := h' }) (sb : Heap.SameBut a s.heap h') (hS : SetL b h' a n)
theorem SetL.store {h : Heap} {o : Obj} {es : Array (Int × Value)} {ep : Nat} {t : SetTable} (ho : h.get? a = some o) (hex : o.ExactSet) (hd : o.data = .set es ep t) {es' : Array (Int × Value)} {t' : SetTable} (hi : IntEs es'.toList)
    (hf : t'.fits es'.size = true) (hn : es'.size ≤ n) (hb : t'.led = b) : StoreL b (h.update a (Obj.putSet es' t')) a n ep es' t' := by
  have hg : (h.update a (Obj.putSet es' t')).get? a = some { o with data := .set es' (ep + 1) t' } := by
    have := Heap.get?_update_self (Obj.putSet es' t') ho (by rw [putSet_of es' t' hd]; rfl)
    rw [putSet_of es' t' hd] at this; exact this
  exact ⟨_, hg, hex, rfl, _, es', ep + 1, t', hg, hex, rfl, hi, hf, hn, hb⟩
theorem wp_gave {g : Bool} {Q : Unit → Shared → Prop} (q : Q () s) : wpAny (model prog w) A (match g with | true => rule "set.scan.the-table-gave-way" | false => pure ()) Q E s := by
  cases g
  · exact wpAny_pure q
  · exact wpAny_rule q
theorem add_L {x : Int} {tk : Tok} {Q : Bool → Shared → Prop} (hS : SetL b s.heap a n) (hr : n + 1 < scanBound) (h : ∀ h' r, Heap.SameBut a s.heap h' → SetL b h' a (n + 1) → Q r { s with heap := h' }) :
    wpAny (model prog w) A (setAddHashed a (.int x tk) (hashInt x)) Q E s := by
  obtain ⟨o, es, ep, t, ho, hex, hd, hi, hf, hn, hb⟩ := hS
  have hel := hi.elems (prog := prog) (w := w)
  have hz : es.size < scanBound := Nat.lt_of_le_of_lt hn (Nat.lt_of_succ_lt hr)
  unfold setAddHashed setAddHashedIn
  refine wpAny_holding (wpAny_bind (wpAny_setState_of ho hd hf ?_))
  dsimp only
  rw [byScan_of (knd := intKind prog w) rfl hz hel, if_pos rfl]
  unfold setAddByScan
  refine wpAny_bind (wpAny_bind (wpAny_rule (wpAny_bind (wpAny_setScan_of (knd := intKind prog w) (k := x) (isInt_self x tk) ho hd hf hel ?_))))
  cases List.findIdx? (fun e => (intKind prog w).is x e.2) es.toList with
  | some j =>
    refine wpAny_pure (wpAny_pure ?_)
    exact h s.heap false (Heap.SameBut.refl a s.heap) ⟨o, es, ep, t, ho, hex, hd, hi, hf, Nat.le_succ_of_le hn, hb⟩
  | none =>
    dsimp only
    have hp := layNew_perm t es (hashInt x) (.int x tk)
    have hf1 := layNew_fits t es (hashInt x) (.int x tk)
    have hl1 := led_layNew t es (hashInt x) (.int x tk)
    generalize layNew t es (hashInt x) (.int x tk) = L at hp hf1 hl1 ⊢
    obtain ⟨es1, t1, wasDummy, gave⟩ := L
    dsimp only at hp hf1 hl1 ⊢
    rw [Array.toList_push] at hp
    have hi1 : IntEs es1.toList := fun e he => by
      rcases List.mem_append.mp (hp.mem_iff.mp he) with z | z
      · exact hi e z
      · cases List.mem_singleton.mp z; exact ⟨x, tk, rfl⟩
    have hz1 : es1.size = es.size + 1 := by rw [← Array.length_toList, hp.length_eq, List.length_append, Array.length_toList]; rfl
    refine wpAny_bind (wp_gave ?_)
    have key : ∀ (by' : Bool) (t2 : SetTable), t2.fits es1.size = true → t2.led = b → wpAny (model prog w) A (do
        storeSet a es1 t2
        if (!wasDummy && t2.tooFull) = true then do
            let r := relayAll t2 es1 (SetTable.grown es1.size)
            (match r.2.2 with | true => rule "set.scan.the-table-gave-way" | false => pure ())
            storeSet a r.1 r.2.1
            pure (some true)
          else pure (some true)) (AddPost s a b (n + 1)) E s := fun _ t2 hf2 hl2 => by
      have hb1 : es1.size < scanBound := by lia
      refine wpAny_bind (wpAny_storeSet_of ho hd ?_ (fits_of_scanBound hb1))
      obtain ⟨o', ho', hex', hd', hS'⟩ := SetL.store (n := n + 1) ho hex hd hi1 hf2 (by lia) hl2
      have sb := Heap.SameBut.update s.heap a (Obj.putSet es1 t2)
      split
      · have p2 := relayAll_perm t2 es1 (SetTable.grown es1.size)
        have f2 := relayAll_fits t2 es1 (SetTable.grown es1.size)
        have l2 := led_relayAll t2 es1 (SetTable.grown es1.size)
        generalize relayAll t2 es1 (SetTable.grown es1.size) = R at p2 f2 l2 ⊢
        obtain ⟨es2, t3, g2⟩ := R
        dsimp only at p2 f2 l2 ⊢
        have z2 : es2.size = es1.size := by rw [← Array.length_toList, p2.length_eq, Array.length_toList]
        refine wpAny_bind (wp_gave ?_)
        refine wpAny_bind (wpAny_storeSet_of ho' hd' ?_ (fits_of_scanBound (by lia)))
        obtain ⟨_, _, _, _, hS2⟩ := SetL.store (n := n + 1) ho' hex' hd' (hi1.perm p2) f2 (by lia) (l2.trans hl2)
        exact wpAny_pure ⟨_, rfl, rfl, sb.trans (Heap.SameBut.update _ a _), hS2⟩
      · exact wpAny_pure ⟨_, rfl, rfl, sb, hS'⟩
    split
    · refine wpAny_bind ?_
      rw [hashByValue_scannable 8 (x := .int x tk) rfl]
      refine wpAny_pure ?_
      refine wpAny_mono (key true _ (by exact hf1) (by exact hl1.trans hb)) (fun r s' hk => ?_) fun _ _ z => z
      obtain ⟨h', rfl, rfl, sb, hS⟩ := hk
      exact wpAny_pure (h h' true sb hS)
    · refine wpAny_bind (wpAny_pure ?_)
      refine wpAny_mono (key true _ hf1 (hl1.trans hb)) (fun r s' hk => ?_) fun _ _ z => z
      obtain ⟨h', rfl, rfl, sb, hS⟩ := hk
      exact wpAny_pure (h h' true sb hS)
end
end
section
open PySem PySem.W PySem.Calls PyProof.Rows
theorem SetL.at {b : Bool} {h h' : Heap} {a : Addr} {n : Nat} (x : SetL b h a n) (k : ∀ o, h.get? a = some o → h'.get? a = some o) : SetL b h' a n := by
  obtain ⟨o, es, ep, t, h1, h2, h3, h4, h5, h6, h7⟩ := x
  exact ⟨o, es, ep, t, k o h1, h2, h3, h4, h5, h6, h7⟩
section
variable {prog : Program} {w : World} {A : Around} {R : Result → Shared → Prop} {I : Addr} {fp wr : List Addr} {G : Array GenState → Array GenState → Prop} {n : Nat} {P : Nat → Value → Prop} {St : Nat → Shared → Prop}
theorem upd_L (W : WalksS prog w A.in1 I fp wr G n P St) (S : Addr) (hSf : S ∉ fp) {b : Bool} (hval : ∀ i v, P i v → ∃ x t, v = .int x t) (hb : n + 1 < scanBound) : ∀ (k i : Nat) (s : Shared), n - i = k → i ≤ n → St i s → SetL b s.heap S i →
    (∀ s', Moved (S :: wr) G s s' → SetL b s'.heap S n → R (.ok (.ret .none)) s') → codeAny (model prog w) A (.builtin "set.update.loop" ⟨[.ref S, .ref I], []⟩) R s := by
  have hSw : S ∉ wr := fun h => hSf (W.sub _ h)
  have hsub : ∀ b ∈ wr, b ∈ S :: wr := fun b hb => List.mem_cons_of_mem _ hb
  intro k
  induction k with
  | zero =>
    intro i s hk hi hst hS hR
    obtain rfl : i = n := by omega
    refine codeAny_builtin F.entry_set_update_loop ?_
    rw [Around.under_plainId F.plain_set_update_loop _]
    show wpAny _ A.in1 (pyNext (.ref I) >>= _) _ _ s
    refine wpAny_bind (W.done s _ _ hst fun s' hm => ?_)
    show wpAny _ A.in1 (ret Value.none) _ _ s'
    exact wpAny_pure (hR s' (hm.mono hsub) (hS.at fun o ho => hm.heap S _ hSw ho))
  | succ k ih =>
    intro i s hk hi hst hS hR
    have hlt : i < n := by omega
    refine codeAny_builtin F.entry_set_update_loop ?_
    rw [Around.under_plainId F.plain_set_update_loop _]
    show wpAny _ A.in1 (pyNext (.ref I) >>= _) _ _ s
    refine wpAny_bind (W.item i s _ _ hlt hst fun v s' hP hst' hm => ?_)
    obtain ⟨x, t, rfl⟩ := hval i v hP
    have hS' : SetL b s'.heap S i := hS.at fun o ho => hm.heap S _ hSw ho
    show wpAny _ A.in1 (holding [Value.int x t] (setAdd S (.int x t)) >>= _) _ _ s'
    refine wpAny_bind (wpAny_holding ?_)
    unfold setAdd
    refine wpAny_holding ?_
    refine wpAny_bind ((intKind prog w).pyHash (k := x) (isInt_self x t) ?_)
    refine add_L (s := { s' with toks := s'.toks + 1 }) hS' (by omega) fun h' r hsb hS2 => ?_
    refine wpAny_pure ⟨plainId_quiet F.plain_set_update_loop _, ih (i + 1) _ (by omega) hlt (W.frame _ s' _ _ hst' (Nat.le_succ _) fun b hb o e => ?_) hS2 fun s'' hm'' hS'' => ?_⟩
    · rw [hsb.2 b (fun h : b = S => hSf (by rw [← h]; exact hb))]; exact e
    · refine hR s'' (Moved.trans W.gtrans ((hm.mono hsub).then_heap (Nat.le_succ _) fun b o hb e => ?_) hm'') hS''
      rw [hsb.2 b (fun h : b = S => hb (by rw [h]; exact List.mem_cons_self))]; exact e
end
section
variable {prog : Program} {w : World} {A : Around} {E : Value → Shared → Prop} {s : Shared}
noncomputable abbrev newSetO (led : Bool) : Obj := { cls := .type "set", dict := none, data := .set #[] 0 (.fresh 0 0 led) }
noncomputable abbrev ledOf (w : World) : Bool := !w.params.followText "set-order"
theorem code_set_new_L (a : Value) {Q₁ : Value → Shared → Prop} (h : Q₁ (.ref s.heap.objs.size) { s with heap := s.heap.push (newSetO (ledOf w)) }) :
    codeAny (model prog w) A (.call (.builtin "set.__new__") ⟨[.type "set", a], []⟩) (wants Q₁ E) s := by
  refine codeAny_of_tree ?_
  show wpAny _ A.in1 (do checkBuiltinCall "set.__new__" ⟨[.type "set", a], []⟩; again (.builtin "set.__new__" ⟨[.type "set", a], []⟩)) _ _ s
  refine wpAny_bind (wpAny_of_eq (PySem.F.newCall_set_1 a) (wpAny_pure ⟨plainId_quiet PySem.F.plain_set_new _, codeAny_builtin PySem.F.entry_set_new ?_⟩))
  rw [Around.under_plainId PySem.F.plain_set_new _]
  unfold Builtin.«set.__new__» Builtin.Frozenset.newClass
  have hsub := sub_set_self
  obtain ⟨hp, g, d, tk, os⟩ := s
  dsimp only
  wp_walk
  refine wpAny_askSetting (wpAny_pure ?_)
  dsimp only
  simp only [newObj]
  refine wpAny_bind (wpAny_alloc (wpAny_pure ?_))
  exact wpAny_pure h
end
end
section
open PySem PySem.W PySem.Calls PyProof.Rows
section
variable {prog : Program} {w : World} {A : Around} {E : Value → Shared → Prop} {s : Shared}
theorem set_setL (h : Heap) (led : Bool) : SetL led (h.push (newSetO led)) h.objs.size 0 :=
  ⟨_, #[], 0, _, Heap.get?_push_size _ rfl, ⟨rfl, rfl, rfl⟩, rfl, fun e he => by simp at he, by rfl, Nat.le_refl _, rfl⟩
set_option maxHeartbeats 3200000 in
theorem init_set_L {led : Bool} {l : Addr} {items : Array Value} {R : Fin → Shared → Prop} (hh : A.handled = none) (hl : s.heap.IsList l items) (hi : ∀ (i : Nat) v, items[i]? = some v → ∃ x t, v = .int x t) (hb : items.size + 1 < scanBound)
    (h : ∀ (h' : Heap) (tk : Nat), SetL led h' s.heap.objs.size items.size → (∀ b o, b < s.heap.objs.size → s.heap.get? b = some o → h'.get? b = some o) → R (.done (.ret .none)) { s with heap := h', toks := tk }) :
    wpAny (model prog w) A.in1 (Builtin.«set.__init__» ⟨[.ref s.heap.objs.size, .ref l], []⟩) R E { s with heap := s.heap.push (newSetO led) } := by
  obtain ⟨ol, hol, hcl, nl, hdl⟩ := hl
  obtain ⟨ocls, odict, odata, oslots⟩ := ol
  simp only at hcl hdl
  subst hcl; subst hdl
  have hol' : (s.heap.push (newSetO led)).get? l = some { cls := .type "list", dict := odict, data := .seq items nl, slots := oslots } := Heap.get?_push_of_some _ hol
  have hsls := PySem.F.sub_list_set
  have hslf := PySem.F.sub_list_frozenset
  have hne : (Value.type "list" == Value.type "dict") = false := by decide
  have hl1 : (s.heap.push (newSetO led)).IsList l items := ⟨_, hol', rfl, nl, rfl⟩
  unfold Builtin.«set.__init__» noKeywords Builtin.Frozenset.updateFrom
  generalize hPI : pyIter = PI
  wp_walk
  subst hPI
  refine wpAny_pyIter_list hl1 ?_
  refine wpAny_bind (wpAny_runValue ?_)
  have hlS : l < s.heap.objs.size := Heap.lt_size hol
  have hh3 : A.in1.in1.handled = none := by simp [hh]
  have hneI : l ≠ (s.heap.push (newSetO led)).objs.size := by
    rw [Heap.size_push]; exact Nat.ne_of_lt (Nat.lt_succ_of_lt hlS)
  have hSf : s.heap.objs.size ∉ [(s.heap.push (newSetO led)).objs.size, l] := by
    rw [Heap.size_push]; simp only [List.mem_cons, List.mem_singleton, List.not_mem_nil, or_false, not_or]
    exact ⟨Nat.ne_of_lt (Nat.lt_succ_self _), Nat.ne_of_gt hlS⟩
  refine upd_L ((Walks.list hh3 _ l hneI items).toS) s.heap.objs.size hSf hi hb (items.size - 0) 0 _ (by lia) (Nat.zero_le _) ⟨⟨_, Heap.get?_push_size _ rfl, rfl, rfl⟩, (hl1.push _)⟩ ((set_setL s.heap led).at fun o ho => Heap.get?_push_of_some _ ho) ?hR
  case hR =>
    intro s' hm hS'
    obtain ⟨h', g', d', tk', os'⟩ := s'
    have eg : g' = s.gens := hm.gens
    have ed : d' = s.drawn := hm.drawn
    have eo : os' = s.os := hm.os
    subst eg; subst ed; subst eo
    show wpAny _ _ _ _ _ _
    refine wpAny_pure ?_
    show wpAny _ _ (ret Value.none) _ _ _
    refine wpAny_pure (h h' tk' hS' fun b o hb e => ?_)
    have hb1 : b ≠ s.heap.objs.size := Nat.ne_of_lt hb
    have hb2 : b ≠ (s.heap.push (newSetO led)).objs.size := by
      rw [Heap.size_push]; exact Nat.ne_of_lt (Nat.lt_succ_of_lt hb)
    exact hm.heap b o (by simp only [List.mem_cons, List.mem_singleton, List.not_mem_nil, or_false, not_or]; exact ⟨hb1, hb2⟩) (Heap.get?_push_of_some _ (Heap.get?_push_of_some _ e))
set_option maxHeartbeats 3200000 in
theorem call_set_L {l : Addr} {items : Array Value} {Q : Value → Shared → Prop} (hh : A.handled = none) (hl : s.heap.IsList l items) (hi : ∀ (i : Nat) v, items[i]? = some v → ∃ x t, v = .int x t) (hb : items.size + 1 < scanBound)
    (h : ∀ (h' : Heap) (tk : Nat), SetL (ledOf w) h' s.heap.objs.size items.size → (∀ b o, b < s.heap.objs.size → s.heap.get? b = some o → h'.get? b = some o) → Q (.ref s.heap.objs.size) { s with heap := h', toks := tk }) :
    wpAny (model prog w) A (call (.type "set") [.ref l]) Q E s := by
  obtain ⟨c, tl, hmro⟩ := PySem.F.called_set.mro
  have hmade := PySem.F.called_set.made
  have hsub := PySem.F.called_set.sub
  refine wpAny_call (codeAny_of_tree ?_)
  show wpAny _ _ (callAny (.type "set") _) _ _ _
  refine wpAny_pure ⟨Code.quiet_builtin _ (by decide +kernel), codeAny_builtin PySem.F.entry_type_call ?_⟩
  rw [Around.under_plain (weight_type_call_type "set" [.ref l] []) rfl]
  have h1 := PySem.F.called_set.notType
  have h2 := PySem.F.called_set.canCreate
  have hct := PySem.F.typeCall_set_1 (.ref l)
  repeat (any_goals (first | assumption | wp_step))
  refine codeAny_mono (code_set_new_L (.ref l) (E := E) (Q₁ := fun obj s₁ => obj = .ref s.heap.objs.size ∧ s₁ = { s with heap := s.heap.push (newSetO (ledOf w)) }) ⟨rfl, rfl⟩) fun r s₁ hr => ?_
  cases r with
  | error e => exact hr
  | ok fl =>
    cases fl with
    | ret obj =>
      obtain ⟨rfl, rfl⟩ := hr
      generalize hLed : ledOf w = led at h ⊢
      have hS : (s.heap.push (newSetO led)).get? s.heap.objs.size = some (newSetO led) := Heap.get?_push_size _ rfl
      have hT : Shared.TypeIs { s with heap := s.heap.push (newSetO led) } (.ref s.heap.objs.size) "set" := ⟨_, hS, rfl⟩
      have hli := PySem.F.called_set.init.lookup
      have hbi := PySem.F.called_set.init.bind (.ref s.heap.objs.size)
      repeat (any_goals (first | assumption | wp_step))
      refine codeAny_mono (codeAny_call_builtin (R := wants (fun r s₂ => r = .none ∧ ∃ h' tk, s₂ = { s with heap := h', toks := tk } ∧ SetL led h' s.heap.objs.size items.size ∧
          (∀ b o, b < s.heap.objs.size → s.heap.get? b = some o → h'.get? b = some o)) E) PySem.F.called_set.init.plain PySem.F.entry_set_init (check_set_init_1 hT ?_)) fun r₂ s₂ hr₂ => ?_
      · exact init_set_L (A := A.in1) hh hl hi hb fun h' tk hS' hk => ⟨rfl, h', tk, rfl, hS', hk⟩
      · cases r₂ with
        | error e => exact hr₂
        | ok fl₂ =>
          cases fl₂ with
          | ret r =>
            obtain ⟨rfl, h', tk, rfl, hS', hk'⟩ := hr₂
            repeat (any_goals (first | assumption | wp_step))
            exact h _ _ hS' hk'
          | _ => exact hr₂.elim
    | _ => exact hr.elim
end
end
section
open PySem PySem.W PySem.Calls PyProof.Rows
open PySem.Builtin
theorem slot_set_iter : Slot "set" "__iter__" "set.__iter__" :=
  .of (owner := "set") (n := "__iter__") (by rw [typeLookup_type, builtinLookup_eq_fast]; kernel_rfl) (by decide +kernel) (by decide +kernel) (by decide +kernel)
    (by first | exact .inl (by decide +kernel) | exact .inr (by decide +kernel)) (by rw [isSubtype_type]; kernel_rfl)
theorem entry_set_iter : entryFor table "set.__iter__" = some Builtin.«frozenset.__iter__» := entryFor_alias (id' := "frozenset.__iter__") (by kernel_rfl) rfl (by decide +kernel) (by kernel_rfl)
theorem args_set_iter (a : Value) : argsOk "set.__iter__" ⟨[a], []⟩ := by unfold argsOk; kernel_rfl
theorem slot_si_next : Slot "set_iterator" "__next__" "set_iterator.__next__" :=
  .of (owner := "set_iterator") (n := "__next__") (by rw [typeLookup_type, builtinLookup_eq_fast]; kernel_rfl) (by decide +kernel) (by decide +kernel) (by decide +kernel)
    (by first | exact .inl (by decide +kernel) | exact .inr (by decide +kernel)) (by rw [isSubtype_type]; kernel_rfl)
theorem entry_si_next : entryFor table "set_iterator.__next__" = some Builtin.«set_iterator.__next__» := entryFor_of_tree (by kernel_rfl)
theorem args_si_next (a : Value) : argsOk "set_iterator.__next__" ⟨[a], []⟩ := by unfold argsOk; kernel_rfl
theorem slot_si_self : Slot "set_iterator" "__iter__" "set_iterator.__iter__" :=
  .of (owner := "set_iterator") (n := "__iter__") (by rw [typeLookup_type, builtinLookup_eq_fast]; kernel_rfl) (by decide +kernel) (by decide +kernel) (by decide +kernel)
    (by first | exact .inl (by decide +kernel) | exact .inr (by decide +kernel)) (by rw [isSubtype_type]; kernel_rfl)
theorem entry_si_self : entryFor table "set_iterator.__iter__" = some Builtin.«dict_keyiterator.__iter__» := entryFor_alias (id' := "dict_keyiterator.__iter__") (by kernel_rfl) rfl (by decide +kernel) (by kernel_rfl)
theorem args_si_self (a : Value) : argsOk "set_iterator.__iter__" ⟨[a], []⟩ := by unfold argsOk; kernel_rfl
inductive SAt (h : Heap) (S : Addr) (es : Array (Int × Value)) (ep : Nat) (t : SetTable) : Prop
  | mk (o : Obj) (h1 : h.get? S = some o) (h2 : o.cls = .type "set") (h3 : o.data = .set es ep t) (h4 : t.fits es.size = true)
inductive ItAt (h : Heap) (it S : Addr) (f : Value) (i n ep : Nat) : Prop
  | mk (o : Obj) (t1 t2 t3 : Tok) (h1 : h.get? it = some o) (h2 : o.cls = .type "set_iterator") (h3 : o.data = .fields #[f, .int i t1, .ref S, .int n t2, .int ep t3])
theorem SAt.at {h h' : Heap} {S : Addr} {es : Array (Int × Value)} {ep : Nat} {t : SetTable} (x : SAt h S es ep t) (k : ∀ o, h.get? S = some o → h'.get? S = some o) : SAt h' S es ep t := by obtain ⟨o, h1, h2, h3, h4⟩ := x; exact ⟨o, k o h1, h2, h3, h4⟩
theorem ItAt.at {h h' : Heap} {it S : Addr} {f : Value} {i n ep : Nat} (x : ItAt h it S f i n ep) (k : ∀ o, h.get? it = some o → h'.get? it = some o) : ItAt h' it S f i n ep := by obtain ⟨o, t1, t2, t3, h1, h2, h3⟩ := x; exact ⟨o, t1, t2, t3, k o h1, h2, h3⟩
section
variable {prog : Program} {w : World} {A : Around} {E : Value → Shared → Prop} {s : Shared} {it S : Addr} {es : Array (Int × Value)} {i n ep : Nat} {t : SetTable} {f : Value}
theorem ItAt.type (y : ItAt s.heap it S f i n ep) : s.TypeIs (.ref it) "set_iterator" := by obtain ⟨o, _, _, _, ho, hc, _⟩ := y; exact ⟨o, ho, hc⟩
theorem SAt.type (y : SAt s.heap S es ep t) : s.TypeIs (.ref S) "set" := by obtain ⟨o, ho, hc, _, _⟩ := y; exact ⟨o, ho, hc⟩
theorem SAt.state (y : SAt s.heap S es ep t) {Q : (Array (Int × Value) × Nat × SetTable) → Shared → Prop} (q : Q (es, ep, t) s) : wpAny (model prog w) A (setState S) Q E s := by obtain ⟨_, ho, _, hd, hf⟩ := y; exact wpAny_setState_of ho hd hf q
theorem self_si (hit : ItAt s.heap it S f i n ep) {Q : Value → Shared → Prop} (h : Q (.ref it) s) : wpAny (model prog w) A (pyIter (.ref it)) Q E s := by
  refine wpAny_pyIter_slot hit.type slot_si_self (wpAny_call_entry slot_si_self hit.type entry_si_self ?_ (args_si_self _))
  show wpAny _ _ (ret (.ref it)) _ _ s
  exact wpAny_pure ⟨_, rfl, "set_iterator", _, hit.type, slot_si_next.lookup, h⟩
theorem next_si {slot : Int} {tk : Tok} {x : Value} {nx : Nat} {Q : Option Value → Shared → Prop} (hit : ItAt s.heap it S (.int slot tk) i es.size ep) (hS : SAt s.heap S es ep t)
    (hn : ∀ (A : Around) (E : Value → Shared → Prop) (Q : Option (Value × Nat) → Shared → Prop), Q (some (x, nx)) s → wpAny (model prog w) A (setNext S slot.toNat i ep) Q E s)
    (hQ : ∀ h', ItAt h' it S (.int nx 0) (i + 1) es.size ep → Heap.SameBut it s.heap h' → Q (some x) { s with heap := h' }) : wpAny (model prog w) A (pyNext (.ref it)) Q E s := by
  obtain ⟨o, t1, t2, t3, ho, hc, hd⟩ := id hit
  unfold pyNext
  refine wpAny_bind (wpAny_attempt (wpAny_callSpecial?_slot (name := PySem.Str.ofString "__next__") hit.type slot_si_next
    (wpAny_call_entry slot_si_next hit.type entry_si_next ?_ (args_si_next _))))
  unfold Builtin.«set_iterator.__next__»
  refine wpAny_bind (m := slotArgs _ _ _) (wpAny_pure ?_)
  refine wpAny_bind (wpAny_fieldsOf ho hd ?_)
  dsimp only
  refine wpAny_bind (wpAny_bind (hS.state (wpAny_pure ?_)))
  rw [if_neg (by simp)]
  simp only [Int.toNat_natCast]
  refine wpAny_bind (hn _ _ _ ?_)
  dsimp only
  refine wpAny_bind (wpAny_setField ho hd (by simp) ?_)
  have ho1 := Heap.get?_update_self (Obj.mapFields (·.setIfInBounds 0 (rawInt nx))) ho (Obj.isFreed_of_fields (Obj.data_mapFields hd _))
  have hd1 := Obj.data_mapFields hd (·.setIfInBounds 0 (rawInt nx))
  refine wpAny_bind (wpAny_setField ho1 hd1 (by simp) ?_)
  refine wpAny_pure ⟨_, rfl, wpAny_pure (hQ _ ?_ ((Heap.SameBut.update ..).trans (Heap.SameBut.update ..)))⟩
  exact ⟨_, _, _, _, Heap.get?_update_self _ ho1 (Obj.isFreed_of_fields (Obj.data_mapFields hd1 _)), (Obj.cls_mapFields ..).trans ((Obj.cls_mapFields ..).trans hc), by
    rw [Obj.data_mapFields hd1]; simp [rawInt]; exact ⟨rfl, rfl, rfl⟩⟩
theorem stop_si {slot : Int} {tk : Tok} {Q : Option Value → Shared → Prop} (hh : A.handled = none) (hit : ItAt s.heap it S (.int slot tk) i es.size ep) (hS : SAt s.heap S es ep t)
    (hn : ∀ (A : Around) (E : Value → Shared → Prop) (Q : Option (Value × Nat) → Shared → Prop), Q none s → wpAny (model prog w) A (setNext S slot.toNat i ep) Q E s)
    (hQ : ∀ h', Heap.ExtBut it s.heap h' → Q none { s with heap := h' }) : wpAny (model prog w) A (pyNext (.ref it)) Q E s := by
  obtain ⟨o, t1, t2, t3, ho, hc, hd⟩ := id hit
  unfold pyNext
  refine wpAny_bind (wpAny_attempt (wpAny_callSpecial?_slot (name := PySem.Str.ofString "__next__") hit.type slot_si_next
    (wpAny_call_entry slot_si_next hit.type entry_si_next ?_ (args_si_next _))))
  unfold Builtin.«set_iterator.__next__»
  refine wpAny_bind (m := slotArgs _ _ _) (wpAny_pure ?_)
  refine wpAny_bind (wpAny_fieldsOf ho hd ?_)
  dsimp only
  refine wpAny_bind (wpAny_bind (hS.state (wpAny_pure ?_)))
  rw [if_neg (by simp)]
  simp only [Int.toNat_natCast]
  refine wpAny_bind (hn _ _ _ ?_)
  dsimp only
  refine wpAny_bind (wpAny_setField ho hd (by simp) ?_)
  show wpAny _ _ (newExc (.type "StopIteration") [] >>= _) _ _ _
  refine wpAny_bind ?_
  simp only [newExc, newTuple]
  refine wpAny_bind (wpAny_newObj_type ?_ (by size_fits))
  refine wpAny_bind (m := firstArgMember _ _) (wpAny_of_eq (a := Value.none) (by first | rfl | (simp only [firstArgMember]; rfl)) ?_)
  refine wpAny_newObj_type ?_ (by size_fits)
  simp only [raiseNew]
  refine wpAny_bind (wpAny_handled ?_)
  rw [show A.in1.handled = none from hh]
  refine wpAny_bind (wpAny_pure (wpAny_throw ?_))
  refine wpAny_bind (wpAny_isInstance (T := "StopIteration") (b := true) ⟨_, Heap.get?_push_size _ rfl, rfl⟩ isSubtype_stop ?_)
  exact wpAny_pure (hQ _ (((Heap.SameBut.update ..).extBut.push _).push _))
end
end
section
open PySem PySem.W PySem.Calls PyProof.Rows
open PySem.Builtin
inductive PlAt (h : Heap) (T : Addr) (ps : List Nat) : Prop
  | mk (o : Obj) (n : Nat) (vs : Array Value) (h1 : h.get? T = some o) (h2 : o.data = .seq vs n) (h3 : vs.toList = ps.map fun (k : Nat) => Value.int (k : Int) 0)
theorem PlAt.at {h h' : Heap} {T : Addr} {ps : List Nat} (x : PlAt h T ps) (k : ∀ o, h.get? T = some o → h'.get? T = some o) : PlAt h' T ps := by obtain ⟨o, n, vs, h1, h2, h3⟩ := x; exact ⟨o, n, vs, k o h1, h2, h3⟩
section
variable {prog : Program} {w : World} {A : Around} {E : Value → Shared → Prop} {s : Shared} {it S T : Addr} {es : Array (Int × Value)} {i n ep : Nat} {t : SetTable} {ps : List Nat}
theorem PlAt.items (y : PlAt s.heap T ps) {Q : Option (Array Value) → Shared → Prop} (q : Q (some (ps.map fun (k : Nat) => Value.int (k : Int) 0).toArray) s) : wpAny (model prog w) A (seqItems? (.ref T)) Q E s := by
  obtain ⟨o, n, vs, ho, hd, hv⟩ := y
  unfold seqItems?
  refine wpAny_bind (wpAny_load ho ?_)
  rw [hd]
  refine wpAny_pure ?_
  rw [← hv, Array.toArray_toList] at q
  exact q
theorem next_sd {pl : Nat} {e : Int × Value} {Q : Option Value → Shared → Prop} (hit : ItAt s.heap it S (.ref T) i es.size ep) (hS : SAt s.heap S es ep t) (hT : PlAt s.heap T ps) (hp : ps[i]? = some pl) (he : es[pl]? = some e)
    (hQ : ∀ h', ItAt h' it S (.ref T) (i + 1) es.size ep → Heap.SameBut it s.heap h' → Q (some e.2) { s with heap := h' }) : wpAny (model prog w) A (pyNext (.ref it)) Q E s := by
  obtain ⟨o, t1, t2, t3, ho, hc, hd⟩ := id hit
  unfold pyNext
  refine wpAny_bind (wpAny_attempt (wpAny_callSpecial?_slot (name := PySem.Str.ofString "__next__") hit.type slot_si_next
    (wpAny_call_entry slot_si_next hit.type entry_si_next ?_ (args_si_next _))))
  unfold Builtin.«set_iterator.__next__»
  refine wpAny_bind (m := slotArgs _ _ _) (wpAny_pure ?_)
  refine wpAny_bind (wpAny_fieldsOf ho hd ?_)
  dsimp only
  refine wpAny_bind (wpAny_bind (hS.state (wpAny_pure ?_)))
  rw [if_neg (by simp)]
  simp only [Int.toNat_natCast]
  refine wpAny_bind (hT.items ?_)
  dsimp only
  rw [List.getElem?_toArray, List.getElem?_map, hp]
  dsimp only [Option.map]
  unfold setNextDrawn
  refine wpAny_bind (wpAny_bind (hS.state ?_))
  dsimp only
  rw [if_neg (by simp), Int.toNat_natCast, he]
  refine wpAny_pure ?_
  refine wpAny_bind (wpAny_setField ho hd (by simp) ?_)
  refine wpAny_pure ⟨_, rfl, wpAny_pure (hQ _ ?_ (Heap.SameBut.update ..))⟩
  exact ⟨_, _, _, _, Heap.get?_update_self _ ho (Obj.isFreed_of_fields (Obj.data_mapFields hd _)), (Obj.cls_mapFields ..).trans hc, by
    rw [Obj.data_mapFields hd]; simp [rawInt]; exact ⟨rfl, rfl, rfl⟩⟩
theorem stop_sd {Q : Option Value → Shared → Prop} (hh : A.handled = none) (hit : ItAt s.heap it S (.ref T) i es.size ep) (hS : SAt s.heap S es ep t) (hT : PlAt s.heap T ps) (hp : ps[i]? = none)
    (hQ : ∀ h', Heap.ExtBut it s.heap h' → Q none { s with heap := h' }) : wpAny (model prog w) A (pyNext (.ref it)) Q E s := by
  obtain ⟨o, t1, t2, t3, ho, hc, hd⟩ := id hit
  unfold pyNext
  refine wpAny_bind (wpAny_attempt (wpAny_callSpecial?_slot (name := PySem.Str.ofString "__next__") hit.type slot_si_next
    (wpAny_call_entry slot_si_next hit.type entry_si_next ?_ (args_si_next _))))
  unfold Builtin.«set_iterator.__next__»
  refine wpAny_bind (m := slotArgs _ _ _) (wpAny_pure ?_)
  refine wpAny_bind (wpAny_fieldsOf ho hd ?_)
  dsimp only
  refine wpAny_bind (wpAny_bind (hS.state (wpAny_pure ?_)))
  rw [if_neg (by simp)]
  simp only [Int.toNat_natCast]
  refine wpAny_bind (hT.items ?_)
  dsimp only
  rw [List.getElem?_toArray, List.getElem?_map, hp]
  dsimp only [Option.map]
  refine wpAny_bind (wpAny_setField ho hd (by simp) ?_)
  have ho1 := Heap.get?_update_self (Obj.mapFields (·.setIfInBounds 0 (rawInt 0))) ho (Obj.isFreed_of_fields (Obj.data_mapFields hd _))
  have hd1 := Obj.data_mapFields hd (·.setIfInBounds 0 (rawInt 0))
  refine wpAny_bind (wpAny_setField ho1 hd1 (by simp) ?_)
  show wpAny _ _ (newExc (.type "StopIteration") [] >>= _) _ _ _
  refine wpAny_bind ?_
  simp only [newExc, newTuple]
  refine wpAny_bind (wpAny_newObj_type ?_ (by size_fits))
  refine wpAny_bind (m := firstArgMember _ _) (wpAny_of_eq (a := Value.none) (by first | rfl | (simp only [firstArgMember]; rfl)) ?_)
  refine wpAny_newObj_type ?_ (by size_fits)
  simp only [raiseNew]
  refine wpAny_bind (wpAny_handled ?_)
  rw [show A.in1.handled = none from hh]
  refine wpAny_bind (wpAny_pure (wpAny_throw ?_))
  refine wpAny_bind (wpAny_isInstance (T := "StopIteration") (b := true) ⟨_, Heap.get?_push_size _ rfl, rfl⟩ isSubtype_stop ?_)
  exact wpAny_pure (hQ _ ((((Heap.SameBut.update ..).trans (Heap.SameBut.update ..)).extBut.push _).push _))
theorem wp_choose {src : Source} {k : Nat} {Q : Nat → Shared → Prop} (hk : k ≠ 0) (q : ∀ j d, j < k → Q j { s with drawn := d }) : wpAny (model prog w) A (choose src k) Q E s := fun Γ p hΓ => by
  show k ≠ 0 ∧ _
  exact ⟨hk, q _ _ (Nat.mod_lt _ (Nat.pos_of_ne_zero hk))⟩
theorem wp_draw {α : Type} : ∀ (k : Nat) (xs : List α) {s : Shared} {Q : List α → Shared → Prop}, (∀ ys d, (∀ y ∈ ys, y ∈ xs) → ys.length ≤ xs.length → Q ys { s with drawn := d }) → wpAny (model prog w) A (drawOrder k xs) Q E s
  | 0, xs, s, Q, q => by
    unfold drawOrder
    exact wpAny_pure (q [] s.drawn (fun _ z => nomatch z) (Nat.zero_le _))
  | k + 1, [], s, Q, q => by
    unfold drawOrder
    exact wpAny_pure (q [] s.drawn (fun _ z => nomatch z) (Nat.zero_le _))
  | k + 1, x :: xs, s, Q, q => by
    unfold drawOrder
    refine wpAny_bind (wp_choose (by simp) fun j d hj => ?_)
    rw [List.getElem?_eq_getElem hj]
    dsimp only
    refine wpAny_bind (wp_draw k _ fun ys d' h1 h2 => wpAny_pure ?_)
    refine q _ d' (fun y hy => ?_) ?_
    · rcases List.mem_cons.mp hy with rfl | z
      · exact List.getElem_mem hj
      · exact List.mem_of_mem_eraseIdx (h1 y z)
    · rw [List.length_eraseIdx_of_lt hj] at h2
      simp only [List.length_cons] at h2 hj ⊢
      lia
end
end
section
open PySem PySem.W PySem.Calls PyProof.Rows
open PySem.Builtin
theorem below_go {xs : Array Nat} {j : Nat} : ∀ (fuel lo hi : Nat), hi - lo ≤ fuel → lo ≤ hi → (∀ y, xs[hi]? = some y → j ≤ y) → ∀ y, xs[SetTable.below.go xs j fuel lo hi]? = some y → j ≤ y
  | 0, lo, hi, h1, h2, h3, y, hy => by
    unfold SetTable.below.go at hy
    exact h3 y (by rw [show hi = lo by omega]; exact hy)
  | fuel + 1, lo, hi, h1, h2, h3, y, hy => by
    unfold SetTable.below.go at hy
    by_cases h : lo < hi
    · rw [if_pos h] at hy
      dsimp only at hy
      have m1 : lo ≤ (lo + hi) / 2 := by omega
      have m2 : (lo + hi) / 2 < hi := by omega
      generalize (lo + hi) / 2 = m at hy m1 m2
      by_cases z : xs.getD m j < j
      · rw [if_pos z] at hy
        exact below_go fuel _ hi (by omega) (by omega) h3 y hy
      · rw [if_neg z] at hy
        refine below_go fuel lo _ (by omega) (by omega) (fun y' hy' => ?_) y hy
        rw [Array.getD_eq_getD_getElem?, hy'] at z
        exact Nat.not_lt.mp z
    · rw [if_neg h] at hy
      exact h3 y (by rw [show hi = lo by omega]; exact hy)
theorem below_le {xs : Array Nat} {j y : Nat} (h : xs[SetTable.below xs j]? = some y) : j ≤ y :=
  below_go xs.size 0 xs.size (by omega) (Nat.zero_le _) (fun y hy => by rw [Array.getElem?_eq_none (Nat.le_refl _)] at hy; cases hy) y h
noncomputable def stops (p : Array Nat) : Nat → Nat → List Nat
  | 0, _ => []
  | f + 1, slot => match p[SetTable.below p slot]? with
    | some j => SetTable.below p slot :: stops p f (j + 1)
    | none => []
theorem stops_ge {p : Array Nat} : ∀ (f slot i : Nat), i ∈ stops p f slot → ∃ y, p[i]? = some y ∧ slot ≤ y
  | 0, _, _, h => nomatch h
  | f + 1, slot, i, h => by
    unfold stops at h
    cases e : p[SetTable.below p slot]? with
    | none => rw [e] at h; cases h
    | some j =>
      rw [e] at h
      rcases List.mem_cons.mp h with rfl | z
      · exact ⟨j, e, below_le e⟩
      · obtain ⟨y, hy, hl⟩ := stops_ge f _ _ z
        have := below_le e
        exact ⟨y, hy, by omega⟩
theorem stops_nodup {p : Array Nat} : ∀ (f slot : Nat), (stops p f slot).Nodup
  | 0, _ => List.nodup_nil
  | f + 1, slot => by
    unfold stops
    cases e : p[SetTable.below p slot]? with
    | none => exact List.nodup_nil
    | some j =>
      refine List.nodup_cons.mpr ⟨fun z => ?_, stops_nodup f _⟩
      obtain ⟨y, hy, hl⟩ := stops_ge f _ _ z
      rw [e] at hy
      cases hy
      omega
theorem stops_len {p : Array Nat} (f slot : Nat) : (stops p f slot).length ≤ p.size := by
  have h2 : (stops p f slot).length ≤ (List.range p.size).length := by
    refine List.Nodup.length_le_of_subset (stops_nodup f slot) fun i hi => ?_
    obtain ⟨y, hy, _⟩ := stops_ge f slot i hi
    rw [List.mem_range]
    rcases Nat.lt_or_ge i p.size with z | z
    · exact z
    · rw [Array.getElem?_eq_none z] at hy; cases hy
  rwa [List.length_range] at h2
section
variable {prog : Program} {w : World} {A : Around} {E : Value → Shared → Prop} {s : Shared} {S : Addr} {es : Array (Int × Value)} {i ep : Nat} {t : SetTable}
theorem setNext_slots {slot : Nat} {Q : Option (Value × Nat) → Shared → Prop} (hw : w.params.followText "set-order" = false) (hS : SAt s.heap S es ep t) (hd : (!t.plain && decide (es.size > 1)) = false) (hl : t.led = true)
    (q : Q (match es[SetTable.below t.place slot]?, t.place[SetTable.below t.place slot]? with | some (_, x), some j => some (x, j + 1) | _, _ => none) s) : wpAny (model prog w) A (setNext S slot i ep) Q E s := by
  unfold setNext setsByText
  refine wpAny_bind (hS.state ?_)
  dsimp only
  refine wpAny_bind (wpAny_bind (wpAny_askSetting (wpAny_pure ?_)))
  show wpAny _ _ (if w.params.followText "set-order" = true then _ else _) _ _ _
  rw [hw, if_neg Bool.false_ne_true]
  show wpAny _ _ (if (!t.plain && decide (es.size > 1)) = true then _ else _) _ _ _
  rw [hd, if_neg Bool.false_ne_true]
  show wpAny _ _ ((if (!t.led && !es.isEmpty) = true then unsupported "set:maker-not-led" else pure ()) >>= _) _ _ _
  rw [hl]
  refine wpAny_bind (wpAny_pure (wpAny_pure q))
theorem setNext_text {slot : Nat} {Q : Option (Value × Nat) → Shared → Prop} (hw : w.params.followText "set-order" = true) (hS : SAt s.heap S es ep t)
    (q : Q ((pickOrder (w.params.setOrder S ep) es)[i]?.map fun e => (e.2, slot)) s) : wpAny (model prog w) A (setNext S slot i ep) Q E s := by
  unfold setNext setWalk setsByText
  refine wpAny_bind (hS.state ?_)
  dsimp only
  refine wpAny_bind (wpAny_bind (wpAny_askSetting (wpAny_pure ?_)))
  show wpAny _ _ (if w.params.followText "set-order" = true then _ else _) _ _ _
  rw [hw, if_pos rfl]
  rw [if_neg (by simp)]
  refine wpAny_bind (wpAny_bind (hS.state ?_))
  dsimp only
  refine wpAny_bind (wpAny_bind (wpAny_askSetting (wpAny_pure ?_)))
  show wpAny _ _ (if w.params.followText "set-order" = true then _ else _) _ _ _
  rw [hw, if_pos rfl]
  refine wpAny_bind (wpAny_askSetting (wpAny_pure (wpAny_pure q)))
theorem pick_go {α : Type} {next : Nat → Nat} : ∀ (fuel k : Nat) (left : List α) (out : Array α), (pickOrder.go next fuel k left out).size ≤ out.size + left.length ∧ ∀ x ∈ pickOrder.go next fuel k left out, x ∈ out ∨ x ∈ left
  | 0, k, left, out => by unfold pickOrder.go; exact ⟨Nat.le_add_right _ _, fun x h => .inl h⟩
  | fuel + 1, k, left, out => by
    unfold pickOrder.go
    cases e : left[next k % left.length]? with
    | none => exact ⟨Nat.le_add_right _ _, fun x h => .inl h⟩
    | some y =>
      obtain ⟨hj, hy⟩ := List.getElem?_eq_some_iff.mp e
      obtain ⟨h1, h2⟩ := pick_go (next := next) fuel (k + 1) (left.eraseIdx (next k % left.length)) (out.push y)
      rw [List.length_eraseIdx_of_lt hj, Array.size_push] at h1
      refine ⟨by dsimp only; omega, fun x hx => ?_⟩
      rcases h2 x hx with z | z
      · rcases Array.mem_push.mp z with z | rfl
        · exact .inl z
        · exact .inr (hy ▸ List.getElem_mem hj)
      · exact .inr (List.mem_of_mem_eraseIdx z)
theorem pick_le {α : Type} (next : Nat → Nat) (xs : Array α) : (pickOrder next xs).size ≤ xs.size ∧ ∀ x ∈ pickOrder next xs, x ∈ xs := by
  obtain ⟨h1, h2⟩ := pick_go (next := next) xs.size 0 xs.toList #[]
  unfold pickOrder
  refine ⟨by simpa using h1, fun x hx => ?_⟩
  rcases h2 x hx with z | z
  · simp at z
  · exact Array.mem_toList_iff.mp z
end
end
section
open PySem PySem.W PySem.Calls PyProof.Rows
open PySem.Builtin
noncomputable abbrev IsI (v : Value) : Prop := ∃ x t, v = .int x t
section
variable {prog : Program} {w : World} {A : Around} {E : Value → Shared → Prop} {s : Shared} {I S T : Addr} {es : Array (Int × Value)} {ep : Nat} {t : SetTable} {ps : List Nat}
theorem IntEs.at (h : IntEs es.toList) {i : Nat} {e : Int × Value} (he : es[i]? = some e) : IsI e.2 := by
  obtain ⟨x, tk, rfl⟩ := h e (by rw [← Array.getElem?_toList] at he; exact List.mem_of_getElem? he)
  exact ⟨x, tk, rfl⟩
theorem moved_same {wr : List Addr} {h' : Heap} (h : ∀ b o, b ∉ wr → s.heap.get? b = some o → h'.get? b = some o) : Moved wr (fun a b => b = a) s { s with heap := h' } := ⟨h, rfl, rfl, rfl, Nat.le_refl _⟩
theorem walk_slots (hh : A.handled = none) (hw : w.params.followText "set-order" = false) (hne : S ≠ I) (hi : IntEs es.toList) (hd : (!t.plain && decide (es.size > 1)) = false) (hl : t.led = true) (hf : t.fits es.size = true) :
    WalksS prog w A I [I, S] [I] (fun a b => b = a) (stops t.place (t.place.size + 1) 0).length (fun _ v => IsI v)
      (fun j s => ∃ slot : Nat, ∃ tk, ItAt s.heap I S (.int slot tk) j es.size ep ∧ SAt s.heap S es ep t ∧ j ≤ t.place.size + 1 ∧ stops t.place (t.place.size + 1 - j) slot = (stops t.place (t.place.size + 1) 0).drop j) where
  sub := fun b hb => by simp at hb; simp [hb]
  grefl := fun _ => rfl
  gtrans := fun _ _ _ h1 h2 => h2.trans h1
  frame := fun j s h' tk ⟨slot, tk', h1, h2, h3⟩ _ hk => ⟨slot, tk', h1.at fun o e => hk I (by simp) o e, h2.at fun o e => hk S (by simp) o e, h3⟩
  item := fun j s Q E hj ⟨slot, tk, h1, h2, h3, h4⟩ hQ => by
    have hz := stops_len (p := t.place) (t.place.size + 1) 0
    rw [List.drop_eq_getElem_cons hj, show t.place.size + 1 - j = (t.place.size - j) + 1 by lia] at h4
    unfold stops at h4
    cases e : t.place[SetTable.below t.place slot]? with
    | none => rw [e] at h4; cases h4
    | some y =>
      rw [e] at h4
      injection h4 with h5 h6
      have hsz : t.place.size = es.size := by simp only [SetTable.fits, Bool.and_eq_true, beq_iff_eq] at hf; exact hf.1
      have hlt : SetTable.below t.place slot < es.size := by
        rw [← hsz]
        rcases Nat.lt_or_ge (SetTable.below t.place slot) t.place.size with z | z
        · exact z
        · rw [Array.getElem?_eq_none z] at e; cases e
      obtain ⟨x, hx⟩ : ∃ x, es[SetTable.below t.place slot]? = some x := ⟨_, Array.getElem?_eq_getElem hlt⟩
      refine next_si h1 h2 (x := x.2) (nx := y + 1) (fun A E Q q => setNext_slots hw h2 hd hl (by rw [Int.toNat_natCast, hx, e]; exact q)) fun h' a b => ?_
      refine hQ _ _ (hi.at hx) ⟨y + 1, 0, a, h2.at fun o q => (b.2 S hne).trans q, by lia, ?_⟩ (moved_same fun c o hc q => (b.2 c (by simpa using hc)).trans q)
      rw [show t.place.size + 1 - (j + 1) = t.place.size - j by lia]
      exact h6
  done := fun s Q E ⟨slot, tk, h1, h2, h3, h4⟩ hQ => by
    have hz := stops_len (p := t.place) (t.place.size + 1) 0
    rw [List.drop_length, show t.place.size + 1 - (stops t.place (t.place.size + 1) 0).length = (t.place.size - (stops t.place (t.place.size + 1) 0).length) + 1 by lia] at h4
    unfold stops at h4
    cases e : t.place[SetTable.below t.place slot]? with
    | some y => rw [e] at h4; cases h4
    | none =>
      refine stop_si hh h1 h2 (fun A E Q q => setNext_slots hw h2 hd hl (by
        rw [Int.toNat_natCast, e]
        cases es[SetTable.below t.place slot]? <;> exact q)) fun h' b => ?_
      exact hQ _ (moved_same fun c o hc q => b c o (by simpa using hc) q)
  self := fun _ _ _ _ ⟨slot, tk, h1, _⟩ hQ => self_si h1 hQ
theorem walk_text (hh : A.handled = none) (hw : w.params.followText "set-order" = true) (hne : S ≠ I) (hi : IntEs es.toList) :
    WalksS prog w A I [I, S] [I] (fun a b => b = a) (pickOrder (w.params.setOrder S ep) es).size (fun _ v => IsI v) (fun j s => ∃ slot : Nat, ∃ tk, ItAt s.heap I S (.int slot tk) j es.size ep ∧ SAt s.heap S es ep t) where
  sub := fun b hb => by simp at hb; simp [hb]
  grefl := fun _ => rfl
  gtrans := fun _ _ _ h1 h2 => h2.trans h1
  frame := fun j s h' tk ⟨slot, tk', h1, h2⟩ _ hk => ⟨slot, tk', h1.at fun o e => hk I (by simp) o e, h2.at fun o e => hk S (by simp) o e⟩
  item := fun j s Q E hj ⟨slot, tk, h1, h2⟩ hQ => by
    have hx := Array.getElem?_eq_getElem hj
    have hm := (pick_le (w.params.setOrder S ep) es).2 _ (Array.getElem_mem hj)
    generalize (pickOrder (w.params.setOrder S ep) es)[j] = x at hx hm
    obtain ⟨n, tk', rfl⟩ := hi x (Array.mem_toList_iff.mpr hm)
    refine next_si h1 h2 (x := .int n tk') (nx := slot) (fun A E Q q => setNext_text hw h2 (by rw [hx, Int.toNat_natCast]; exact q)) fun h' a b => ?_
    exact hQ _ _ ⟨_, _, rfl⟩ ⟨slot, 0, a, h2.at fun o q => (b.2 S hne).trans q⟩ (moved_same fun c o hc q => (b.2 c (by simpa using hc)).trans q)
  done := fun s Q E ⟨slot, tk, h1, h2⟩ hQ => by
    refine stop_si hh h1 h2 (fun A E Q q => setNext_text hw h2 (by rw [Array.getElem?_eq_none (Nat.le_refl _)]; exact q)) fun h' b => ?_
    exact hQ _ (moved_same fun c o hc q => b c o (by simpa using hc) q)
  self := fun _ _ _ _ ⟨slot, tk, h1, _⟩ hQ => self_si h1 hQ
theorem walk_drawn (hh : A.handled = none) (hne : S ≠ I) (hTI : T ≠ I) (hi : IntEs es.toList) (hp : ∀ p ∈ ps, p < es.size) :
    WalksS prog w A I [I, S, T] [I] (fun a b => b = a) ps.length (fun _ v => IsI v) (fun j s => ItAt s.heap I S (.ref T) j es.size ep ∧ SAt s.heap S es ep t ∧ PlAt s.heap T ps) where
  sub := fun b hb => by simp at hb; simp [hb]
  grefl := fun _ => rfl
  gtrans := fun _ _ _ h1 h2 => h2.trans h1
  frame := fun j s h' tk ⟨h1, h2, h3⟩ _ hk => ⟨h1.at fun o e => hk I (by simp) o e, h2.at fun o e => hk S (by simp) o e, h3.at fun o e => hk T (by simp) o e⟩
  item := fun j s Q E hj ⟨h1, h2, h3⟩ hQ => by
    have hx := List.getElem?_eq_getElem hj
    have hlt := hp _ (List.getElem_mem hj)
    refine next_sd h1 h2 h3 hx (Array.getElem?_eq_getElem hlt) fun h' a b => ?_
    exact hQ _ _ (hi.at (Array.getElem?_eq_getElem hlt)) ⟨a, h2.at fun o q => (b.2 S hne).trans q, h3.at fun o q => (b.2 T hTI).trans q⟩ (moved_same fun c o hc q => (b.2 c (by simpa using hc)).trans q)
  done := fun s Q E ⟨h1, h2, h3⟩ hQ => by
    refine stop_sd hh h1 h2 h3 (List.getElem?_eq_none (Nat.le_refl _)) fun h' b => ?_
    exact hQ _ (moved_same fun c o hc q => b c o (by simpa using hc) q)
  self := fun _ _ _ _ ⟨h1, _⟩ hQ => self_si h1 hQ
end
end
section
open PySem PySem.W PySem.Calls PyProof.Rows
open PySem.Builtin
section
variable {prog : Program} {w : World} {A : Around} {E : Value → Shared → Prop} {s : Shared} {S : Addr} {n : Nat}
theorem SetL.sat {b : Bool} {h : Heap} {a : Addr} (x : SetL b h a n) : ∃ es ep t, SAt h a es ep t ∧ IntEs es.toList ∧ t.fits es.size = true ∧ es.size ≤ n ∧ t.led = b := by
  obtain ⟨o, es, ep, t, h1, h2, h3, h4, h5, h6, h7⟩ := x
  exact ⟨es, ep, t, ⟨o, h1, h2.1, h3, h5⟩, h4, h5, h6, h7⟩
theorem SAt.epoch {es : Array (Int × Value)} {ep : Nat} {t : SetTable} (y : SAt s.heap S es ep t) {Q : Nat → Shared → Prop} (q : Q ep s) : wpAny (model prog w) A (setEpoch S) Q E s := wpAny_bind (y.state (wpAny_pure q))
theorem iter_set {Q : Value → Shared → Prop} (hS : SetL (ledOf w) s.heap S n) (hz : n ≤ 1000)
    (hQ : ∀ I fp m (St : Nat → Shared → Prop) h' d, m ≤ n → (∀ A' : Around, A'.handled = none → WalksS prog w A' I fp [I] (fun a b => b = a) m (fun _ v => IsI v) St) → St 0 { s with heap := h', drawn := d } → (∀ b ∈ fp, b = S ∨ s.heap.get? b = none) →
      (∀ b o, s.heap.get? b = some o → h'.get? b = some o) → s.heap.get? I = none → Q (.ref I) { s with heap := h', drawn := d }) : wpAny (model prog w) A (pyIter (.ref S)) Q E s := by
  obtain ⟨es, ep, t, hs, hi, hf, hn, hl⟩ := hS.sat
  have hSlt : S < s.heap.objs.size := by obtain ⟨o, ho, _⟩ := hs; exact Heap.lt_size ho
  have none₁ : ∀ a, s.heap.objs.size ≤ a → s.heap.get? a = none := fun a ha => by
    cases e : s.heap.get? a with
    | none => rfl
    | some o' => exact absurd (Heap.lt_size e) (Nat.not_lt.mpr ha)
  have hsz : t.place.size = es.size := by simp only [SetTable.fits, Bool.and_eq_true, beq_iff_eq] at hf; exact hf.1
  refine wpAny_pyIter_slot hs.type slot_set_iter (wpAny_call_entry slot_set_iter hs.type entry_set_iter ?_ (args_set_iter _))
  unfold Builtin.«frozenset.__iter__» Frozenset.slot0
  refine wpAny_bind (wpAny_bind (m := slotArgs _ _ _) (wpAny_pure (wpAny_pure ?_)))
  unfold Frozenset.sizeOf setEntries
  refine wpAny_bind (wpAny_bind (wpAny_bind (hs.state (wpAny_pure (wpAny_pure ?_)))))
  unfold setDrawn setsByText
  refine wpAny_bind (wpAny_bind (hs.state ?_))
  dsimp only
  refine wpAny_bind (wpAny_bind (wpAny_askSetting (wpAny_pure (wpAny_pure ?_))))
  show wpAny _ _ (if (!w.params.followText "set-order" && (!t.plain && decide (es.size > 1))) = true then _ else _) _ _ _
  cases hw : w.params.followText "set-order" with
  | true =>
    rw [show (!true && (!t.plain && decide (es.size > 1))) = false from rfl, if_neg Bool.false_ne_true]
    refine wpAny_bind (wpAny_pure ?_)
    refine wpAny_bind (hs.epoch (wpAny_bind ?_))
    refine wpAny_newObj_type (wpAny_pure ⟨_, rfl, "set_iterator", _, ⟨_, Heap.get?_push_size _ rfl, rfl⟩, slot_si_next.lookup, ?_⟩) (by size_fits)
    refine hQ _ [s.heap.objs.size, S] _ _ _ s.drawn (Nat.le_trans (pick_le (w.params.setOrder S ep) es).1 hn) (fun A' hh => walk_text (t := t) hh hw (Nat.ne_of_lt hSlt) hi) ⟨0, 0, ⟨_, 0, 0, 0, Heap.get?_push_size _ rfl, rfl, rfl⟩, hs.at fun o e => Heap.get?_push_of_some _ e⟩ (fun b hb => ?_) (fun b o e => Heap.get?_push_of_some _ e) (none₁ _ (Nat.le_refl _))
    simp only [List.mem_cons, List.not_mem_nil, or_false] at hb
    rcases hb with rfl | rfl
    · exact .inr (none₁ _ (Nat.le_refl _))
    · exact .inl rfl
  | false =>
    have hl' : t.led = true := by rw [hl]; show (!w.params.followText "set-order") = true; rw [hw]; rfl
    cases hd : (!t.plain && decide (es.size > 1)) with
    | false =>
      rw [show (!false && false) = false from rfl, if_neg Bool.false_ne_true]
      refine wpAny_bind (wpAny_pure ?_)
      refine wpAny_bind (hs.epoch (wpAny_bind ?_))
      refine wpAny_newObj_type (wpAny_pure ⟨_, rfl, "set_iterator", _, ⟨_, Heap.get?_push_size _ rfl, rfl⟩, slot_si_next.lookup, ?_⟩) (by size_fits)
      refine hQ _ [s.heap.objs.size, S] _ _ _ s.drawn (Nat.le_trans (stops_len _ _) (by lia)) (fun A' hh => walk_slots (ep := ep) hh hw (Nat.ne_of_lt hSlt) hi hd hl' hf)
        ⟨0, 0, ⟨_, 0, 0, 0, Heap.get?_push_size _ rfl, rfl, rfl⟩, hs.at fun o e => Heap.get?_push_of_some _ e, Nat.zero_le _, rfl⟩ (fun b hb => ?_) (fun b o e => Heap.get?_push_of_some _ e) (none₁ _ (Nat.le_refl _))
      simp only [List.mem_cons, List.not_mem_nil, or_false] at hb
      rcases hb with rfl | rfl
      · exact .inr (none₁ _ (Nat.le_refl _))
      · exact .inl rfl
    | true =>
      rw [show (!false && true) = true from rfl, if_pos rfl]
      refine wpAny_bind (wp_draw _ _ fun ys d h1 h2 => ?_)
      simp only [newTuple]
      refine wpAny_bind (wpAny_newObj_type ?_ (by show _ ≤ sizeLine; rw [sizeLine_eq]; rw [List.length_range] at h2; simp; lia))
      refine wpAny_bind (SAt.epoch (s := { s with drawn := d, heap := s.heap.push _ }) (hs.at fun o e => Heap.get?_push_of_some _ e) (wpAny_bind ?_))
      refine wpAny_newObj_type (wpAny_pure ⟨_, rfl, "set_iterator", _, ⟨_, Heap.get?_push_size _ rfl, rfl⟩, slot_si_next.lookup, ?_⟩) (by size_fits)
      rw [List.length_range] at h2
      dsimp only
      have hP : PlAt (s.heap.push { cls := .type "tuple", data := .seq (List.map (fun (i : Nat) => rawInt (i : Int)) ys).toArray }) s.heap.objs.size ys := ⟨_, 0, _, Heap.get?_push_size _ rfl, rfl, by simp [rawInt]⟩
      have hT : (s.heap.push { cls := .type "tuple", data := .seq (List.map (fun (i : Nat) => rawInt (i : Int)) ys).toArray }).objs.size = s.heap.objs.size + 1 := Heap.size_push ..
      have hk : ∀ b o, s.heap.get? b = some o → (s.heap.push { cls := .type "tuple", data := .seq (List.map (fun (i : Nat) => rawInt (i : Int)) ys).toArray }).get? b = some o := fun b o e => Heap.get?_push_of_some _ e
      generalize s.heap.push { cls := .type "tuple", data := .seq (List.map (fun (i : Nat) => rawInt (i : Int)) ys).toArray } = H at hP hT hk ⊢
      refine hQ H.objs.size [H.objs.size, S, s.heap.objs.size] ys.length _ _ d (Nat.le_trans h2 hn)
        (fun A' hh => walk_drawn (ep := ep) (t := t) hh (Nat.ne_of_lt (by rw [hT]; exact Nat.lt_succ_of_lt hSlt)) (Nat.ne_of_lt (by rw [hT]; exact Nat.lt_succ_self _)) hi fun p hp => List.mem_range.mp (h1 p hp))
        ⟨⟨_, 0, 0, 0, Heap.get?_push_size _ rfl, rfl, rfl⟩, (hs.at fun o e => hk _ _ e).at fun o e => Heap.get?_push_of_some _ e, hP.at fun o e => Heap.get?_push_of_some _ e⟩
        (fun b hb => ?_) (fun b o e => Heap.get?_push_of_some _ (hk b o e)) (none₁ _ (by rw [hT]; exact Nat.le_succ _))
      simp only [List.mem_cons, List.not_mem_nil, or_false] at hb
      rcases hb with rfl | rfl | rfl
      · exact .inr (none₁ _ (by rw [hT]; exact Nat.le_succ _))
      · exact .inl rfl
      · exact .inr (none₁ _ (Nat.le_refl _))
end
end
section
open PySem PySem.W PySem.Calls PyProof.Rows
open PySem.Builtin
section
variable {prog : Program} {w : World} {A : Around} {E : Value → Shared → Prop} {s : Shared} {S : Addr} {n : Nat}
theorem hint_set {r : Addr} {Q : Bool → Shared → Prop} (hT : s.TypeIs (.ref r) "set") (h : Q false s) : wpAny (model prog w) A (Builtin.List.listLengthHint (.ref r)) Q E s := by
  unfold Builtin.List.listLengthHint
  refine wpAny_bind (wpAny_specialOf hT PySem.F.slot_set_len.lookup ?_)
  generalize hid : ("set.__len__" : String) = id0
  wp_delta
  rw [show splitId id0 = some ("set", "__len__") from by subst hid; decide +kernel]
  subst hid
  refine wpAny_bind (wpAny_isInstance (T := "set") (b := true) hT (by rw [isSubtype_type]; kernel_rfl) ?_)
  refine wpAny_ite_split (fun hab => absurd hab (by decide)) (fun _ => ?_)
  refine wpAny_ite_split (fun _ => ?_) (fun hab => absurd (by decide +kernel) hab)
  refine wpAny_bind (wpAny_typeOf hT ?_)
  exact wpAny_pure h
theorem collect_set {Q : List Value → Shared → Prop} (hh : A.handled = none) (hS : SetL (ledOf w) s.heap S n) (hz : n ≤ 1000)
    (hQ : ∀ vs h' tk d, vs.length ≤ n → (∀ v ∈ vs, IsI v) → (∀ b o, s.heap.get? b = some o → h'.get? b = some o) → Q vs { s with heap := h', toks := tk, drawn := d }) : wpAny (model prog w) A (collect (.ref S)) Q E s := by
  have hSlt : S < s.heap.objs.size := by obtain ⟨o, _, _, _, ho, _⟩ := hS; exact Heap.lt_size ho
  unfold collect
  refine wpAny_bind (wpAny_runValue (codeAny_builtin PySem.F.entry_proto_collect ?_))
  rw [Around.under_plainId PySem.F.plain_proto_collect _]
  show wpAny _ A.in1 (newList [] >>= fun l => again (.builtin "list.__iadd__" ⟨[l, .ref S], []⟩)) _ _ s
  refine wpAny_bind (wpAny_newObj_type ?_)
  refine wpAny_pure ⟨plainId_quiet PySem.F.plain_list_iadd _, codeAny_builtin PySem.F.entry_list_iadd ?_⟩
  rw [Around.under_plainId PySem.F.plain_list_iadd _]
  have hD : (s.heap.push { cls := .type "list", data := .seq ([] : List Value).toArray }).get? s.heap.objs.size = some { cls := .type "list", data := .seq ([] : List Value).toArray } := Heap.get?_push_size _ rfl
  have hk1 : ∀ b o, s.heap.get? b = some o → (s.heap.push { cls := .type "list", data := .seq ([] : List Value).toArray }).get? b = some o := fun b o e => Heap.get?_push_of_some _ e
  generalize s.heap.push { cls := .type "list", data := .seq ([] : List Value).toArray } = H1 at hD hk1 ⊢
  have hDS : s.heap.objs.size ≠ S := Nat.ne_of_gt hSlt
  have hD0 : s.heap.get? s.heap.objs.size = none := by
    cases e : s.heap.get? s.heap.objs.size with
    | none => rfl
    | some o' => exact absurd (Heap.lt_size e) (Nat.lt_irrefl _)
  generalize s.heap.objs.size = D at hD hDS hD0 ⊢
  have hS1 : SetL (ledOf w) H1 S n := hS.at fun o e => hk1 _ _ e
  have hT : ∀ (h' : Heap) tk d, (∀ b o, H1.get? b = some o → h'.get? b = some o) → Shared.TypeIs { s with heap := h', toks := tk, drawn := d } (.ref S) "set" := fun h' tk d k => by
    obtain ⟨o, _, _, _, ho, hx, _⟩ := hS1
    exact ⟨o, k _ _ ho, hx.1⟩
  have h1 : Builtin.List.listSameRef (.ref D) (.ref S) = false := by simp [Builtin.List.listSameRef, hDS]
  show wpAny _ A.in1 (Builtin.List.listExtendWith (.ref D) (.ref S) (.ref D)) _ _ { s with heap := H1 }
  unfold Builtin.List.listExtendWith
  refine wpAny_bind (wpAny_typeOf (T := "set") (hT H1 s.toks s.drawn fun _ _ e => e) ?_)
  rw [if_neg (by rw [h1]; decide)]
  refine wpAny_bind (iter_set (s := { s with heap := H1 }) hS1 hz fun I fp m St h2 d hm W hst hfp hk2 hI => ?_)
  refine wpAny_bind (wpAny_holding (hint_set (hT h2 s.toks d hk2) ?_))
  have hSf : D ∉ fp := fun hm => by
    rcases hfp D hm with z | z
    · exact hDS z
    · rw [hD] at z; cases z
  have hD2 := hk2 _ _ hD
  show wpAny _ A.in1 (rule "list.extend.makes-room" >>= fun _ => Builtin.List.listTouch (.ref D) >>= fun _ =>
    again (.builtin "list.extend.loop" ⟨[.ref D, .ref I, .ref D], []⟩)) _ _ _
  refine wpAny_bind (wpAny_rule ?_)
  refine wpAny_bind ?_
  show wpAny _ A.in1 (updateSeq D (·.push .none) >>= fun _ => updateSeq D (·.pop)) _ _ _
  refine wpAny_bind (wpAny_updateSeq hD2 rfl ?_)
  have hS₂ := Heap.get?_update_self (Obj.mapSeq (·.push Value.none)) hD2 rfl
  refine wpAny_updateSeq hS₂ rfl ?_
  have hS₃ := Heap.get?_update_self (Obj.mapSeq (·.pop)) hS₂ rfl
  have oth : ∀ b o, b ≠ D → h2.get? b = some o → ((h2.update D (Obj.mapSeq (·.push Value.none))).update D (Obj.mapSeq (·.pop))).get? b = some o :=
    fun b o hb e => (Heap.get?_update_other _ _ (Ne.symm hb)).trans ((Heap.get?_update_other _ _ (Ne.symm hb)).trans e)
  have W' := W A.in1 (by simp [hh])
  refine wpAny_pure ⟨plainId_quiet PySem.F.plain_extend_loop _, codeAny_extend_loopS (W A.in1 (by simp [hh])) (by rw [sizeLine_eq]; lia) _ hSf _ m 0 _ _ _ rfl (Nat.zero_le _)
    (W'.frame 0 ({ s with heap := h2, drawn := d } : Shared) _ s.toks hst (Nat.le_refl _) fun b hb o e => oth b o (fun h => hSf (h ▸ hb)) e) hS₃ (ItemsOf.nil _) fun s' acc' c' hm' hS' hacc => ?_⟩
  show wpAny _ A (load D >>= _) _ _ s'
  refine wpAny_bind (wpAny_load hS' ?_)
  refine wpAny_pure ?_
  obtain ⟨h5, g5, d5, t5, o5⟩ := s'
  have eg : g5 = s.gens := hm'.gens
  have ed : d5 = d := hm'.drawn
  have eo : o5 = s.os := hm'.os
  subst eg ed eo
  refine hQ acc'.toList h5 t5 d5 ?_ (fun v hv => ?_) fun b o e => ?_
  · rw [Array.length_toList]; exact Nat.le_trans (Nat.le_of_eq hacc.1) hm
  · obtain ⟨i, hi⟩ := List.getElem?_of_mem hv
    rw [Array.getElem?_toList] at hi
    exact hacc.2 i v hi
  · have hbD : b ≠ D := fun q => by rw [q, hD0] at e; cases e
    have hbI : b ≠ I := fun q => by have := hk1 _ _ e; rw [q, hI] at this; cases this
    exact hm'.heap b o (by simp [hbD, hbI]) (oth b o hbD (hk2 _ _ (hk1 _ _ e)))
end
end
section
open PySem PySem.W PySem.Calls PyProof.Rows
theorem ints_are : ∀ {vs : List Value}, (∀ v ∈ vs, IsI v) → ∃ ns, IntsAre vs ns ∧ ns.length = vs.length
  | [], _ => ⟨[], .nil, rfl⟩
  | v :: vs, h => by
    obtain ⟨x, t, rfl⟩ := h v (.head _)
    obtain ⟨ns, h1, h2⟩ := ints_are (vs := vs) fun v hv => h v (.tail _ hv)
    exact ⟨x :: ns, .cons x t h1, by rw [List.length_cons, List.length_cons, h2]⟩
section
variable {prog : Program} {w : World} {A : Around} {E : Value → Shared → Prop} {s : Shared} {S : Addr} {n : Nat}
theorem sorted_set {Q : Value → Shared → Prop} (hh : A.handled = none) (hS : SetL (ledOf w) s.heap S n) (hz : n < 64)
    (hQ : ∀ a h' tk d vs ns e, ns.length ≤ n → IntsAre vs ns → h'.get? a = some (seqObj "list" vs.toArray e) → (∀ b o, s.heap.get? b = some o → h'.get? b = some o) → s.heap.get? a = none → Q (.ref a) { s with heap := h', toks := tk, drawn := d }) :
    wpAny (model prog w) A (call (.builtin "sorted") [.ref S]) Q E s := by
  refine Calls.call_function_entry kind_sorted plain_sorted entry_sorted (args_sorted1 _) ?_
  unfold Builtin.«sorted»
  refine wpAny_bind (m := checkCount "sorted" 1 1 _) (wpAny_pure ?_)
  refine wpAny_bind (collect_set (by simp [hh]) hS (by lia) fun vs h' tk d hl hi hk => ?_)
  obtain ⟨ns, hI, hn⟩ := ints_are hi
  refine wpAny_bind (wpAny_newList ?_ (by show vs.toArray.size ≤ sizeLine; rw [sizeLine_eq]; simp; lia))
  have hoL : (h'.push (seqObj "list" vs.toArray 0)).get? h'.objs.size = some (seqObj "list" vs.toArray 0) := Heap.get?_push_size _ rfl
  refine wpAny_bind (wpAny_holding (wpAny_call_entry slot_list_sort ⟨_, hoL, rfl⟩ entry_list_sort (list_sort_tree (s := { s with heap := h'.push (seqObj "list" vs.toArray 0), toks := tk, drawn := d }) hoL hI (by lia) fun out ns' a1 a2 a3 => ⟨_, rfl, ?_⟩) (args_list_sort _)))
  obtain ⟨e, he⟩ := sortedHeap_at (out := out) hoL
  refine wpAny_pure ⟨_, rfl, hQ _ _ _ _ out.toList ns' e (by rw [a2.length_eq]; lia) a1 he (fun b o hb => ?_) ?_⟩
  · have hlt := Heap.lt_size (hk b o hb)
    rw [sortedHeap_old (Nat.ne_of_lt hlt) (by rw [size_push']; exact Nat.lt_succ_of_lt hlt)]
    exact Heap.get?_push_of_some _ (hk b o hb)
  · cases q : s.heap.get? h'.objs.size with
    | none => rfl
    | some o => exact absurd (Heap.lt_size (hk _ _ q)) (Nat.lt_irrefl _)
end
end
section
open PySem PySem.W PySem.Calls PyProof.Rows
section
variable {c : Cx} {ρ : PEnv} {Q : PV → Prop} {X : PX → Prop} {I : Im} {s : Shared}
theorem call1_raw {x : Str} {px pos : Pos} {e : Expr} {f : Value} {R E : Value → Shared → Prop} (r : Rd c ρ I s) (hx : NameIs c x f) (hk : ∀ (M : Model) (h : Heap), ∃ k, (k = Keeper.frame ∨ k = Keeper.machine ∨ k = Keeper.boundFrame) ∧ Looks M h (keeperOf f) k)
    (hs : starEach [e] c.env = [(false, eval e c.env)]) (h : wpAny c.M c.A (eval e c.env) (fun v s₁ => wpAny c.M c.A (call f [v]) R E s₁) E s) :
    wpAny c.M c.A (eval (.Call (.Name x px) [e] [] pos) c.env) R E s := by
  show wpAny c.M c.A (do callWith pos (← eval (.Name x px) c.env) [] (backTo pos (starEach [e] c.env)) (backToKw pos (keywordEach [] c.env))) _ _ s
  refine wpAny_bind (name_is r hx ?_)
  rw [backTo_map (es := [e]) hs]
  refine callWith_of (P := fun _ => True) rfl (fun h _ => hk _ h) ?_
  refine evalArgs_plain (spliced_cons (wpAny_mono h (fun v s₁ q => spliced_nil ?_) fun _ _ z => z))
  exact ⟨trivial, q⟩
theorem rep_ints {I : Im} : ∀ {l : List Int} {vs : List Value}, RepAll I vs (l.map .int) → (∀ v ∈ vs, IsI v) ∧ vs.length = l.length
  | [], _, h => by cases h; exact ⟨fun _ z => (nomatch z), rfl⟩
  | x :: l, _, h => by
    cases h with
    | cons r rs =>
      obtain ⟨h1, h2⟩ := rep_ints rs
      refine ⟨fun u hu => ?_, congrArg (· + 1) h2⟩
      rcases List.mem_cons.mp hu with rfl | hu
      · refine Rep.intE r fun t => ?_; exact ⟨_, _, rfl⟩
      · exact h1 u hu
theorem are_rep {I : Im} {vs : List Value} {ns : List Int} (h : IntsAre vs ns) : RepAll I vs (ns.map .int) := by
  induction h with
  | nil => exact .nil
  | cons n t _ ih => exact .cons (.int n t) ih
theorem Ev_sortset {p1 p2 p3 p4 : Pos} {e : Expr} (h1 : NameIs c "sorted" (.builtin "sorted")) (h2 : NameIs c "set" (.type "set"))
    (h : Ev c ρ (eval e c.env) (fun p => ∃ l : List Int, p = .list (l.map .int) ∧ l.length < 64 ∧ ∀ m : List Int, m.length ≤ l.length → Q (.list (m.map .int))) X)
    (hs1 : starEach [.Call (.Name "set" p3) [e] [] p4] c.env = [(false, eval (.Call (.Name "set" p3) [e] [] p4) c.env)] := by rfl) (hs2 : starEach [e] c.env = [(false, eval e c.env)] := by rfl) :
    Ev c ρ (eval (.Call (.Name "sorted" p1) [.Call (.Name "set" p3) [e] [] p4] [] p2) c.env) Q X := fun I s r => by
  refine call1_raw r h1 (fun _ _ => ⟨.machine, .inr (.inl rfl), .now⟩) hs1 (call1_raw r h2 (fun _ _ => ⟨.machine, .inr (.inl rfl), .now⟩) hs2 (h.then r (fun v s₁ I₁ p a r₁ rv ⟨l, hl, h64, q⟩ => ?_) fun _ _ x y z => ⟨x, y, z⟩))
  subst hl
  refine Rep.listE rv ?_; intro b o vs hb ho hr
  ·
    obtain ⟨k1, n, k2⟩ := ho
    obtain ⟨i1, i2⟩ := rep_ints hr
    have hsz : vs.toArray.size = l.length := by simpa using i2
    refine call_set_L r₁.ok.handled (items := vs.toArray) ⟨_, r₁.sub _ _ hb, k1, _, k2⟩ (fun i v hv => ?_) (by rw [hsz]; unfold scanBound; lia) fun h' tk hS hk => ?_
    · exact i1 v (by rw [List.getElem?_toArray] at hv; exact List.mem_of_getElem? hv)
    rw [hsz] at hS
    refine sorted_set (s := { s₁ with heap := h', toks := tk }) r₁.ok.handled hS h64 fun a2 h2' tk2 d vs2 ns e2 hn hI he hk2 ha2 => ?_
    have kk : ∀ b o, s₁.heap.get? b = some o → h2'.get? b = some o := fun b o z => hk2 b o (hk b o (Heap.lt_size z) z)
    have hnew : s₁.heap.get? a2 = none := by
      cases z : s₁.heap.get? a2 with
      | none => rfl
      | some o' => have := hk a2 o' (Heap.lt_size z) z; rw [ha2] at this; cases this
    have hI2 : I₁ a2 = none := by
      cases z : I₁ a2 with
      | none => rfl
      | some o' => have := r₁.sub _ _ z; rw [hnew] at this; cases this
    refine ⟨I₁.put a2 (seqObj "list" vs2.toArray e2), _, a.trans ⟨Im.le_put hI2 _, fun y o z => ?_, fun y o z => ?_, .of_keeps kk, rfl, rfl⟩, ?_, q ns hn⟩
    · by_cases w : y = a2
      · rw [w, Im.put_self] at z; cases z; rw [w]; exact he
      · rw [Im.put_ne _ _ w] at z; exact kk _ _ (r₁.sub _ _ z)
    · by_cases w : y = a2
      · rw [w]; exact .inr hnew
      · rw [Im.put_ne _ _ w] at z; exact .inl z
    · exact .list (Im.put_self _ _ _) ⟨rfl, e2, rfl⟩ (are_rep hI)
end
end
section
open PySem PySem.W PySem.Calls PyProof.Rows
theorem caller_clean : CleanC (⟨.builtin "claim.caller" {}, none, none, [], none⟩ : Ctx) := ⟨by show (!Builtin.Bytes.decodersThatHold.contains "claim.caller") = true; decide +kernel, fun x hx => nomatch hx⟩
inductive EndedP (prog : Program) (w : World) (t : Sem Fin) (s : Shared) (R : Result → Shared → Prop) : Prop
  | mk (n : Nat) (r : Result) (s' s'' : Shared) (h1 : schedN (denote table) prog w n (.single s ⟨t, .builtin "claim.caller" {}, default, []⟩) = .halted (outcomeOf r) s')
    (h2 : runN (denote table) prog w n s ⟨t, .builtin "claim.caller" {}, default, []⟩ = .halted (outcomeOf r) s') (h3 : s'.forget = s''.forget) (h4 : R r s'')
theorem cps {P : Prop} (h : ∀ G : Prop, (P → G) → G) : P := h P id
theorem thread_endsP {prog : Program} {w : World} {t : Sem Fin} {s : Shared} {R : Result → Shared → Prop} (hreg : s.asleep)
    (h : wpP (model prog w) callerA t (fun fin s' => ∃ f, fin = .done f ∧ (R (.ok f) s' ∧ leftWithCleanup s'.gens = false)) s) :
    EndedP prog w t s R := by
  have key : Sem.wp (model prog w) ⟨.builtin "claim.caller" {}, none, none, [], none⟩ t (Sem.finPost (model prog w) ⟨.builtin "claim.caller" {}, none, none, [], none⟩ fun r s' => R r s' ∧ leftWithCleanup s'.gens = false)
      (fun e _ s' => R (.error e) s' ∧ leftWithCleanup s'.gens = false) default s :=
    Sem.wp_mono _ _ _ (fun fin p' s' h' => by obtain ⟨f, rfl, hf⟩ := h'; exact hf) (fun _ _ _ z => z.elim) _ _ (h _ default caller_in caller_clean)
  obtain ⟨n, r, s₁, s₂, hs, hn, hfo, hR⟩ := wp_halts_full (M := model prog w) (R := R) hreg key
  exact ⟨n, r, s₂, s₁, hs, hn, hfo, hR⟩

theorem callFromP {c : ClaimW} {tree : List Value → Sem Fin} {w : World} {s : Shared} {free : Addr → Prop} {gens : Prop} {kept : Heap → Prop} (hz : s.asleep) (hgens : s.gens = #[])
    (hspec : ∀ args, c.pre args = true → WData.layableAll args = true → ∀ ord : List DictEntry → List DictEntry, (∀ l, (ord l).Perm l) →
      ∃ vs s₁, layAllW c.records (classAt s.heap) w.params ord args s = some (vs, s₁) ∧
        wpP (model c.prog w) callerA (tree vs) (fun fin s' => ∃ f, fin = .done f ∧ (c.Ends s args vs s₁ (.ok f) s' ∧ s'.os = s.os ∧ AllBare s'.gens ∧ kept s'.heap)) s₁) :
    c.CallFrom (fun vs => ⟨tree vs, .builtin "claim.caller" {}, default, []⟩) w free gens kept s := by
  intro args hpre hlay ord hord
  refine cps fun G kG => ?_
  obtain ⟨vs, s₁, hlaid, hcode⟩ := hspec args hpre hlay ord hord
  have hal := layAllW_rest _ _ _ hlaid
  obtain ⟨k, r, s', s'', hsched, hrun, hfo, hc⟩ := thread_endsP (prog := c.prog) (w := w) (t := tree vs) (s := s₁)
    (R := fun r s' => c.Ends s args vs s₁ r s' ∧ s'.os = s.os ∧ kept s'.heap) (Shared.asleep_of_life hal.2.2.2 hz)
    (wpP_mono hcode fun fin s' ⟨f, e, h1, h2, h3, h4⟩ => ⟨f, e, ⟨h1, h2, h4⟩, leftWithCleanup_false_of_bare h3⟩)
  obtain ⟨eh, _, _, eo, _⟩ := Shared.forget_eq hfo
  have hcase := hc.1.congr eh
  have hlife : s'.heap.life = s.heap.life := (runN_life _ _ _ hrun).trans hal.2.2.2
  refine kG ⟨vs, s₁, hlaid, k, _, s', hsched, ?_, (fun _ i x hx => by rw [hgens] at hx; simp at hx), eh ▸ hc.2.2, by rw [hlife], Shared.rest_eq (eo.trans hc.2.1)⟩
  rcases hcase with ⟨v, e1, d⟩ | ⟨e, ob, cls, e1, d⟩
  · exact .inl ⟨v, congrArg outcomeOf e1, d.1, d.2.1, d.2.2.1, fun b o y _ => d.2.2.2.1 b o y, d.2.2.2.2⟩
  · exact .inr ⟨e, ob, cls, congrArg outcomeOf e1, d.1, d.2.1, d.2.2.1, d.2.2.2.1, fun b o y _ => d.2.2.2.2 b o y⟩

theorem holds_openP {r : OpenRow} {q : Program} {loose : List Str} {Xt : Shared → Bool} {XP : (Str → Option Value) → Heap → Prop} {α : Type} {Yf : Shared → α} {Ya : World → α} {YP : World → Heap → Prop} {d : DefRec} {kwd : List (Str × Expr)} {N : Nat}
    (left : LeftO r.prog q loose Xt Yf Ya N) (hY : ∀ w s, Yf s = Ya w → YP w s.heap) (hYk : ∀ w h h', YP w h → (∀ b o, h.get? b = some o → h'.get? b = some o) → YP w h')
    (hX : ∀ s, Xt s = true → XP (s.heap.nsMap mainGlobals) s.heap) (hXk : ∀ mg h h', XP mg h → (∀ b o, h.get? b = some o → h'.get? b = some o) → XP mg h')
    (hdef : defOf q r.name = some (d, kwd)) (hp : r.prog.theDef r.name = some (d.params, d.body, d.scope)) (hk : kwWritten? d.params.kwonlyargs d.params.kw_defaults = some kwd) (hRf : ∀ s, Xt s = true → RecFacts r.records s.heap) (hwr : (!r.writes || r.records.isEmpty) = true)
    (k1 : r.wellSaid = true) (ok : (chainsOk q && opensWell r.prog && (frees r.toRowW && r.within.isEmpty)) = true) (hb : r.prog.bare) (hw : r.toRowW.promised)
    (call : ∀ (w : World) (s₀ s₁ : Shared) (mg mb : Str → Option Value), Ground q loose r.records XP w s₀ mg mb s₁.heap → YP w s₁.heap → ∀ (a : Addr) (o : Obj) (pm cd doc dV kV : Value), s₁.heap.get? a = some o →
      o.data = .func { docDef d.name d.params d.body d.scope pm cd doc with defaults := dV, kwdefaults := kV } → s₁.heap.CodeRec cd d.name → Dflts mg s₁.heap d.params kwd dV kV → mg d.name = some (.ref a) → s₁.gens = #[] →
      ∀ (args : List WData) (vals : List Value) (as : List Addr), r.claim.pre args = true → WData.layableAll args = true → ReadsAllW r.records (classAt s₀.heap) s₁.heap vals args as → WellAll w.params s₁.heap vals args → (∀ a ∈ as, (a == sysModules) = false) →
        wpP (model r.prog w) callerA (PySem.call (.ref a) vals) (fun v s' => GoodWG r.claim (classAt s₀.heap) (ExcName.means s₀.heap) args s₁ (.ok (.ret v)) s') s₁) : r.Holds := by
  refine cps fun G kG => ?_
  obtain ⟨ok, k5⟩ := Bool.and_eq_true_iff.mp ok
  obtain ⟨hch, o1⟩ := Bool.and_eq_true_iff.mp ok
  obtain ⟨k5, k6⟩ := Bool.and_eq_true_iff.mp k5
  obtain ⟨hsame, hu, ha, hap, hm⟩ := frees_parts k5
  refine kG ⟨k1, hw, ⟨hb, o1, by show r.toRowW.makers.map _ = []; rw [hm]; rfl⟩, hw.witness, fun w => ⟨(left.behind hX hch w).1, fun s' hs' => cps fun G' kG' => ?_⟩⟩
  obtain ⟨s₀, hf, hg0, s, hT, hz, hgens, hg, G00, y⟩ := (left.behind (XP := fun mg h => XP mg h ∧ RecFacts r.records h) (fun s hs => ⟨hX s hs, hRf s hs⟩) hch w).2 s' hs'
  have G0 : Ground q loose [] XP w s (s.heap.nsMap mainGlobals) (s.heap.nsMap builtinsNs) s.heap := ⟨G00.T, G00.B, G00.D, G00.TE, G00.TD, G00.W, G00.X.1, G00.cls, G00.has, G00.apart, G00.once, G00.K⟩
  have RF := G00.X.2
  have hT' := hT
  refine kG' ⟨s₀, hf, hg0, s, hT, (fun n hn => ?_), RF.1, RF.2.1, ?_⟩
  · obtain rfl : n = r.name := by split at hn <;> simp_all
    exact pinned_of_view hg G0 hdef hp hk
  have hgens : s.gens = #[] := Array.eq_empty_of_size_eq_zero (beq_iff_eq.mp hgens)
  have G : Ground q loose r.records XP w s _ _ s.heap := RF.ground G0
  refine callFromP (c := r.toRowW.claim) (tree := fun vs => do match ← nsGet mainNs r.name with
      | some f => do ret (← PySem.call f vs)
      | none => unsupported "claim.caller:no-such-global") hz hgens fun args hpre hlay ord hord => cps fun G'' kG'' => ?_
  obtain ⟨⟨vs, s₁⟩, hlaid⟩ := Option.isSome_iff_exists.mp (layAllW_isSome (P := w.params) (ord := ord) G.has args r.args s (pre_splitW hpre).1)
  have keeps := layAllW_keeps _ _ _ hlaid
  have hal := layAllW_rest _ _ _ hlaid
  obtain ⟨as, hrd, hin, hold⟩ := reads_layAllW hord _ _ _ hlaid hlay s₁.heap (fun _ _ e => e)
  have L : Laid r.records w s s₁ args vs as := ⟨⟨ord, hord, hlaid⟩, hrd, hin, hold, keeps, hal.1.trans hgens, hal.2.2.1⟩
  have G₁ := G.keeps hXk keeps
  obtain ⟨a, o, pm, cd, doc, dV, kV, h1, h2, h3, h4, h5⟩ := G₁.fn hdef
  have h := call w s s₁ _ _ G₁ (hYk _ _ _ (hY w s y) keeps) a o pm cd doc dV kV h2 h3 h4 h5 (defOf_name hdef ▸ h1) L.gens args vs as hpre hlay L.reads L.well (L.low G.low)
  have hi := ident_freeW hu ha hap
  have hwi : r.toRowW.claim.within = [] := List.isEmpty_iff.mp k6
  refine kG'' ⟨vs, s₁, hlaid, wpP_leaf (wpAny_nsGet G₁.T.g ?_)⟩
  rw [h1]
  refine wpP_bind (wpP_mono h fun v s' g => wpP_pure ⟨_, rfl, have z := g.laid (c := r.toRowW.claim) hsame hwi hi L; ⟨z.1, z.2.1, z.2.2, fun q => ⟨namesKept_of hT' hg _ keeps g.2.1.old, noTable hwr q⟩⟩⟩)
end
section
open PySem PySem.W PySem.Calls PyProof.Rows
noncomputable def keepL : List Nat := [1, 2, 3, 5, 6, 7, 8, 12, 13, 14, 15, 16, 17, 18, 19, 20, 22, 23, 24, 25, 26, 27, 28, 30, 31, 32, 35, 36, 37, 38, 39, 40, 41, 42, 43, 44, 45, 46, 47, 48, 49]
noncomputable def qv : Program := view PySem.Challenge.pw_pq1085_01 keepL
noncomputable def looseL : List Str := ["sum16", "check_of", "packet_of"]
theorem left_quick {p q : Program} {loose : List Str} {Xt : Shared → Bool} {α : Type} {Yf : Shared → α} {Ya : World → α} {N : Nat}
   (tt : String → Option Builtin) (tr : (String → Option Builtin) → Program → World → Nat → Option Value → Nat → Shared → Thread → Option Shared) (h0 : treeTable = tt) (h1 : @topRun = tr)
   (e : opening p = plainProg p.main.scope.names) (hN : Nat.ble 600 N = true) (f : ∀ s, fenceModules? p s = some s)
   (size : ∀ w : World, (boot_heap w.params).isNs mainGlobals = true)
   (h : ∀ w os, (tr tt p w (boot_heap w.params).objs.size ((boot_heap w.params).nsMap mainGlobals "__annotations__") N ⟨boot_heap w.params, Array.mk [], boot_drawn, boot_toks, os⟩ (topStub p)).map (fun s₁ => ((staticsOk (importedModules p.main.body) (boot_heap w.params) s₁.heap && namesBound p s₁.heap && gensDone s₁ && laidKept (boot_heap w.params) s₁.heap),
     openSeen q loose (importedModules p.main.body) Xt true s₁, Yf s₁)) = some (true, openGood q loose, Ya w)) : LeftO p q loose Xt Yf Ya N := by
  subst h0 h1
  intro w
  have B := boot_open (N := N) e hN f w
  obtain ⟨⟨hh, gs, d, k, os⟩, e1, e'⟩ := Option.map_eq_some_iff.mp B
  obtain ⟨rfl, rfl, rfl, rfl⟩ : hh = boot_heap w.params ∧ gs = Array.mk [] ∧ d = boot_drawn ∧ k = boot_toks := by simpa using e'
  obtain ⟨s1, r, c⟩ := Option.map_eq_some_iff.mp (h w os)
  obtain ⟨c1, c2⟩ := Prod.mk.inj c
  unfold openEnds
  rw [e1]
  show (topFrom treeTable p w N _).map _ = _
  have t : topFrom treeTable p w N ⟨boot_heap w.params, Array.mk [], boot_drawn, boot_toks, os⟩ = some s1 := by
    unfold topFrom
    dsimp only
    rw [size w, r]
    show (match staticsOk (importedModules p.main.body) (boot_heap w.params) s1.heap && namesBound p s1.heap && gensDone s1 && laidKept (boot_heap w.params) s1.heap with | true => _ | false => _) = _
    rw [c1]
  rw [t]
  exact congrArg some c2
noncomputable def runQ (w : World) (os : OsState) : Option Shared := (PySem.W.Fast.tw14082659384304107361 PySem.W.Fast.tw14364793385576792824 PySem.Challenge.rw_pq1085_01.row.prog w (boot_heap w.params).objs.size ((boot_heap w.params).nsMap mainGlobals "__annotations__") 5270 ⟨boot_heap w.params, Array.mk [], boot_drawn, boot_toks, os⟩ (topStub PySem.Challenge.rw_pq1085_01.row.prog))
noncomputable def modsQ : List Str := importedModules (Program.main PySem.Challenge.rw_pq1085_01.row.prog).body
noncomputable def fA (w : World) (s : Shared) : Bool := staticsOk modsQ (boot_heap w.params) s.heap && namesBound PySem.Challenge.rw_pq1085_01.row.prog s.heap && gensDone s && laidKept (boot_heap w.params) s.heap
noncomputable def fB (s : Shared) := (seen ((recsOf qv).map (·.name)) (ownsOf qv) [] { s with gens := #[] }, s.heap.bltView)
noncomputable def fC (s : Shared) := (s.heap.keysOk (looseW qv looseL) ((recsOf qv).map (·.name)) ((litsOf qv).map (·.1)) ((clssOf qv (looseW qv looseL)).map (·.name)) && s.heap.accountedOkI modsQ && s.heap.isNs mainGlobals && s.heap.isNs builtinsNs && tablesOk qv s.heap && (fun s => xlAt Mine.qv [] s && recOk (RowW.records PySem.Challenge.rw_pq1085_01.row.toRowW) s) s && (if true then s.gens.size == 0 else !leftWithCleanup s.gens), tabsOk qv s)
noncomputable def fD (s : Shared) := (pinSeenD qv (drecsOf qv) s, plainSeenE qv (looseW qv looseL) s, plainSeenD qv looseL s, wideSeen qv s, clsSeenW qv looseL s)
theorem runA (w : World) (os : OsState) : (runQ w os).map (fA w) = some true := by kernel_rfl
theorem runB (w : World) (os : OsState) : (runQ w os).map fB = some (expectedOf qv, bltViewBooted) := by kernel_rfl
theorem runC (w : World) (os : OsState) : (runQ w os).map fC = some (true, true) := by kernel_rfl
theorem runD (w : World) (os : OsState) : (runQ w os).map fD = some (pinGoodD (drecsOf qv), plainGoodE qv (looseW qv looseL), plainGoodD qv looseL, wideGood qv, clsGoodW qv looseL) := by kernel_rfl
theorem run_all {α : Type} {Y : Shared → α} {y : α} (w : World) (os : OsState) (h : (runQ w os).map Y = some y) :
    (runQ w os).map (fun s₁ => (fA w s₁, openSeen qv looseL modsQ (fun s => xlAt Mine.qv [] s && recOk (RowW.records PySem.Challenge.rw_pq1085_01.row.toRowW) s) true s₁, Y s₁)) = some (true, openGood qv looseL, y) := by
  have a := runA w os
  have b := runB w os
  have c := runC w os
  have d := runD w os
  generalize runQ w os = o at a b c d h
  cases o with
  | none => cases a
  | some s =>
    have a : fA w s = true := Option.some.inj a
    have b : fB s = _ := Option.some.inj b
    have c : fC s = _ := Option.some.inj c
    have d : fD s = _ := Option.some.inj d
    have h : Y s = y := Option.some.inj h
    show some (fA w s, ((fB s).1, (fB s).2, (fC s).1, (fC s).2, fD s), Y s) = _
    rw [a, b, c, d, h]; rfl
noncomputable def headP (H : Hook) (said : PySem.Challenge.rw_pq1085_01.row.wellSaid = true) (hl : LeftO PySem.Challenge.rw_pq1085_01.row.prog Mine.qv Mine.looseL (fun s => xlAt Mine.qv [] s && recOk (RowW.records PySem.Challenge.rw_pq1085_01.row.toRowW) s) H.obs H.val 5270) :=
  holds_openP (r := PySem.Challenge.rw_pq1085_01.row) (q := Mine.qv) (loose := Mine.looseL) (Xt := fun s => xlAt Mine.qv [] s && recOk (RowW.records PySem.Challenge.rw_pq1085_01.row.toRowW) s) (XP := XL Mine.qv []) (Yf := Hook.obs H) (Ya := Hook.val H) (YP := Hook.says H) (N := 5270)
    hl (Hook.of H) (Hook.keeps H) (fun s e => xl_of s (Bool.and_eq_true_iff.mp e).1) XL.keeps (by rfl) (by rfl) (by rfl) (fun s e => recFacts_of (Bool.and_eq_true_iff.mp e).2) (by rfl) said (by decide +kernel) ⟨rfl, rfl, rfl, rfl, rfl, by decide +kernel⟩
local macro_rules | `(tactic| o_head $H) => `(tactic| (
  refine headP $H (by assumption) ?hl ?hw ?hc
  case hl => exact left_quick PySem.W.Fast.tw14364793385576792824 PySem.W.Fast.tw14082659384304107361 PySem.W.Fast.te14364793385576792824 PySem.W.Fast.te14082659384304107361 (by kernel_rfl) (by kernel_rfl) (fun s => by kernel_rfl) (fun w => by kernel_rfl) (fun w os => run_all w os (by kernel_rfl))))
theorem said0 : PySem.Challenge.rw_pq1085_01.wellSaid = true := by rw [PySem.W.Fast.te9446332074065402090]; kernel_rfl
local macro_rules | `(tactic| o_law) => `(tactic| refine holds_law (l := PySem.Challenge.rw_pq1085_01) said0 fun said => ?_)
open_top hd for PySem.Challenge.rw_pq1085_01
end
section
open PySem PySem.W PySem.Calls PyProof.Rows
noncomputable def Octs (l : List Int) : Prop := ∀ x ∈ l, 0 ≤ x ∧ x < 256
theorem Octs.cons {x : Int} {l : List Int} (h : Octs (x :: l)) : (0 ≤ x ∧ x < 256) ∧ Octs l := ⟨h x (.head _), fun y hy => h y (.tail _ hy)⟩
theorem Octs.append {l m : List Int} (h : Octs l) (k : Octs m) : Octs (l ++ m) := fun x hx => (List.mem_append.mp hx).elim (h x) (k x)
theorem Octs.take {l : List Int} (h : Octs l) (n : Nat) : Octs (l.take n) := fun x hx => h x (List.mem_of_mem_take hx)
theorem Octs.drop {l : List Int} (h : Octs l) (n : Nat) : Octs (l.drop n) := fun x hx => h x (List.mem_of_mem_drop hx)
theorem Octs.cut {l : List Int} (h : Octs l) (a b : Option Int) : Octs (cutL l a b) := (h.drop _).take _
theorem Octs.get {l : List Int} (h : Octs l) {i : Nat} {x : Int} (e : l[i]? = some x) : 0 ≤ x ∧ x < 256 := h x (List.mem_of_getElem? e)

noncomputable def at0 (l : List Int) (i : Int) : Int := l.getD i.toNat 0
theorem at0_some {l : List Int} {i : Int} (h0 : 0 ≤ i) (h : i < l.length) : l[i.toNat]? = some (at0 l i) := by
  unfold at0; rw [List.getD_eq_getElem?_getD, List.getElem?_eq_getElem (by lia)]; rfl
theorem at0_range {l : List Int} (h : Octs l) (i : Int) : 0 ≤ at0 l i ∧ at0 l i < 256 := by
  unfold at0; rw [List.getD_eq_getElem?_getD]
  cases q : l[i.toNat]? with
  | none => exact ⟨by decide, by decide⟩
  | some x => exact h.get q

theorem and_low (k : Nat) : ∀ (a b : Int), 0 ≤ b → b < 2 ^ k → Builtin.bitAnd (a * 2 ^ k) b = 0 := by
  induction k with
  | zero => intro a b h0 h1; have : b = 0 := by lia
            subst this; exact bitAnd_zero _
  | succ k ih =>
    intro a b h0 h1
    rw [Int.pow_succ] at h1
    rw [kbt_halves, show a * 2 ^ (k + 1) / 2 = a * 2 ^ k by rw [Int.pow_succ, ← Int.mul_assoc]; exact Int.mul_ediv_cancel _ (by decide), ih a (b / 2) (by lia) (by lia), if_neg]
    · rfl
    · rw [Int.pow_succ, ← Int.mul_assoc]; lia
theorem or_low (k : Nat) (a b : Int) (h0 : 0 ≤ b) (h1 : b < 2 ^ k) : Builtin.bitOr (a * 2 ^ k) b = a * 2 ^ k + b := by rw [bitOr_and, and_low k a b h0 h1]; lia
theorem bits_le {x : Int} {k : Nat} (h0 : 0 ≤ x) (h : x < 2 ^ k) : Builtin.Int.intBits x ≤ k := by
  unfold Builtin.Int.intBits
  split
  · lia
  · rename_i q
    have hx : x.natAbs ≠ 0 := fun z => q (by have : x = 0 := by lia
                                             rw [this]; rfl)
    have : x.natAbs.log2 < k := (Nat.log2_lt hx).mpr (by
      have : ((2 ^ k : Nat) : Int) = (2 : Int) ^ k := kbt_cast k
      lia)
    lia
theorem and_65528 (x : Int) (h0 : 0 ≤ x) (h1 : x < 65536) : Builtin.bitAnd x 65528 = x / 8 * 8 := by
  rw [kbt_halves, kbt_halves (x / 2), kbt_halves (x / 2 / 2), show (65528 : Int) / 2 / 2 / 2 = 2 ^ 13 - 1 by decide, kbt_mask, if_neg (by lia), if_neg (by lia), if_neg (by lia)]
  have : x / 2 / 2 / 2 % 2 ^ 13 = x / 8 := by
    rw [show (2 : Int) ^ 13 = 8192 by decide]; lia
  rw [this]; lia

noncomputable def num (l : List Int) : Int := l.foldl (fun n o => n * 256 + o) 0
theorem num_go (l : List Int) : ∀ n : Int, l.foldl (fun n o => n * 256 + o) n = n * 256 ^ l.length + num l := by
  unfold num
  induction l with
  | nil => intro n; simp
  | cons x l ih =>
    intro n
    rw [List.foldl_cons, List.foldl_cons, ih, ih (0 * 256 + x), List.length_cons, Int.pow_succ, Int.add_mul, Int.add_mul, Int.mul_assoc n, Int.mul_comm 256, Int.zero_mul]
    lia
theorem num_append (a b : List Int) : num (a ++ b) = num a * 256 ^ b.length + num b := by
  conv => lhs; unfold num
  rw [List.foldl_append, num_go]; rfl
theorem num_snoc (a : List Int) (x : Int) : num (a ++ [x]) = num a * 256 + x := by
  unfold num; rw [List.foldl_append]; rfl
theorem num_range {l : List Int} (h : Octs l) : 0 ≤ num l ∧ num l < 256 ^ l.length := by
  induction l with
  | nil => exact ⟨by decide, by decide⟩
  | cons x l ih =>
    obtain ⟨hx, hl⟩ := h.cons
    obtain ⟨a, b⟩ := ih hl
    have e : num (x :: l) = x * 256 ^ l.length + num l := by
      have := num_append [x] l
      rw [List.singleton_append] at this
      rw [this]; unfold num; simp
    have hp : (0 : Int) < 256 ^ l.length := Int.pow_pos (by decide)
    rw [e, List.length_cons, Int.pow_succ]
    refine ⟨Int.add_nonneg (Int.mul_nonneg hx.1 (by lia)) a, ?_⟩
    have : x * 256 ^ l.length ≤ 255 * 256 ^ l.length := Int.mul_le_mul_of_nonneg_right (by lia) (by lia)
    lia
theorem pow256 (k : Nat) : (256 : Int) ^ k = 2 ^ (8 * k) := by rw [Int.pow_mul]; rfl

noncomputable def dig (n : Int) (k : Nat) : List Int := (List.range k).map fun p => n / 256 ^ (k - 1 - p) % 256
theorem dig_octs (n : Int) (k : Nat) : Octs (dig n k) := fun x hx => by
  obtain ⟨p, _, rfl⟩ := List.mem_map.mp hx
  lia
theorem dig_length (n : Int) (k : Nat) : (dig n k).length = k := by unfold dig; simp
theorem dig_succ (n : Int) (k : Nat) : dig n (k + 1) = dig (n / 256) k ++ [n % 256] := by
  unfold dig
  rw [List.range_succ, List.map_append]
  congr 1
  · refine List.map_congr_left fun p hp => ?_
    have hp := List.mem_range.mp hp
    rw [show k + 1 - 1 - p = (k - 1 - p) + 1 by lia, Int.pow_succ, Int.mul_comm, Int.ediv_ediv_of_nonneg (by decide)]
  · simp
theorem dig_num {l : List Int} (h : Octs l) : dig (num l) l.length = l := by
  suffices key : ∀ (k : Nat) (l : List Int), l.length = k → Octs l → dig (num l) k = l from key _ l rfl h
  intro k
  induction k with
  | zero => intro l hl _; have := List.length_eq_zero_iff.mp hl; subst this; rfl
  | succ k ih =>
    intro l hl h
    have hne : l ≠ [] := by intro z; subst z; simp at hl
    obtain ⟨a, x, rfl⟩ : ∃ a x, l = a ++ [x] := ⟨l.dropLast, l.getLast hne, (List.dropLast_concat_getLast hne).symm⟩
    have ha : Octs a := fun y hy => h y (List.mem_append_left _ hy)
    have hx := h x (List.mem_append_right _ (.head _))
    rw [num_snoc, dig_succ, show (num a * 256 + x) / 256 = num a by lia, show (num a * 256 + x) % 256 = x by lia, ih a (by simpa using hl) ha]

noncomputable def words : List Int → Int
  | [] => 0
  | [a] => a * 256
  | a :: b :: r => a * 256 + b + words r
noncomputable def fold (t : Int) : Int := if t = 0 then 0 else (t - 1) % 65535 + 1
end
section
open PySem PySem.W PySem.Calls PyProof.Rows
theorem words_even : ∀ (a b : List Int), a.length % 2 = 0 → words (a ++ b) = words a + words b
  | [], b, _ => by simp [words]
  | [x], b, h => by simp at h
  | x :: y :: r, b, h => by
    have := words_even r b (by simp only [List.length_cons] at h; lia)
    simp only [List.cons_append, words, this]; lia
theorem words_range : ∀ {l : List Int}, Octs l → 0 ≤ words l ∧ words l ≤ 65535 * l.length
  | [], _ => by decide
  | [x], h => by have := (h.cons).1; simp only [words, List.length_cons, List.length_nil]; lia
  | x :: y :: r, h => by
    have h1 := h.cons
    have h2 := h1.2.cons
    have := words_range h2.2
    simp only [words, List.length_cons]; lia
theorem take_two {l : List Int} {i : Nat} {a b : Int} (h1 : l[i]? = some a) (h2 : l[i + 1]? = some b) : l.take (i + 2) = l.take i ++ [a, b] := by
  rw [show i + 2 = i + 1 + 1 by rfl, List.take_add_one, List.take_add_one, h1, h2]; simp
theorem range2_size (n : Int) (h : 0 ≤ n) : Builtin.Range.rangeSize 0 n 2 = (n + 1) / 2 := by
  unfold Builtin.Range.rangeSize
  rw [if_pos (by decide)]
  by_cases q : 0 < n
  · rw [if_pos q]; lia
  · rw [if_neg q]; lia
theorem range1_size (a n : Int) (h : a ≤ n) : Builtin.Range.rangeSize a n 1 = n - a := by
  unfold Builtin.Range.rangeSize
  rw [if_pos (by decide)]
  by_cases q : a < n
  · rw [if_pos q]; lia
  · rw [if_neg q]; lia
theorem fits_small {i : Int} (h0 : 0 ≤ i) (h1 : i ≤ 2 ^ 21) : Builtin.Range.rangeFitsLong i = true := Bool.and_eq_true_iff.mpr ⟨decide_eq_true (Int.le_trans (by decide) h0), decide_eq_true (Int.lt_of_le_of_lt h1 (by decide))⟩
theorem small_two {n : Int} (h0 : 0 ≤ n) (h1 : n ≤ 2 ^ 20) : Builtin.Range.small 0 n 2 = true := by
  unfold Builtin.Range.small
  have h2 : 0 ≤ (n + 1) / 2 := Int.ediv_nonneg (Int.le_trans h0 (Int.le_add_of_nonneg_right (by decide))) (by decide)
  have h3 : (n + 1) / 2 ≤ 2 ^ 21 := Int.le_trans (Int.ediv_le_self _ (Int.le_trans h0 (Int.le_add_of_nonneg_right (by decide)))) (Int.le_trans (Int.add_le_add_right h1 1) (by decide))
  have h4 : n + (2 - 1) ≤ 2 ^ 21 := Int.le_trans (Int.add_le_add_right h1 _) (by decide)
  rw [range2_size n h0, fits_small (Int.le_refl 0) (by decide), fits_small h0 (Int.le_trans h1 (by decide)), fits_small (i := 2) (by decide) (by decide), fits_small h2 h3, if_pos (show (2 : Int) > 0 by decide),
    fits_small (Int.le_trans h0 (Int.le_add_of_nonneg_right (by decide))) h4, Bool.or_true]; rfl
theorem iters_r1 {c : Cx} {n : Int} (h0 : 0 ≤ n) (h1 : n ≤ 2 ^ 20) : Iters c (.range 0 n 1) ((List.range n.toNat).map fun (k : Nat) => PV.int k) := by
  have := iters_range (c := c) (x := 0) (y := n) (z := 1) (small_one (by decide) (by decide) (by lia) (by lia)) (by rw [range1_size 0 n h0]; lia)
  unfold rangeItems at this
  rw [range1_size 0 n h0, List.map_map, Int.sub_zero] at this
  have e : (PV.int ∘ fun (k : Nat) => (0 : Int) + (k : Int) * 1) = fun (k : Nat) => PV.int k := by
    funext k; simp only [Function.comp_apply]; congr 1; lia
  rw [e] at this; exact this
theorem iters_r2 {c : Cx} {n : Int} (h0 : 0 ≤ n) (h1 : n ≤ 2 ^ 20) : Iters c (.range 0 n 2) ((List.range ((n + 1) / 2).toNat).map fun (k : Nat) => PV.int (2 * k)) := by
  have := iters_range (c := c) (x := 0) (y := n) (z := 2) (small_two h0 h1) (by rw [range2_size n h0]; lia)
  unfold rangeItems at this
  rw [range2_size n h0, List.map_map] at this
  have e : (PV.int ∘ fun (k : Nat) => (0 : Int) + (k : Int) * 2) = fun (k : Nat) => PV.int (2 * k) := by
    funext k; simp only [Function.comp_apply]; congr 1; lia
  rw [e] at this; exact this
theorem range_get {n i : Nat} {f : Nat → PV} {p : PV} (h : ((List.range n).map f)[i]? = some p) : i < n ∧ p = f i := by
  rw [List.getElem?_map] at h
  by_cases q : i < n
  · rw [List.getElem?_range q] at h; cases h; exact ⟨q, rfl⟩
  · rw [List.getElem?_eq_none (by simp; lia)] at h; cases h
end
section
open PySem PySem.W PySem.Calls PyProof.Rows
theorem sum_mul (l : List Int) (k : Int) : (l.map fun x => x * k).sum = l.sum * k := by
  induction l with
  | nil => simp
  | cons x l ih => simp only [List.map_cons, List.sum_cons, ih, Int.add_mul]
theorem num_sum (l : List Int) : ((List.range l.length).map fun (k : Nat) => at0 l k * 256 ^ (l.length - 1 - k)).sum = num l := by
  suffices key : ∀ (n : Nat) (l : List Int), l.length = n → ((List.range n).map fun (k : Nat) => at0 l k * 256 ^ (n - 1 - k)).sum = num l from key _ l rfl
  intro n
  induction n with
  | zero => intro l hl; have := List.length_eq_zero_iff.mp hl; subst this; rfl
  | succ n ih =>
    intro l hl
    have hne : l ≠ [] := by intro z; subst z; simp at hl
    obtain ⟨a, x, rfl⟩ : ∃ a x, l = a ++ [x] := ⟨l.dropLast, l.getLast hne, (List.dropLast_concat_getLast hne).symm⟩
    have ha : a.length = n := by simpa using hl
    rw [List.range_succ, List.map_append, List.sum_append, num_snoc, ← ih a ha, ← sum_mul, List.map_map]
    have e1 : (List.range n).map (fun (k : Nat) => at0 (a ++ [x]) k * 256 ^ (n + 1 - 1 - k)) = (List.range n).map ((fun x => x * 256) ∘ fun (k : Nat) => at0 a k * 256 ^ (n - 1 - k)) := by
      refine List.map_congr_left fun k hk => ?_
      have hk := List.mem_range.mp hk
      simp only [Function.comp_apply]
      rw [show n + 1 - 1 - k = (n - 1 - k) + 1 by lia, Int.pow_succ, Int.mul_assoc]
      congr 1
      unfold at0
      rw [List.getD_eq_getElem?_getD, List.getD_eq_getElem?_getD, List.getElem?_append_left (by lia)]
    have e2 : at0 (a ++ [x]) (n : Int) = x := by
      unfold at0
      rw [List.getD_eq_getElem?_getD, List.getElem?_append_right (by lia)]
      simp [ha]
    rw [e1, List.map_singleton, e2]
    simp
noncomputable def wt (k : Nat) : Int := if k % 2 = 0 then 256 else 1
theorem wt_two (k : Nat) : wt (k + 1 + 1) = wt k := by unfold wt; rw [show (k + 1 + 1) % 2 = k % 2 by lia]
theorem words_sum : ∀ (l : List Int), ((List.range l.length).map fun (k : Nat) => at0 l k * wt k).sum = words l
  | [] => rfl
  | [a] => by simp [words, at0, wt]
  | a :: b :: r => by
    have ih := words_sum r
    rw [List.length_cons, List.length_cons, List.range_succ_eq_map, List.range_succ_eq_map]
    simp only [List.map_cons, List.map_map, List.sum_cons]
    rw [show words (a :: b :: r) = a * 256 + b + words r by rfl, ← ih]
    have e : ∀ k ∈ List.range r.length, ((fun (k : Nat) => at0 (a :: b :: r) k * wt k) ∘ Nat.succ ∘ Nat.succ) k = at0 r k * wt k := fun k hk => by
      show at0 (a :: b :: r) ((k + 1 + 1 : Nat) : Int) * wt (k + 1 + 1) = _
      rw [wt_two]; rfl
    rw [List.map_congr_left e]
    show a * 256 + (b * 1 + _) = _
    lia
end
section
open PySem PySem.W PySem.Calls PyProof.Rows
noncomputable def sub (l : List Int) (a b : Int) : Int := num (cutL l (some a) (some b))
theorem min_sub_le (a b n : Nat) : min b n - min a n ≤ b - a := by
  rcases Nat.le_total a n with h | h
  · rw [Nat.min_eq_left h]; exact Nat.sub_le_sub_right (Nat.min_le_left _ _) _
  · rw [Nat.min_eq_right h, Nat.sub_eq_zero_of_le (Nat.min_le_right _ _)]; exact Nat.zero_le _
theorem cutL_le (l : List Int) {a b : Int} (h0 : 0 ≤ a) (h : a ≤ b) : (cutL l (some a) (some b)).length ≤ (b - a).toNat := by
  obtain ⟨x, rfl⟩ := Int.eq_ofNat_of_zero_le h0
  obtain ⟨y, rfl⟩ := Int.eq_ofNat_of_zero_le (Int.le_trans h0 h)
  unfold cutL
  rw [List.length_take, Int.toNat_sub]
  refine Nat.le_trans (Nat.min_le_left _ _) ?_
  dsimp only [Option.elim]
  rw [clipAt_nat, clipAt_nat]
  exact min_sub_le _ _ _
theorem sub_range {l : List Int} (h : Octs l) (a b : Int) (k : Nat) (h0 : 0 ≤ a) (h1 : b = a + k) : 0 ≤ sub l a b ∧ sub l a b < 256 ^ k := by
  have r := num_range (h.cut (some a) (some b))
  have hl := cutL_le l h0 (b := b) (by omega)
  refine ⟨r.1, Int.lt_of_lt_of_le r.2 ?_⟩
  have : (cutL l (some a) (some b)).length ≤ k := by omega
  have e : (256 : Int) ^ k = 256 ^ (cutL l (some a) (some b)).length * 256 ^ (k - (cutL l (some a) (some b)).length) := by rw [← Int.pow_add]; congr 1; omega
  have p1 : (0 : Int) < 256 ^ (cutL l (some a) (some b)).length := Int.pow_pos (by decide)
  have p2 : (0 : Int) < 256 ^ (k - (cutL l (some a) (some b)).length) := Int.pow_pos (by decide)
  have := Int.mul_le_mul_of_nonneg_left (show (1 : Int) ≤ 256 ^ (k - (cutL l (some a) (some b)).length) by omega) (Int.le_of_lt p1)
  rw [Int.mul_one] at this
  rw [e]; exact this
noncomputable def look4P (l : List Int) : Option (Int × Int × Int × Bool) :=
  if (l.length : Int) < 20 then none else if at0 l 0 / 16 ≠ 4 then none
  else if at0 l 0 % 16 * 4 < 20 then none else if (l.length : Int) < at0 l 0 % 16 * 4 then none
  else some (at0 l 9, at0 l 0 % 16 * 4, sub l 6 8 % 8192 * 8, decide (sub l 6 8 / 8192 % 2 = 1))
noncomputable def lkV : Option (Int × Int × Int × Bool) → PV
  | none => .none
  | some (a, b, c, d) => .tuple [.int a, .int b, .int c, .bool d]
noncomputable def hsz (kind second : Int) : Int :=
  if kind = 0 ∨ kind = 43 ∨ kind = 60 then (second + 1) * 8 else if kind = 51 then (second + 2) * 4 else if kind = 44 then 8 else 0
noncomputable def szAt (l : List Int) (a kind e : Int) : Int :=
  if hsz kind 0 = 0 then 0 else if e < a + 2 then -1 else if e < a + hsz kind (at0 l (a + 1)) then -1 else hsz kind (at0 l (a + 1))
noncomputable def plAt (l : List Int) (a : Int) : Int := sub l (a + 2) (a + 4) / 8 * 8
theorem bit13 (x : Int) : (Builtin.bitAnd x 8192 != 0) = decide (x / 8192 % 2 = 1) := by
  have := kbt_bit x 13
  rw [show (2 : Int) ^ 13 = 8192 by decide] at this
  rw [this]
  rcases Int.emod_two_eq (x / 8192) with h | h <;> rw [h] <;> decide
end
section
open PySem PySem.W PySem.Calls PyProof.Rows
theorem cutL_nat {α : Type} (l : List α) {a b : Nat} (h : a ≤ b) (h1 : b ≤ l.length) : cutL l (some (a : Int)) (some (b : Int)) = (l.drop a).take (b - a) := by
  unfold cutL
  dsimp only [Option.elim]
  rw [clipAt_nat, clipAt_nat, Nat.min_eq_left h1, Nat.min_eq_left (Nat.le_trans h h1)]
theorem cutL_nn {α : Type} (l : List α) {a b : Int} (h0 : 0 ≤ a) (h : a ≤ b) (h1 : b ≤ l.length) : cutL l (some a) (some b) = (l.drop a.toNat).take (b.toNat - a.toNat) := by
  obtain ⟨x, rfl⟩ := Int.eq_ofNat_of_zero_le h0
  obtain ⟨y, rfl⟩ := Int.eq_ofNat_of_zero_le (Int.le_trans h0 h)
  exact cutL_nat l (Int.ofNat_le.mp h) (Int.ofNat_le.mp h1)
theorem cutL_len' {l : List Int} {a b : Int} (h0 : 0 ≤ a) (h : a ≤ b) (h1 : b ≤ l.length) : ((cutL l (some a) (some b)).length : Int) = b - a := by
  obtain ⟨x, rfl⟩ := Int.eq_ofNat_of_zero_le h0
  obtain ⟨y, rfl⟩ := Int.eq_ofNat_of_zero_le (Int.le_trans h0 h)
  have a1 := Int.ofNat_le.mp h
  have a2 := Int.ofNat_le.mp h1
  rw [cutL_nat l a1 a2, List.length_take, List.length_drop, Nat.min_eq_left (Nat.sub_le_sub_right a2 x), Int.ofNat_sub a1]
theorem at0_cut {l : List Int} {a b i : Int} (h0 : 0 ≤ a) (h1 : b ≤ l.length) (hi : 0 ≤ i) (h : a + i < b) : at0 (cutL l (some a) (some b)) i = at0 l (a + i) := by
  obtain ⟨x, rfl⟩ := Int.eq_ofNat_of_zero_le h0
  obtain ⟨j, rfl⟩ := Int.eq_ofNat_of_zero_le hi
  obtain ⟨y, rfl⟩ := Int.eq_ofNat_of_zero_le (Int.le_trans (Int.natCast_nonneg (x + j)) (Int.le_of_lt h))
  have a1 : x + j < y := Int.ofNat_lt.mp h
  rw [cutL_nat l (Nat.le_trans (Nat.le_add_right x j) (Nat.le_of_lt a1)) (Int.ofNat_le.mp h1)]
  unfold at0
  show ((l.drop x).take (y - x)).getD j 0 = l.getD (x + j) 0
  rw [List.getD_eq_getElem?_getD, List.getD_eq_getElem?_getD, List.getElem?_take, if_pos (Nat.lt_sub_of_add_lt (Nat.add_comm x j ▸ a1)), List.getElem?_drop]
theorem cut_cut {l : List Int} {x y i j : Int} (h0 : 0 ≤ x) (h1 : y ≤ l.length) (hi : 0 ≤ i) (hij : i ≤ j) (hj : x + j ≤ y) : cutL (cutL l (some x) (some y)) (some i) (some j) = cutL l (some (x + i)) (some (x + j)) := by
  obtain ⟨x, rfl⟩ := Int.eq_ofNat_of_zero_le h0
  obtain ⟨i, rfl⟩ := Int.eq_ofNat_of_zero_le hi
  obtain ⟨j, rfl⟩ := Int.eq_ofNat_of_zero_le (Int.le_trans hi hij)
  obtain ⟨y, rfl⟩ := Int.eq_ofNat_of_zero_le (Int.le_trans (Int.natCast_nonneg (x + j)) hj)
  have a1 : x + j ≤ y := Int.ofNat_le.mp hj
  have a2 : i ≤ j := Int.ofNat_le.mp hij
  have a3 : y ≤ l.length := Int.ofNat_le.mp h1
  have a4 : x ≤ y := Nat.le_trans (Nat.le_add_right x j) a1
  have a5 : j ≤ y - x := Nat.le_sub_of_add_le' a1
  show _ = cutL l (some ((x + i : Nat) : Int)) (some ((x + j : Nat) : Int))
  rw [cutL_nat l a4 a3, cutL_nat _ a2 (by rw [List.length_take, List.length_drop]; exact Nat.le_min.mpr ⟨a5, Nat.le_trans a5 (Nat.sub_le_sub_right a3 _)⟩),
    cutL_nat l (Nat.add_le_add_left a2 x) (Nat.le_trans a1 a3), List.drop_take, List.take_take, List.drop_drop, Nat.add_sub_add_left, Nat.min_eq_left (Nat.sub_le_sub_right a5 i)]
theorem take_one {l : List Int} {a : Int} (h0 : 0 ≤ a) (h : a < l.length) : l.drop a.toNat = at0 l a :: l.drop (a.toNat + 1) := by
  rw [List.drop_eq_getElem_cons (by lia)]
  congr 1
  have := at0_some h0 h
  rw [List.getElem?_eq_getElem (by lia)] at this
  exact Option.some.inj this
theorem sub_two {l : List Int} {a : Int} (h0 : 0 ≤ a) (h : a + 2 ≤ l.length) : sub l a (a + 2) = at0 l a * 256 + at0 l (a + 1) := by
  unfold sub
  rw [cutL_nn l h0 (by lia) h, take_one h0 (by lia), show a.toNat + 1 = (a + 1).toNat by lia, take_one (l := l) (a := a + 1) (by lia) (by lia), show (a + 2).toNat - a.toNat = 2 by lia]
  simp [num]
noncomputable abbrev Hd := Int × List Int
noncomputable def scan (l : List Int) (e : Int) : Nat → Int → Int → Option (List Hd × Int × Int)
  | 0, _, _ => none
  | n + 1, k, a => if szAt l a k e < 0 then none else if szAt l a k e = 0 then some ([], k, a) else if k = 0 ∧ 40 < a then none
    else if k = 44 ∧ plAt l a ≠ 0 then some ([(k, cutL l (some (a + 1)) (some (a + szAt l a k e)))], at0 l a, a + szAt l a k e)
    else (scan l e n (at0 l a) (a + szAt l a k e)).map fun r => ((k, cutL l (some (a + 1)) (some (a + szAt l a k e))) :: r.1, r.2)
noncomputable def frag (hs : List Hd) : Int := hs.foldl (fun w h => if h.1 = 44 then num (cutL h.2 (some 1) (some 3)) else w) 0
theorem frag_snoc (hs : List Hd) (h : Hd) : frag (hs ++ [h]) = if h.1 = 44 then num (cutL h.2 (some 1) (some 3)) else frag hs := by unfold frag; rw [List.foldl_append]; rfl
noncomputable abbrev pre (hs : List Hd) (r : List Hd × Int × Int) : List Hd × Int × Int := (hs ++ r.1, r.2)
noncomputable def look6P (l : List Int) : Option (Int × Int × Int × Bool) :=
  if (l.length : Int) < 40 then none else if at0 l 0 / 16 ≠ 6 then none else
  (scan l l.length 1000 (at0 l 6) 40).map fun r => (r.2.1, r.2.2, frag r.1 / 8 * 8, decide (frag r.1 % 2 = 1))
theorem szAt_cases {l : List Int} {a k e : Int} (h0 : 0 ≤ k) (ho : Octs l) : szAt l a k e < 0 ∨ (szAt l a k e = 0 ∧ hsz k 0 = 0) ∨ (4 ≤ szAt l a k e ∧ a + 2 ≤ e ∧ a + szAt l a k e ≤ e ∧ (k = 44 → szAt l a k e = 8) ∧ szAt l a k e = hsz k (at0 l (a + 1))) := by
  have r := at0_range ho (a + 1)
  unfold szAt
  by_cases h1 : hsz k 0 = 0
  · rw [if_pos h1]; exact .inr (.inl ⟨rfl, h1⟩)
  rw [if_neg h1]
  by_cases h2 : e < a + 2
  · rw [if_pos h2]; exact .inl (by decide)
  rw [if_neg h2]
  by_cases h3 : e < a + hsz k (at0 l (a + 1))
  · rw [if_pos h3]; exact .inl (by decide)
  rw [if_neg h3]
  refine .inr (.inr ⟨?_, by lia, by lia, ?_, rfl⟩)
  · generalize at0 l (a + 1) = s at r
    unfold hsz at h1 ⊢
    repeat' split at h1
    all_goals repeat' split
    all_goals lia
  · intro h; subst h; rfl
theorem scan_step {l : List Int} {e k a : Int} {n : Nat} : scan l e (n + 1) k a = if szAt l a k e < 0 then none else if szAt l a k e = 0 then some ([], k, a) else if k = 0 ∧ 40 < a then none
    else if k = 44 ∧ plAt l a ≠ 0 then some ([(k, cutL l (some (a + 1)) (some (a + szAt l a k e)))], at0 l a, a + szAt l a k e)
    else (scan l e n (at0 l a) (a + szAt l a k e)).map fun r => ((k, cutL l (some (a + 1)) (some (a + szAt l a k e))) :: r.1, r.2) := rfl
theorem pre_cons (x : Option (List Hd × Int × Int)) (hs : List Hd) (h : Hd) : (x.map fun r => (h :: r.1, r.2)).map (pre hs) = x.map (pre (hs ++ [h])) := by
  cases x with
  | none => rfl
  | some r => simp [pre]
end
section
open PySem PySem.W PySem.Calls PyProof.Rows
theorem frag44 {l : List Int} {a : Int} (hs : List Hd) (h0 : 0 ≤ a) (h : a + 8 ≤ l.length) : frag (hs ++ [(44, cutL l (some (a + 1)) (some (a + 8)))]) = sub l (a + 2) (a + 4) := by
  rw [frag_snoc, if_pos rfl]
  show num (cutL (cutL l (some (a + 1)) (some (a + 8))) (some 1) (some 3)) = _
  rw [cut_cut (by lia) h (by decide) (by decide) (by lia), Int.add_assoc, Int.add_assoc]; rfl
theorem fragN {k : Int} {b : List Int} (hs : List Hd) (h : k ≠ 44) : frag (hs ++ [(k, b)]) = frag hs := by rw [frag_snoc, if_neg h]
theorem plAt_frag {l : List Int} {a : Int} (hs : List Hd) (h0 : 0 ≤ a) (h : a + 8 ≤ l.length) : plAt l a = frag (hs ++ [(44, cutL l (some (a + 1)) (some (a + 8)))]) / 8 * 8 := by rw [frag44 hs h0 h]; rfl
theorem more_frag {l : List Int} {a : Int} (hs : List Hd) (h0 : 0 ≤ a) (h : a + 8 ≤ l.length) : (at0 l (a + 3) % 2 == 1) = decide (frag (hs ++ [(44, cutL l (some (a + 1)) (some (a + 8)))]) % 2 = 1) := by
  rw [frag44 hs h0 h, show a + 4 = a + 2 + 2 by lia, sub_two (by lia) (by lia), show a + 2 + 1 = a + 3 by lia]
  have : (at0 l (a + 2) * 256 + at0 l (a + 3)) % 2 = at0 l (a + 3) % 2 := by lia
  rw [this]; rfl
structure Turn (l : List Int) (e k a : Int) : Prop where
  k0 : 0 ≤ k
  a0 : 40 ≤ a
  h2 : a + 2 ≤ e
  hz : a + szAt l a k e ≤ e
  h4 : 4 ≤ szAt l a k e
  h44 : k = 44 → szAt l a k e = 8
  szE : szAt l a k e = hsz k (at0 l (a + 1))
theorem Turn.of {l : List Int} {e k a : Int} (ho : Octs l) (k0 : 0 ≤ k) (a0 : 40 ≤ a) (h1 : ¬ szAt l a k e < 0) (h2 : szAt l a k e ≠ 0) : Turn l e k a := by
  rcases szAt_cases (l := l) (a := a) (e := e) k0 ho with h | h | ⟨x1, x2, x3, x4, x5⟩
  · exact absurd h h1
  · exact absurd h.1 h2
  · exact ⟨k0, a0, x2, x3, x1, x4, x5⟩
theorem scan_on {l : List Int} {e k a : Int} {n : Nat} {hs : List Hd} {s0 : Option (List Hd × Int × Int)} (T : Turn l e k a) (hk : ¬ (k = 0 ∧ 40 < a)) (h : s0 = (scan l e (n + 1) k a).map (pre hs)) :
    (k = 44 ∧ plAt l a ≠ 0 → s0 = some (hs ++ [(k, cutL l (some (a + 1)) (some (a + szAt l a k e)))], at0 l a, a + szAt l a k e)) ∧
    (¬ (k = 44 ∧ plAt l a ≠ 0) → s0 = (scan l e n (at0 l a) (a + szAt l a k e)).map (pre (hs ++ [(k, cutL l (some (a + 1)) (some (a + szAt l a k e)))]))) := by
  have h4 := T.h4
  rw [scan_step, if_neg (by lia), if_neg (by lia), if_neg hk] at h
  refine ⟨fun q => ?_, fun q => ?_⟩
  · rw [if_pos q] at h; exact h
  · rw [if_neg q, pre_cons] at h; exact h
theorem scan_none {l : List Int} {e k a : Int} {n : Nat} {hs : List Hd} {s0 : Option (List Hd × Int × Int)} (ho : Octs l) (hk : szAt l a k e < 0 ∨ (k = 0 ∧ 40 < a)) (h : s0 = (scan l e (n + 1) k a).map (pre hs)) : s0 = none := by
  rw [h, scan_step]
  by_cases z : szAt l a k e < 0
  · rw [if_pos z]; rfl
  have q := hk.resolve_left z
  have y : szAt l a k e ≠ 0 := fun y => by
    rcases szAt_cases (l := l) (a := a) (e := e) (k := k) (Int.le_of_eq q.1.symm) ho with x | x | x
    · exact z x
    · rw [q.1] at x; exact absurd x.2 (by decide)
    · rw [y] at x; exact absurd x.1 (by decide)
  rw [if_neg z, if_neg y, if_pos q]; rfl
theorem scan_end {l : List Int} {e k a : Int} {n : Nat} {hs : List Hd} {s0 : Option (List Hd × Int × Int)} (hz : szAt l a k e = 0) (h : s0 = (scan l e (n + 1) k a).map (pre hs)) : s0 = some (hs, k, a) := by
  rw [h, scan_step, if_neg (by lia), if_pos hz]
  show some (hs ++ [], k, a) = _
  rw [List.append_nil]
end
section
open PySem PySem.W PySem.Calls PyProof.Rows
noncomputable abbrev top (l : List Int) (h : Int) : List Int := cutL l none (some h)
theorem top_nn (l : List Int) {h : Int} (h0 : 0 ≤ h) : top l h = l.take h.toNat := by
  obtain ⟨x, rfl⟩ := Int.eq_ofNat_of_zero_le h0
  unfold top cutL
  dsimp only [Option.elim]
  rw [clipAt_nat, List.drop_zero, Nat.sub_zero, Int.toNat_natCast]
  rcases Nat.le_total x l.length with h | h
  · rw [Nat.min_eq_left h]
  · rw [Nat.min_eq_right h, List.take_length, List.take_of_length_le h]
noncomputable def msg1 : Str := "truncated head"
noncomputable def msg2 : Str := "bad version"
noncomputable def msg3 : Str := "bad head length"
noncomputable def msg4 : Str := "bad total length"
noncomputable def msg5 : Str := "bad head sum"
noncomputable def head4 (l : List Int) : Str ⊕ (Int × Int) :=
  if (l.length : Int) < 20 then .inl msg1 else if at0 l 0 / 16 ≠ 4 then .inl msg2
  else if at0 l 0 % 16 * 4 < 20 then .inl msg3 else if (l.length : Int) < at0 l 0 % 16 * 4 then .inl msg3
  else if sub l 2 4 < at0 l 0 % 16 * 4 then .inl msg4 else if (l.length : Int) < sub l 2 4 then .inl msg4
  else if fold (words (top l (at0 l 0 % 16 * 4))) ≠ 65535 then .inl msg5 else .inr (at0 l 0 % 16 * 4, sub l 2 4)
structure Ok4 (s t p ttl ident flags place dscp ecn : Int) (d opt : List Int) : Prop where
  c1 : ¬ 40 < (opt.length : Int)
  c2 : ¬ 65535 < 20 + (opt.length : Int) + d.length
  c3 : ¬ 63 < dscp
  c4 : ¬ 3 < ecn
  c5 : ¬ 7 < flags
  c6 : ¬ 65528 < place
  c7 : place % 8 = 0
  c8 : -(opt.length : Int) % 4 = 0
  c9 : opt.length ≤ 1000
  c10 : d.length ≤ 1000
  c11 : opt.length ≤ 40
  s0 : 0 ≤ s
  s1 : s < 256 ^ 4
  t0 : 0 ≤ t
  t1 : t < 256 ^ 4
  p0 : 0 ≤ p
  p1 : p < 256 ^ 1
  l0 : 0 ≤ ttl
  l1 : ttl < 256 ^ 1
  i0 : 0 ≤ ident
  i1 : ident < 256 ^ 2
  f0 : 0 ≤ flags
  g0 : 0 ≤ flags * 8192 + place / 8
  g1 : flags * 8192 + place / 8 < 256 ^ 2
  h1 : place / 8 < 2 ^ 13
  h0 : 0 ≤ place / 8
  e0 : 0 ≤ ecn
  e1 : ecn < 2 ^ 2
  d0 : 0 ≤ dscp
  b0 : 0 ≤ dscp * 4 + ecn
  b1 : dscp * 4 + ecn < 256 ^ 1
  a0 : 0 ≤ 69 + (opt.length : Int) / 4
  a1 : 69 + (opt.length : Int) / 4 < 256 ^ 1
  n0 : 0 ≤ 20 + (opt.length : Int) + d.length
  n1 : 20 + (opt.length : Int) + d.length < 256 ^ 2
  od : Octs d
  oo : Octs opt
noncomputable abbrev w4f (p ttl ident flags place dscp ecn : Int) (d opt : List Int) : List Int :=
  dig (69 + (opt.length : Int) / 4) 1 ++ dig (dscp * 4 + ecn) 1 ++ dig (20 + (opt.length : Int) + d.length) 2 ++ (dig ident 2 ++ dig (flags * 8192 + place / 8) 2) ++ (dig ttl 1 ++ dig p 1)
noncomputable abbrev w4b (s t : Int) (opt : List Int) : List Int := dig s 4 ++ dig t 4 ++ opt
noncomputable def w4 (s t p ttl ident flags place dscp ecn : Int) (d opt : List Int) : List Int :=
  w4f p ttl ident flags place dscp ecn d opt ++ dig (65535 - fold (words (w4f p ttl ident flags place dscp ecn d opt ++ w4b s t opt))) 2 ++ w4b s t opt ++ d
theorem fold_range {t : Int} (h : 0 ≤ t) : 0 ≤ fold t ∧ fold t ≤ 65535 := by unfold fold; split <;> lia
section
variable {s t p ttl ident flags place dscp ecn : Int} {d opt : List Int}
theorem w4f_len : (w4f p ttl ident flags place dscp ecn d opt).length = 10 := rfl
theorem w4f_octs : Octs (w4f p ttl ident flags place dscp ecn d opt) := (((dig_octs _ _).append (dig_octs _ _)).append (dig_octs _ _)).append ((dig_octs _ _).append (dig_octs _ _)) |>.append ((dig_octs _ _).append (dig_octs _ _))
theorem w4b_len (h : opt.length ≤ 40) : (w4b s t opt).length ≤ 48 := by rw [List.length_append]; exact Nat.add_le_add_left h 8
theorem w4b_octs (h : Octs opt) : Octs (w4b s t opt) := ((dig_octs _ _).append (dig_octs _ _)).append h
end
end
section
open PySem PySem.W PySem.Calls PyProof.Rows
noncomputable def msg6 : Str := "truncated extension head"
noncomputable def msg7 : Str := "hop-by-hop not first"
noncomputable def msg8 : Str := "bad payload length"
noncomputable abbrev hdV (h : Hd) : PV := .tuple [.int h.1, .bytes h.2]
noncomputable abbrev hdsV (hs : List Hd) : List PV := hs.map hdV
theorem hdsV_snoc (hs : List Hd) (h : Hd) : hdsV hs ++ [hdV h] = hdsV (hs ++ [h]) := by simp [hdsV]
noncomputable def nxt (P : Int) : List Hd → Int
  | [] => P
  | h :: _ => h.1
noncomputable def wh (P : Int) : List Hd → List Int
  | [] => []
  | h :: r => dig (nxt P r) 1 ++ h.2 ++ wh P r
structure HdOk (h : Hd) : Prop where
  k0 : 0 ≤ h.1
  k1 : h.1 < 256 ^ 1
  ne : (h.2.length : Int) ≠ 0
  le : h.2.length ≤ 1000
  pos : (0 : Int) < h.2.length
  sz : hsz h.1 (at0 h.2 0) = (h.2.length : Int) + 1
structure Ok6 (P hop dscp ecn flow s t : Int) (d : List Int) (hs : List Hd) : Prop where
  c1 : ¬ 63 < dscp
  c2 : ¬ 3 < ecn
  c3 : ¬ 1048575 < flow
  c4 : ¬ 65535 < ((wh P hs ++ d).length : Int)
  c5 : (wh P hs).length ≤ 1000
  c6 : (wh P hs ++ d).length ≤ 1000
  c7 : hs.length ≤ 1000
  d0 : 0 ≤ dscp
  e0 : 0 ≤ ecn
  f0 : 0 ≤ flow
  p0 : 0 ≤ P
  p1 : P < 256 ^ 1
  h0 : 0 ≤ hop
  h1 : hop < 256 ^ 1
  s0 : 0 ≤ s
  s1 : s < 256 ^ 16
  t0 : 0 ≤ t
  t1 : t < 256 ^ 16
  n0 : (0 : Int) ≤ (wh P hs ++ d).length
  n1 : ((wh P hs ++ d).length : Int) < 256 ^ 2
  heads : ∀ h ∈ hs, HdOk h
theorem nxt_ok {P : Int} {hs : List Hd} (h0 : 0 ≤ P) (h1 : P < 256 ^ 1) (h : ∀ x ∈ hs, HdOk x) : 0 ≤ nxt P hs ∧ nxt P hs < 256 ^ 1 := by
  cases hs with
  | nil => exact ⟨h0, h1⟩
  | cons x r => exact ⟨(h x (.head _)).k0, (h x (.head _)).k1⟩
theorem orw {a b f : Int} (a0 : 0 ≤ a) (a1 : ¬ 63 < a) (b0 : 0 ≤ b) (b1 : ¬ 3 < b) (f0 : 0 ≤ f) (f1 : ¬ 1048575 < f) :
    Builtin.bitOr (Builtin.bitOr (Builtin.bitOr (6 * 268435456) (a * 4194304)) (b * 1048576)) f = 6 * 268435456 + a * 4194304 + b * 1048576 + f := by
  have x1 := or_low 28 6 (a * 4194304) (by lia) (by lia)
  have x2 := or_low 22 (6 * 64 + a) (b * 1048576) (by lia) (by lia)
  have x3 := or_low 20 ((6 * 64 + a) * 4 + b) f f0 (by lia)
  rw [show (6 : Int) * 268435456 = 6 * 2 ^ 28 by decide, x1, show (6 : Int) * 2 ^ 28 + a * 4194304 = (6 * 64 + a) * 2 ^ 22 by lia, x2, show (6 * 64 + a) * 2 ^ 22 + b * 1048576 = ((6 * 64 + a) * 4 + b) * 2 ^ 20 by lia, x3]
  try lia
theorem wh_at {P : Int} {hs : List Hd} {i : Nat} {h : Hd} (hi : hs[i]? = some h) : wh P (hs.drop i) = dig (nxt P (hs.drop (i + 1))) 1 ++ h.2 ++ wh P (hs.drop (i + 1)) := by
  obtain ⟨hl, e⟩ := List.getElem?_eq_some_iff.mp hi
  rw [List.drop_eq_getElem_cons hl, e]; rfl
theorem nxt_at {P : Int} {hs : List Hd} {i : Nat} {h : Hd} (hi : hs[i]? = some h) : nxt P (hs.drop i) = h.1 := by
  obtain ⟨hl, e⟩ := List.getElem?_eq_some_iff.mp hi
  rw [List.drop_eq_getElem_cons hl, e]; rfl
theorem nxt_end {P : Int} {hs : List Hd} {i : Nat} (h : hs.length ≤ i) : nxt P (hs.drop i) = P := by rw [List.drop_eq_nil_of_le h]; rfl
noncomputable abbrev wd6 (dscp ecn flow : Int) : Int := 6 * 268435456 + dscp * 4194304 + ecn * 1048576 + flow
noncomputable def w6 (P hop dscp ecn flow s t : Int) (d : List Int) (hs : List Hd) : List Int :=
  dig (wd6 dscp ecn flow) 4 ++ dig ((wh P hs ++ d).length : Int) 2 ++ (dig (nxt P hs) 1 ++ dig hop 1) ++ dig s 16 ++ dig t 16 ++ (wh P hs ++ d)
end
section
open PySem PySem.W PySem.Calls PyProof.Rows
section
variable {l : List Int} {cut : Int}
theorem top_len (h0 : 0 ≤ cut) (h1 : cut ≤ l.length) : ((top l cut).length : Int) = cut := by rw [top_nn _ h0, List.length_take]; lia
theorem at0_top (h1 : cut ≤ l.length) {i : Int} (hi : 0 ≤ i) (h : i < cut) : at0 (top l cut) i = at0 l i := by
  rw [top_nn _ (by lia)]
  unfold at0
  rw [List.getD_eq_getElem?_getD, List.getD_eq_getElem?_getD, List.getElem?_take, if_pos (by lia)]
theorem cut_top (h1 : cut ≤ l.length) {a b : Int} (ha : 0 ≤ a) (hab : a ≤ b) (hb : b ≤ cut) : cutL (top l cut) (some a) (some b) = cutL l (some a) (some b) := by
  obtain ⟨a, rfl⟩ := Int.eq_ofNat_of_zero_le ha
  obtain ⟨b, rfl⟩ := Int.eq_ofNat_of_zero_le (Int.le_trans ha hab)
  obtain ⟨n, rfl⟩ := Int.eq_ofNat_of_zero_le (Int.le_trans (Int.natCast_nonneg b) hb)
  have a1 := Int.ofNat_le.mp hab
  have a2 := Int.ofNat_le.mp hb
  have a3 := Int.ofNat_le.mp h1
  rw [top_nn _ (Int.natCast_nonneg _), Int.toNat_natCast, cutL_nat _ a1 (by rw [List.length_take]; exact Nat.le_min.mpr ⟨a2, Nat.le_trans a2 a3⟩), cutL_nat _ a1 (Nat.le_trans a2 a3), List.drop_take, List.take_take, Nat.min_eq_left (Nat.sub_le_sub_right a2 a)]
theorem sub_top (h1 : cut ≤ l.length) {a b : Int} (ha : 0 ≤ a) (hab : a ≤ b) (hb : b ≤ cut) : sub (top l cut) a b = sub l a b := by unfold sub; rw [cut_top h1 ha hab hb]
theorem top_top {h : Int} (h0 : 0 ≤ h) (h1 : h ≤ cut) : top (top l cut) h = top l h := by
  obtain ⟨a, rfl⟩ := Int.eq_ofNat_of_zero_le h0
  obtain ⟨n, rfl⟩ := Int.eq_ofNat_of_zero_le (Int.le_trans h0 h1)
  rw [top_nn _ h0, top_nn _ (Int.natCast_nonneg _), top_nn _ h0, List.take_take, Int.toNat_natCast, Int.toNat_natCast, Nat.min_eq_left (Int.ofNat_le.mp h1)]
end
theorem look4_none1 {l : List Int} (h : (l.length : Int) < 20) : look4P l = none := if_pos h
theorem look4_some {l : List Int} (h1 : ¬ (l.length : Int) < 20) (h2 : at0 l 0 / 16 = 4) (h3 : ¬ at0 l 0 % 16 * 4 < 20) (h4 : ¬ (l.length : Int) < at0 l 0 % 16 * 4) :
    look4P l = some (at0 l 9, at0 l 0 % 16 * 4, sub l 6 8 % 8192 * 8, decide (sub l 6 8 / 8192 % 2 = 1)) := by
  unfold look4P
  rw [if_neg h1, if_neg (fun z => z h2), if_neg h3, if_neg h4]
theorem look4_cases (l : List Int) : look4P l = none ∨ (¬ (l.length : Int) < 20 ∧ at0 l 0 / 16 = 4 ∧ ¬ at0 l 0 % 16 * 4 < 20 ∧ ¬ (l.length : Int) < at0 l 0 % 16 * 4) := by
  by_cases h1 : (l.length : Int) < 20
  · exact .inl (if_pos h1)
  by_cases h2 : at0 l 0 / 16 = 4
  · by_cases h3 : at0 l 0 % 16 * 4 < 20
    · left; unfold look4P; rw [if_neg h1, if_neg (fun z => z h2), if_pos h3]
    · by_cases h4 : (l.length : Int) < at0 l 0 % 16 * 4
      · left; unfold look4P; rw [if_neg h1, if_neg (fun z => z h2), if_neg h3, if_pos h4]
      · exact .inr ⟨h1, h2, h3, h4⟩
  · left; unfold look4P; rw [if_neg h1, if_pos h2]
theorem look4_le {l : List Int} : ∀ x, look4P l = some x → x.2.1 ≤ l.length := by
  intro x hx
  rcases look4_cases l with h | ⟨h1, h2, h3, h4⟩
  · rw [h] at hx; cases hx
  · rw [look4_some h1 h2 h3 h4] at hx
    cases hx
    exact Int.not_lt.mp h4
noncomputable def stdy (b : Option (Int × Int × Int × Bool)) (cut : Int) : Option (Int × Int × Int × Bool) := match b with
  | none => none
  | some w => if cut < w.2.1 then none else some w
theorem stdy4 {l : List Int} {cut : Int} (h0 : 0 ≤ cut) (hc : cut ≤ l.length) : look4P (top l cut) = stdy (look4P l) cut := by
  have e := top_len (l := l) h0 hc
  by_cases c20 : cut < 20
  · rw [look4_none1 (by rw [e]; exact c20)]
    rcases look4_cases l with h | ⟨h1, h2, h3, h4⟩
    · rw [h]; rfl
    · rw [look4_some h1 h2 h3 h4]
      exact (if_pos (show cut < at0 l 0 % 16 * 4 by lia)).symm
  have e0 := at0_top (l := l) hc (i := 0) (by decide) (by lia)
  have e9 := at0_top (l := l) hc (i := 9) (by decide) (by lia)
  have e6 := sub_top (l := l) hc (a := 6) (b := 8) (by decide) (by decide) (by lia)
  rcases look4_cases l with h | ⟨h1, h2, h3, h4⟩
  · rw [h]
    rcases look4_cases (top l cut) with k | ⟨k1, k2, k3, k4⟩
    · exact k
    · exfalso
      rw [e0] at k2 k3 k4
      rw [e] at k4
      rw [look4_some (by lia) k2 k3 (by lia)] at h
      cases h
  · rw [look4_some h1 h2 h3 h4]
    by_cases hh : cut < at0 l 0 % 16 * 4
    · rw [show stdy (some (at0 l 9, at0 l 0 % 16 * 4, sub l 6 8 % 8192 * 8, decide (sub l 6 8 / 8192 % 2 = 1))) cut = none from if_pos hh]
      rcases look4_cases (top l cut) with k | ⟨k1, k2, k3, k4⟩
      · exact k
      · rw [e0, e] at k4; exact absurd hh k4
    · rw [show stdy (some (at0 l 9, at0 l 0 % 16 * 4, sub l 6 8 % 8192 * 8, decide (sub l 6 8 / 8192 % 2 = 1))) cut = _ from if_neg hh, look4_some (by rw [e]; exact c20) (by rw [e0]; exact h2) (by rw [e0]; exact h3) (by rw [e0, e]; exact hh), e0, e9, e6]
section
variable {l : List Int}
theorem cut_app {a b d : Int} (h0 : 0 ≤ a) (h1 : a ≤ b) (h2 : b ≤ d) (h3 : d ≤ l.length) : cutL l (some a) (some b) ++ cutL l (some b) (some d) = cutL l (some a) (some d) := by
  obtain ⟨a, rfl⟩ := Int.eq_ofNat_of_zero_le h0
  obtain ⟨b, rfl⟩ := Int.eq_ofNat_of_zero_le (Int.le_trans h0 h1)
  obtain ⟨d, rfl⟩ := Int.eq_ofNat_of_zero_le (Int.le_trans (Int.natCast_nonneg b) h2)
  have a1 := Int.ofNat_le.mp h1
  have a2 := Int.ofNat_le.mp h2
  have a3 := Int.ofNat_le.mp h3
  rw [cutL_nat l a1 (Nat.le_trans a2 a3), cutL_nat l a2 a3, cutL_nat l (Nat.le_trans a1 a2) a3]
  obtain ⟨x, rfl⟩ := Nat.exists_eq_add_of_le a1
  obtain ⟨y, rfl⟩ := Nat.exists_eq_add_of_le a2
  rw [Nat.add_sub_cancel_left, Nat.add_sub_cancel_left, Nat.add_assoc, Nat.add_sub_cancel_left, ← List.drop_drop, ← List.take_add]
theorem top_cut {b : Int} (h0 : 0 ≤ b) (h1 : b ≤ l.length) : top l b = cutL l (some 0) (some b) := by rw [top_nn l h0, cutL_nn l (by decide) h0 h1]; rfl
theorem dig_sub (ho : Octs l) {a b : Int} {k : Nat} (h0 : 0 ≤ a) (h : b = a + k) (h1 : b ≤ l.length) : dig (sub l a b) k = cutL l (some a) (some b) := by
  have e := cutL_len' (l := l) h0 (show a ≤ b by lia) h1
  have := dig_num (ho.cut (some a) (some b))
  rw [show (cutL l (some a) (some b)).length = k by lia] at this
  exact this
theorem sub_one {a b : Int} (h0 : 0 ≤ a) (hb : b = a + 1) (h : b ≤ l.length) : sub l a b = at0 l a := by
  subst hb
  unfold sub
  rw [cutL_nn l h0 (by lia) h, take_one h0 (by lia), show (a + 1).toNat - a.toNat = 1 by lia]
  show 0 * 256 + at0 l a = at0 l a
  lia
theorem dig_at (ho : Octs l) {a b : Int} (h0 : 0 ≤ a) (hb : b = a + 1) (h : b ≤ l.length) : dig (at0 l a) 1 = cutL l (some a) (some b) := by
  rw [← sub_one h0 hb h]; exact dig_sub ho h0 hb h
end
end
section
open PySem PySem.W PySem.Calls PyProof.Rows
structure Good4 (l : List Int) (h t : Int) : Prop where
  hE : h = at0 l 0 % 16 * 4
  tE : t = sub l 2 4
  v : at0 l 0 / 16 = 4
  h20 : 20 ≤ h
  ht : h ≤ t
  tl : t ≤ l.length
  sum : fold (words (top l h)) = 65535
theorem Good4.of {l : List Int} {r : Int × Int} (e : head4 l = .inr r) : Good4 l r.1 r.2 := by
  unfold head4 at e
  by_cases h1 : (l.length : Int) < 20
  · rw [if_pos h1] at e; cases e
  rw [if_neg h1] at e
  by_cases h2 : at0 l 0 / 16 = 4
  · rw [if_neg (fun z => z h2)] at e
    by_cases h3 : at0 l 0 % 16 * 4 < 20
    · rw [if_pos h3] at e; cases e
    rw [if_neg h3] at e
    by_cases h4 : (l.length : Int) < at0 l 0 % 16 * 4
    · rw [if_pos h4] at e; cases e
    rw [if_neg h4] at e
    by_cases h5 : sub l 2 4 < at0 l 0 % 16 * 4
    · rw [if_pos h5] at e; cases e
    rw [if_neg h5] at e
    by_cases h6 : (l.length : Int) < sub l 2 4
    · rw [if_pos h6] at e; cases e
    rw [if_neg h6] at e
    by_cases h7 : fold (words (top l (at0 l 0 % 16 * 4))) = 65535
    · rw [if_neg (fun z => z h7)] at e
      cases e
      exact ⟨rfl, rfl, h2, Int.not_lt.mp h3, Int.not_lt.mp h5, Int.not_lt.mp h6, h7⟩
    · rw [if_pos h7] at e; cases e
  · rw [if_pos h2] at e; cases e
section
variable {l : List Int} {h t : Int}
theorem Good4.b0 (ho : Octs l) (g : Good4 l h t) : 69 + ((cutL l (some 20) (some h)).length : Int) / 4 = at0 l 0 := by
  rw [cutL_len' (by decide) g.h20 (Int.le_trans g.ht g.tl)]
  have := g.hE
  have := g.v
  have := g.h20
  lia
theorem Good4.len (g : Good4 l h t) : 20 + ((cutL l (some 20) (some h)).length : Int) + ((cutL l (some h) (some t)).length : Int) = sub l 2 4 := by
  rw [cutL_len' (by decide) g.h20 (Int.le_trans g.ht g.tl), cutL_len' (Int.le_trans (by decide) g.h20) g.ht g.tl, ← g.tE]
  lia
theorem Good4.l20 (g : Good4 l h t) : 20 ≤ (l.length : Int) := Int.le_trans g.h20 (Int.le_trans g.ht g.tl)
theorem Good4.first (ho : Octs l) (g : Good4 l h t) :
    w4f (at0 l 9) (at0 l 8) (sub l 4 6) (sub l 6 8 / 8192) (sub l 6 8 % 8192 * 8) (at0 l 1 / 4) (at0 l 1 % 4) (cutL l (some h) (some t)) (cutL l (some 20) (some h)) = cutL l (some 0) (some 10) := by
  have hl := g.l20
  unfold w4f
  rw [g.b0 ho, g.len, show at0 l 1 / 4 * 4 + at0 l 1 % 4 = at0 l 1 by lia, show sub l 6 8 / 8192 * 8192 + sub l 6 8 % 8192 * 8 / 8 = sub l 6 8 by lia,
    dig_at ho (b := 1) (Int.le_refl 0) rfl (by lia), dig_at ho (b := 2) (by decide) rfl (by lia), dig_sub ho (a := 2) (b := 4) (k := 2) (by decide) (by decide) (by lia), dig_sub ho (a := 4) (b := 6) (k := 2) (by decide) (by decide) (by lia), dig_sub ho (a := 6) (b := 8) (k := 2) (by decide) (by decide) (by lia),
    dig_at ho (a := 8) (b := 9) (by decide) rfl (by lia), dig_at ho (a := 9) (b := 10) (by decide) rfl (by lia),
    cut_app (by decide) (by decide) (by decide) (by lia), cut_app (by decide) (by decide) (by decide) (by lia), cut_app (by decide) (by decide) (by decide) (by lia), cut_app (by decide) (by decide) (by decide) (by lia), cut_app (by decide) (by decide) (by decide) (by lia), cut_app (by decide) (by decide) (by decide) (by lia)]
theorem Good4.behind (ho : Octs l) (g : Good4 l h t) : w4b (sub l 12 16) (sub l 16 20) (cutL l (some 20) (some h)) = cutL l (some 12) (some h) := by
  have hl := g.l20
  unfold w4b
  rw [dig_sub ho (a := 12) (b := 16) (k := 4) (by decide) (by decide) (by lia), dig_sub ho (a := 16) (b := 20) (k := 4) (by decide) (by decide) (by lia), cut_app (by decide) (by decide) (by decide) (by lia), cut_app (by decide) (by decide) g.h20 (Int.le_trans g.ht g.tl)]
noncomputable def chk4 (l : List Int) : List Int := if cutL l (some 10) (some 12) = [255, 255] then [0, 0] else cutL l (some 10) (some 12)
theorem two_even (a b : Int) : [a, b].length % 2 = 0 := by simp
theorem words_two (a b : Int) : words [a, b] = a * 256 + b := by show a * 256 + b + 0 = _; lia
theorem cut_two {a : Int} (h0 : 0 ≤ a) (hl : a + 2 ≤ l.length) : cutL l (some a) (some (a + 2)) = [at0 l a, at0 l (a + 1)] := by
  rw [cutL_nn l h0 (by lia) hl, take_one h0 (by lia), show a.toNat + 1 = (a + 1).toNat by lia, take_one (l := l) (a := a + 1) (by lia) (by lia), show (a + 2).toNat - a.toNat = 2 by lia]
  rfl
theorem even_cut {a b : Int} (h0 : 0 ≤ a) (h1 : a ≤ b) (h2 : b ≤ l.length) (h : (b - a) % 2 = 0) : (cutL l (some a) (some b)).length % 2 = 0 := by
  have := cutL_len' h0 h1 h2
  lia
theorem Good4.words (ho : Octs l) (g : Good4 l h t) : words (top l h) = words (cutL l (some 0) (some 10) ++ cutL l (some 12) (some h)) + (at0 l 10 * 256 + at0 l 11) ∧ 0 < words (cutL l (some 0) (some 10) ++ cutL l (some 12) (some h)) := by
  have hl := g.l20
  have h20 := g.h20
  have hh := Int.le_trans g.ht g.tl
  have e1 := even_cut (l := l) (a := 0) (b := 10) (by decide) (by decide) (by lia) (by decide)
  have e2 : cutL l (some 10) (some 12) = [at0 l 10, at0 l 11] := cut_two (a := 10) (by decide) (by lia)
  have e3 : cutL l (some 0) (some 2) = [at0 l 0, at0 l 1] := cut_two (a := 0) (by decide) (by lia)
  refine ⟨?_, ?_⟩
  · rw [top_cut (by lia) hh, ← cut_app (a := 0) (b := 10) (d := h) (by decide) (by decide) (by lia) hh, ← cut_app (a := 10) (b := 12) (d := h) (by decide) (by decide) (by lia) hh, e2,
      words_even _ _ e1, words_even _ _ (two_even _ _), words_two, words_even _ _ e1]
    lia
  · rw [words_even _ _ e1, ← cut_app (a := 0) (b := 2) (d := 10) (by decide) (by decide) (by decide) (by lia), e3, words_even _ _ (two_even _ _), words_two]
    have r1 := (words_range (ho.cut (some 2) (some 10))).1
    have r2 := (words_range (ho.cut (some 12) (some h))).1
    have r3 := at0_range ho 1
    have := g.v
    lia
theorem dig_two {a b : Int} (ha : 0 ≤ a ∧ a < 256) (hb : 0 ≤ b ∧ b < 256) : dig (a * 256 + b) 2 = [a, b] := by
  show [(a * 256 + b) / 256 ^ 1 % 256, (a * 256 + b) / 256 ^ 0 % 256] = [a, b]
  rw [show (256 : Int) ^ 1 = 256 by decide, show (256 : Int) ^ 0 = 1 by decide]
  congr 1
  · lia
  · congr 1; lia
theorem Good4.check (ho : Octs l) (g : Good4 l h t) : dig (65535 - fold (Mine.words (cutL l (some 0) (some 10) ++ cutL l (some 12) (some h)))) 2 = chk4 l := by
  have hl := g.l20
  obtain ⟨w1, w2⟩ := g.words ho
  have s := g.sum
  rw [w1] at s
  have e2 : cutL l (some 10) (some 12) = [at0 l 10, at0 l 11] := cut_two (a := 10) (by decide) (by lia)
  have ra := at0_range ho 10
  have rb := at0_range ho 11
  unfold chk4
  rw [e2]
  generalize Mine.words (cutL l (some 0) (some 10) ++ cutL l (some 12) (some h)) = W at w2 s
  generalize at0 l 10 = a at ra s
  generalize at0 l 11 = b at rb s
  clear w1 e2 g hl
  unfold fold at s ⊢
  rw [if_neg (by lia)] at s
  rw [if_neg (by lia)]
  by_cases hab : a = 255 ∧ b = 255
  · rw [if_pos (by rw [hab.1, hab.2])]
    rw [show 65535 - ((W - 1) % 65535 + 1) = 0 * 256 + 0 by lia]
    exact dig_two (by decide) (by decide)
  · rw [if_neg (fun z => hab (by injection z with z1 z2; injection z2 with z2 _; exact ⟨z1, z2⟩))]
    rw [show 65535 - ((W - 1) % 65535 + 1) = a * 256 + b by lia]
    exact dig_two ra rb
theorem Good4.written (ho : Octs l) (g : Good4 l h t) :
    w4 (sub l 12 16) (sub l 16 20) (at0 l 9) (at0 l 8) (sub l 4 6) (sub l 6 8 / 8192) (sub l 6 8 % 8192 * 8) (at0 l 1 / 4) (at0 l 1 % 4) (cutL l (some h) (some t)) (cutL l (some 20) (some h)) = top l 10 ++ chk4 l ++ cutL l (some 12) (some t) := by
  have hl := g.l20
  have h20 := g.h20
  unfold w4
  rw [g.first ho, g.behind ho, g.check ho, top_cut (by decide) (by lia), List.append_assoc _ (cutL l (some 12) (some h)), cut_app (by decide) (by lia) g.ht g.tl]
end
end
section
open PySem PySem.W PySem.Calls PyProof.Rows
theorem Good4.ok {l : List Int} {h t : Int} (ho : Octs l) (hl : l.length ≤ 1000) (g : Good4 l h t) :
    Ok4 (sub l 12 16) (sub l 16 20) (at0 l 9) (at0 l 8) (sub l 4 6) (sub l 6 8 / 8192) (sub l 6 8 % 8192 * 8) (at0 l 1 / 4) (at0 l 1 % 4) (cutL l (some h) (some t)) (cutL l (some 20) (some h)) := by
  have e1 := cutL_len' (l := l) (by decide) g.h20 (Int.le_trans g.ht g.tl)
  have e2 := cutL_len' (l := l) (Int.le_trans (by decide) g.h20) g.ht g.tl
  have hE := g.hE
  have h20 := g.h20
  have h60 : h ≤ 60 := by lia
  have h4 : h % 4 = 0 := by lia
  have ht := g.ht
  have tl := g.tl
  have s1 := sub_range ho 12 16 4 (by decide) (by decide)
  have s2 := sub_range ho 16 20 4 (by decide) (by decide)
  have s3 := sub_range ho 4 6 2 (by decide) (by decide)
  have s4 := sub_range ho 6 8 2 (by decide) (by decide)
  have s5 := sub_range ho 2 4 2 (by decide) (by decide)
  have r1 := at0_range ho 1
  have r8 := at0_range ho 8
  have r9 := at0_range ho 9
  have r0 := at0_range ho 0
  have gl := g.len
  have gb := g.b0 ho
  have o1 := ho.cut (some h) (some t)
  have o2 := ho.cut (some 20) (some h)
  clear g hE
  generalize cutL l (some h) (some t) = d at e2 gl o1
  generalize cutL l (some 20) (some h) = opt at e1 gl gb o2
  generalize sub l 12 16 = n1 at s1
  generalize sub l 16 20 = n2 at s2
  generalize sub l 4 6 = n3 at s3
  generalize sub l 6 8 = n4 at s4
  generalize sub l 2 4 = n5 at s5 gl
  generalize at0 l 1 = b1 at r1
  generalize at0 l 8 = b8 at r8
  generalize at0 l 9 = b9 at r9
  generalize at0 l 0 = b0 at r0 gb
  have p2 : (256 : Int) ^ 2 = 65536 := by decide
  have p1 : (256 : Int) ^ 1 = 256 := by decide
  rw [p2] at s3 s4 s5
  clear ho
  exact {
    c1 := by lia, c2 := by lia, c3 := by lia, c4 := by lia, c5 := by lia, c6 := by lia, c7 := by lia, c8 := by lia, c9 := by lia, c10 := by lia, c11 := by lia,
    s0 := s1.1, s1 := s1.2, t0 := s2.1, t1 := s2.2, p0 := r9.1, p1 := by rw [p1]; exact r9.2, l0 := r8.1, l1 := by rw [p1]; exact r8.2, i0 := s3.1, i1 := by rw [p2]; exact s3.2,
    f0 := by lia, g0 := by lia, g1 := by rw [p2]; lia, h1 := by rw [show (2 : Int) ^ 13 = 8192 by decide]; lia, h0 := by lia, e0 := by lia, e1 := by rw [show (2 : Int) ^ 2 = 4 by decide]; lia, d0 := by lia,
    b0 := by lia, b1 := by rw [p1]; lia, a0 := by lia, a1 := by rw [p1, gb]; exact r0.2, n0 := by lia, n1 := by rw [p2]; lia, od := o1, oo := o2 }
theorem head4_bad1 {l : List Int} (h : (l.length : Int) < 20) : head4 l = .inl msg1 := if_pos h
theorem head4_bad2 {l : List Int} (h1 : ¬ (l.length : Int) < 20) (h2 : at0 l 0 / 16 ≠ 4) : head4 l = .inl msg2 := by unfold head4; rw [if_neg h1, if_pos h2]
theorem head4_bad3 {l : List Int} (h1 : ¬ (l.length : Int) < 20) (h2 : at0 l 0 / 16 = 4) (h : look4P l = none) : head4 l = .inl msg3 := by
  rcases look4_cases l with _ | ⟨-, -, h3, h4⟩
  rotate_left
  · rw [look4_some h1 h2 h3 h4] at h; cases h
  by_cases h3 : at0 l 0 % 16 * 4 < 20
  · unfold head4; rw [if_neg h1, if_neg (fun z => z h2), if_pos h3]
  by_cases h4 : (l.length : Int) < at0 l 0 % 16 * 4
  · unfold head4; rw [if_neg h1, if_neg (fun z => z h2), if_neg h3, if_pos h4]
  · rw [look4_some h1 h2 h3 h4] at h; cases h
theorem head4_look {l : List Int} (h1 : ¬ (l.length : Int) < 20) (h2 : at0 l 0 / 16 = 4) (h3 : ¬ at0 l 0 % 16 * 4 < 20) (h4 : ¬ (l.length : Int) < at0 l 0 % 16 * 4) :
    head4 l = if sub l 2 4 < at0 l 0 % 16 * 4 then .inl msg4 else if (l.length : Int) < sub l 2 4 then .inl msg4 else if fold (words (top l (at0 l 0 % 16 * 4))) ≠ 65535 then .inl msg5 else .inr (at0 l 0 % 16 * 4, sub l 2 4) := by
  unfold head4; rw [if_neg h1, if_neg (fun z => z h2), if_neg h3, if_neg h4]
theorem fold_mod {W : Int} (h : 0 < W) : fold W = 65535 ↔ W % 65535 = 0 := by
  unfold fold; rw [if_neg (Int.ne_of_gt h)]
  have e := Int.mul_ediv_add_emod (W - 1) 65535
  have r0 := Int.emod_nonneg (W - 1) (show (65535 : Int) ≠ 0 by decide)
  have r1 := Int.emod_lt_of_pos (W - 1) (show (0 : Int) < 65535 by decide)
  generalize (W - 1) / 65535 = q at e
  generalize (W - 1) % 65535 = r at e r0 r1 ⊢
  obtain rfl : W = 65535 * q + r + 1 := by lia
  clear e h
  rw [Int.add_assoc, Int.mul_add_emod_self_left]
  constructor
  · intro z; rw [z]; rfl
  · intro z
    by_cases y : r + 1 = 65535
    · exact y
    · rw [Int.emod_eq_of_lt (Int.le_add_one r0) (Int.lt_iff_le_and_ne.mpr ⟨r1, y⟩)] at z
      exact absurd z (by lia)
theorem top_words_pos {l : List Int} {h : Int} (ho : Octs l) (h2 : at0 l 0 / 16 = 4) (h20 : 20 ≤ h) (hl : h ≤ l.length) : 0 < words (top l h) := by
  have e3 : cutL l (some 0) (some 2) = [at0 l 0, at0 l 1] := cut_two (a := 0) (by decide) (by lia)
  rw [top_cut (by lia) hl, ← cut_app (a := 0) (b := 2) (d := h) (by decide) (by decide) (by lia) hl, e3, words_even _ _ (two_even _ _), words_two]
  have r1 := (words_range (ho.cut (some 2) (some h))).1
  have r3 := at0_range ho 1
  lia
end
section
open PySem PySem.W PySem.Calls PyProof.Rows
noncomputable abbrev inBad (w : Str) (b : Bool) : Prop := flat (.str w) = some (.str w) ∧ ([PyData.str msg1, .str msg2, .str msg3].any fun y => PyData.eqv y (.str w)) = b
theorem none4 {l : List Int} {cut : Int} (h0 : 0 ≤ cut) (hc : cut ≤ l.length) (h : look4P (top l cut) = none) :
    ∃ w, head4 (top l cut) = .inl w ∧ inBad w true ∧ (w == msg1) = decide (cut < 20) ∧ (¬ cut < 20 → (w == msg2) = (at0 l 0 / 16 != 4)) := by
  have eL := top_len (l := l) h0 hc
  by_cases h1 : cut < 20
  · exact ⟨msg1, head4_bad1 (by rw [eL]; exact h1), ⟨by kernel_rfl, by kernel_rfl⟩, by rw [decide_eq_true h1]; kernel_rfl, fun z => absurd h1 z⟩
  · have e0 : at0 (top l cut) 0 = at0 l 0 := at0_top hc (i := 0) (by decide) (by lia)
    by_cases h2 : at0 l 0 / 16 = 4
    · exact ⟨msg3, head4_bad3 (by rw [eL]; exact h1) (by rw [e0]; exact h2) h, ⟨by kernel_rfl, by kernel_rfl⟩, by rw [decide_eq_false h1]; kernel_rfl, fun _ => by rw [h2]; kernel_rfl⟩
    · exact ⟨msg2, head4_bad2 (by rw [eL]; exact h1) (by rw [e0]; exact h2), ⟨by kernel_rfl, by kernel_rfl⟩, by rw [decide_eq_false h1]; kernel_rfl, fun _ => by rw [show (at0 l 0 / 16 != 4) = true from bne_iff_ne.mpr h2]; kernel_rfl⟩
theorem some4 {l : List Int} {cut h : Int} (ho : Octs l) (h0 : 0 ≤ cut) (hc : cut ≤ l.length) (c20 : ¬ cut < 20) (h2 : at0 l 0 / 16 = 4) (hE : h = at0 l 0 % 16 * 4) (h3 : ¬ h < 20) (h4 : ¬ cut < h) :
    (¬ h ≤ sub l 2 4 ∧ head4 (top l cut) = .inl msg4) ∨ (h ≤ sub l 2 4 ∧ ¬ sub l 2 4 ≤ cut ∧ head4 (top l cut) = .inl msg4) ∨
    (h ≤ sub l 2 4 ∧ sub l 2 4 ≤ cut ∧ words (top l h) % 65535 ≠ 0 ∧ head4 (top l cut) = .inl msg5) ∨
    (h ≤ sub l 2 4 ∧ sub l 2 4 ≤ cut ∧ words (top l h) % 65535 = 0 ∧ head4 (top l cut) = .inr (h, sub l 2 4)) := by
  have eL := top_len (l := l) h0 hc
  have e0 : at0 (top l cut) 0 = at0 l 0 := at0_top hc (i := 0) (by decide) (by lia)
  have e2 := sub_top (l := l) hc (a := 2) (b := 4) (by decide) (by decide) (by lia)
  have hp := top_words_pos ho h2 (h := h) (by lia) (by lia)
  have e := head4_look (l := top l cut) (by rw [eL]; exact c20) (by rw [e0]; exact h2) (by rw [e0, ← hE]; exact h3) (by rw [e0, eL, ← hE]; exact h4)
  rw [eL, e0, e2, ← hE, top_top (h := h) (by lia) (by lia)] at e
  rw [e]
  by_cases k1 : sub l 2 4 < h
  · exact .inl ⟨by lia, if_pos k1⟩
  rw [if_neg k1]
  by_cases k2 : cut < sub l 2 4
  · exact .inr (.inl ⟨by lia, by lia, if_pos k2⟩)
  rw [if_neg k2]
  by_cases k3 : words (top l h) % 65535 = 0
  · exact .inr (.inr (.inr ⟨by lia, by lia, k3, if_neg (fun z => z ((fold_mod hp).mpr k3))⟩))
  · exact .inr (.inr (.inl ⟨by lia, by lia, k3, if_pos (fun z => k3 ((fold_mod hp).mp z))⟩))
theorem chk4_top {l : List Int} {cut : Int} (hc : cut ≤ l.length) (h : 12 ≤ cut) : chk4 (top l cut) = chk4 l := by unfold chk4; rw [cut_top hc (by decide) (by decide) h]
theorem Good4.len_opt {l : List Int} {h t : Int} (g : Good4 l h t) : 20 + ((cutL l (some 20) (some h)).length : Int) = h := by
  rw [cutL_len' (by decide) g.h20 (Int.le_trans g.ht g.tl)]; lia
theorem chk4_le {l : List Int} : (chk4 l).length ≤ 2 := by
  unfold chk4
  split
  · decide
  · exact cutL_le l (by decide) (by decide)
theorem w4_to {l : List Int} {cut t : Int} (h0 : 12 ≤ cut) (hc : cut ≤ l.length) (h1 : 12 ≤ t) (h2 : t ≤ cut) :
    top (top l cut) 10 ++ chk4 (top l cut) ++ cutL (top l cut) (some 12) (some t) = top l 10 ++ chk4 l ++ cutL l (some 12) (some t) := by
  rw [top_top (by decide) (by lia), chk4_top hc h0, cut_top hc (by decide) h1 h2]
theorem cut_len {l : List Int} {x y : Option Int} : (cutL l x y).length ≤ l.length := by unfold cutL; rw [List.length_take, List.length_drop]; lia
theorem w4_le {l : List Int} {t : Int} (hl : l.length ≤ 1000) : (top l 10 ++ chk4 l).length ≤ 1002 ∧ (top l 10 ++ chk4 l ++ cutL l (some 12) (some t)).length ≤ 2002 := by
  have a : (top l 10).length ≤ 1000 := Nat.le_trans cut_len hl
  have b := chk4_le (l := l)
  have d : (cutL l (some 12) (some t)).length ≤ 1000 := Nat.le_trans cut_len hl
  have e : (top l 10 ++ chk4 l).length ≤ 1002 := by rw [List.length_append]; lia
  exact ⟨e, by rw [List.length_append]; lia⟩
end
section
open PySem PySem.W PySem.Calls PyProof.Rows
theorem hsz_ge {k b : Int} (h : hsz k 0 ≠ 0) (hb : 0 ≤ b) : 4 ≤ hsz k b := by
  unfold hsz at h ⊢
  repeat' split at h
  all_goals repeat' split
  all_goals lia
theorem szAt_eq {l : List Int} (ho : Octs l) (a k e : Int) : szAt l a k e = if hsz k 0 = 0 then 0 else if e < a + hsz k (at0 l (a + 1)) then -1 else hsz k (at0 l (a + 1)) := by
  unfold szAt
  by_cases h : hsz k 0 = 0
  · rw [if_pos h, if_pos h]
  · have := hsz_ge h (at0_range ho (a + 1)).1
    rw [if_neg h, if_neg h]
    by_cases h2 : e < a + 2
    · rw [if_pos h2, if_pos (by lia)]
    · rw [if_neg h2]
theorem szAt_top {l : List Int} {cut a e k : Int} (hc : cut ≤ l.length) (he : e ≤ cut) (ha : 0 ≤ a) : szAt (top l cut) a k e = szAt l a k e := by
  unfold szAt
  by_cases h : e < a + 2
  · rw [if_pos h, if_pos h]
  · rw [at0_top hc (by lia) (by lia)]
noncomputable def stepS (sz k a pl nx : Int) (b : List Int) (rc : Option (List Hd × Int × Int)) : Option (List Hd × Int × Int) :=
  if sz < 0 then none else if sz = 0 then some ([], k, a) else if k = 0 ∧ 40 < a then none
  else if k = 44 ∧ pl ≠ 0 then some ([(k, b)], nx, a + sz) else rc.map fun r => ((k, b) :: r.1, r.2)
theorem scan_stepS {l : List Int} {e k a : Int} {n : Nat} : scan l e (n + 1) k a = stepS (szAt l a k e) k a (plAt l a) (at0 l a) (cutL l (some (a + 1)) (some (a + szAt l a k e))) (scan l e n (at0 l a) (a + szAt l a k e)) := rfl
section
variable {sz k a pl pl' nx nx' e : Int} {b b' : List Int} {rc rc' : Option (List Hd × Int × Int)} {r : List Hd × Int × Int}
theorem stepS_congr (h : ¬ sz < 0 → sz ≠ 0 → nx = nx' ∧ b = b' ∧ (k = 44 → pl = pl') ∧ rc = rc') : stepS sz k a pl nx b rc = stepS sz k a pl' nx' b' rc' := by
  by_cases h1 : sz < 0
  · exact (if_pos h1).trans (if_pos h1).symm
  by_cases h2 : sz = 0
  · subst h2; rfl
  obtain ⟨rfl, rfl, h3, rfl⟩ := h h1 h2
  by_cases hk : k = 44
  · rw [h3 hk]
  · unfold stepS
    rw [if_neg (fun z : k = 44 ∧ pl ≠ 0 => hk z.1), if_neg (fun z : k = 44 ∧ pl' ≠ 0 => hk z.1)]
theorem stepS_some (h : stepS sz k a pl nx b rc = some r) : (sz = 0 ∧ r = ([], k, a)) ∨ (¬ sz < 0 ∧ sz ≠ 0 ∧ ∃ q, (q = ([], nx, a + sz) ∨ rc = some q) ∧ r = ((k, b) :: q.1, q.2)) := by
  unfold stepS at h
  by_cases h1 : sz < 0
  · rw [if_pos h1] at h; cases h
  rw [if_neg h1] at h
  by_cases h2 : sz = 0
  · rw [if_pos h2] at h; exact .inl ⟨h2, (Option.some.inj h).symm⟩
  rw [if_neg h2] at h
  refine .inr ⟨h1, h2, ?_⟩
  by_cases h3 : k = 0 ∧ 40 < a
  · rw [if_pos h3] at h; cases h
  rw [if_neg h3] at h
  by_cases h4 : k = 44 ∧ pl ≠ 0
  · rw [if_pos h4] at h; exact ⟨_, .inl rfl, (Option.some.inj h).symm⟩
  rw [if_neg h4] at h
  obtain ⟨q, hq, e⟩ := Option.map_eq_some_iff.mp h
  exact ⟨q, .inr hq, e.symm⟩
noncomputable def upTo (e : Int) (r : List Hd × Int × Int) : Option (List Hd × Int × Int) := if e < r.2.2 then none else some r
theorem stepS_less (h : ¬ e < a + sz) : stepS sz k a pl nx b (rc.bind (upTo e)) = (stepS sz k a pl nx b rc).bind (upTo e) := by
  unfold stepS
  by_cases h1 : sz < 0
  · rw [if_pos h1, if_pos h1]; rfl
  rw [if_neg h1, if_neg h1]
  by_cases h2 : sz = 0
  · rw [if_pos h2, if_pos h2]
    exact (if_neg (fun z => h (by rw [h2, Int.add_zero]; exact z))).symm
  rw [if_neg h2, if_neg h2]
  by_cases h3 : k = 0 ∧ 40 < a
  · rw [if_pos h3, if_pos h3]; rfl
  rw [if_neg h3, if_neg h3]
  by_cases h4 : k = 44 ∧ pl ≠ 0
  · rw [if_pos h4, if_pos h4]
    exact (if_neg h).symm
  rw [if_neg h4, if_neg h4]
  cases rc with
  | none => rfl
  | some q =>
    show Option.map _ (if e < q.2.2 then none else some q) = if e < q.2.2 then none else _
    by_cases z : e < q.2.2
    · rw [if_pos z, if_pos z]; rfl
    · rw [if_neg z, if_neg z]; rfl
end
theorem scan_top {l : List Int} {cut e : Int} (ho : Octs l) (hc : cut ≤ l.length) (he : e ≤ cut) (n : Nat) : ∀ (k a : Int), 0 ≤ k → 40 ≤ a → scan (top l cut) e n k a = scan l e n k a := by
  induction n with
  | zero => exact fun _ _ _ _ => rfl
  | succ n ih =>
    intro k a hk ha
    rw [scan_stepS, scan_stepS, szAt_top hc he (by lia)]
    refine stepS_congr fun h1 h2 => ?_
    have T := Turn.of ho hk ha h1 h2
    have t2 := T.h2
    have tz := T.hz
    have t4 := T.h4
    have h44 := T.h44
    clear T
    generalize szAt l a k e = sz at *
    have e1 : at0 (top l cut) a = at0 l a := at0_top hc (by lia) (by lia)
    refine ⟨e1, cut_top hc (by lia) (by lia) (by lia), fun z => ?_, ?_⟩
    · have := h44 z
      unfold plAt
      rw [sub_top hc (by lia) (by lia) (by lia)]
    · rw [e1]; exact ih _ _ (at0_range ho a).1 (by lia)
structure Found (l : List Int) (e k a : Int) (r : List Hd × Int × Int) : Prop where
  ge : a ≤ r.2.2
  le : r.2.2 ≤ e
  nx : nxt r.2.1 r.1 = k
  wr : wh r.2.1 r.1 = cutL l (some a) (some r.2.2)
  hd : ∀ h ∈ r.1, HdOk h
  oc : ∀ h ∈ r.1, Octs h.2
  sum : (r.1.map fun h => (h.2.length : Int) + 1).sum = r.2.2 - a
  p0 : 0 ≤ r.2.1
  p1 : r.2.1 < 256
  len : 4 * (r.1.length : Int) ≤ r.2.2 - a
theorem cut_nil {l : List Int} {a : Int} (h0 : 0 ≤ a) (h : a ≤ l.length) : cutL l (some a) (some a) = [] := by
  rw [cutL_nn l h0 (Int.le_refl _) h, Nat.sub_self]; rfl
theorem Turn.head {l : List Int} {e k a : Int} (ho : Octs l) (T : Turn l e k a) (hl : l.length ≤ 1000) (he : e ≤ l.length) (k1 : k < 256) : HdOk (k, cutL l (some (a + 1)) (some (a + szAt l a k e))) ∧ ((cutL l (some (a + 1)) (some (a + szAt l a k e))).length : Int) + 1 = szAt l a k e ∧
    dig (at0 l a) 1 ++ cutL l (some (a + 1)) (some (a + szAt l a k e)) = cutL l (some a) (some (a + szAt l a k e)) := by
  have t4 := T.h4
  have tz := T.hz
  have a0 := T.a0
  have n := cutL_len' (l := l) (a := a + 1) (b := a + szAt l a k e) (by lia) (by lia) (by lia)
  refine ⟨⟨T.k0, k1, by dsimp only; lia, by dsimp only; lia, by dsimp only; lia, ?_⟩, by lia, ?_⟩
  · dsimp only
    rw [at0_cut (by lia) (by lia) (by decide) (by lia), Int.add_zero, n, ← T.szE]
    lia
  · rw [dig_at ho (a := a) (b := a + 1) (by lia) rfl (by lia), cut_app (by lia) (by lia) (by lia) (by lia)]
theorem Found.stop {l : List Int} {e k a : Int} (k0 : 0 ≤ k) (k1 : k < 256) (a0 : 0 ≤ a) (hae : a ≤ e) (he : e ≤ l.length) : Found l e k a ([], k, a) :=
  ⟨Int.le_refl _, hae, rfl, (cut_nil a0 (Int.le_trans hae he)).symm, fun _ z => (nomatch z), fun _ z => (nomatch z), (Int.sub_self a).symm, k0, k1, Int.le_of_eq (Int.sub_self a).symm⟩
theorem Found.step {l : List Int} {e k a : Int} {q : List Hd × Int × Int} (ho : Octs l) (hl : l.length ≤ 1000) (he : e ≤ l.length) (k1 : k < 256) (T : Turn l e k a) (F : Found l e (at0 l a) (a + szAt l a k e) q) :
    Found l e k a ((k, cutL l (some (a + 1)) (some (a + szAt l a k e))) :: q.1, q.2) := by
  obtain ⟨x1, x2, x3⟩ := T.head ho hl he k1
  have f1 := F.ge
  have t4 := T.h4
  have a0 := T.a0
  have s1 := F.sum
  have l1 := F.len
  refine ⟨Int.le_trans (Int.le_add_of_nonneg_right (Int.le_trans (by decide) t4)) f1, F.le, rfl, ?_, ?_, ?_, ?_, F.p0, F.p1, ?_⟩
  · show dig (nxt q.2.1 q.1) 1 ++ _ ++ wh q.2.1 q.1 = _
    rw [F.nx, x3, F.wr, cut_app (Int.le_trans (by decide) a0) (Int.le_add_of_nonneg_right (Int.le_trans (by decide) t4)) f1 (Int.le_trans F.le he)]
  · intro y hy
    cases hy with
    | head => exact x1
    | tail _ z => exact F.hd y z
  · intro y hy
    cases hy with
    | head => exact ho.cut _ _
    | tail _ z => exact F.oc y z
  · show ((cutL l (some (a + 1)) (some (a + szAt l a k e))).length : Int) + 1 + (q.1.map fun h => (h.2.length : Int) + 1).sum = _
    rw [s1, x2]
    dsimp only
    clear s1 x1 x2 x3 l1 f1 F T
    generalize szAt l a k e = sz at *
    lia
  · dsimp only [List.length_cons]
    clear s1 x1 x2 x3 f1 F T
    generalize szAt l a k e = sz at *
    lia
theorem Found.of {l : List Int} {e : Int} (ho : Octs l) (hl : l.length ≤ 1000) (he : e ≤ l.length) (n : Nat) : ∀ (k a : Int) (r : List Hd × Int × Int), 0 ≤ k → k < 256 → 40 ≤ a → a ≤ e → scan l e n k a = some r → Found l e k a r := by
  induction n with
  | zero => exact fun _ _ _ _ _ _ _ h => nomatch h
  | succ n ih =>
    intro k a r k0 k1 ha hae h
    rcases stepS_some (scan_stepS.symm.trans h) with ⟨-, rfl⟩ | ⟨h1, h2, q, hq, rfl⟩
    · exact .stop k0 k1 (Int.le_trans (by decide) ha) hae he
    · have T := Turn.of ho k0 ha h1 h2
      have rg := at0_range ho a
      have a1 : 40 ≤ a + szAt l a k e := Int.le_trans ha (Int.le_add_of_nonneg_right (Int.le_trans (by decide) T.h4))
      refine .step ho hl he k1 T ?_
      rcases hq with rfl | hq
      · exact .stop rg.1 rg.2 (Int.le_trans (by decide) a1) T.hz he
      · exact ih _ _ q rg.1 rg.2 a1 T.hz hq
theorem scan_less {l : List Int} {e e' : Int} (ho : Octs l) (hl : l.length ≤ 1000) (he : e ≤ e') (he' : e' ≤ l.length) (n : Nat) : ∀ (k a : Int), 0 ≤ k → k < 256 → 40 ≤ a → a ≤ e → scan l e n k a = (scan l e' n k a).bind (upTo e) := by
  induction n with
  | zero => exact fun _ _ _ _ _ _ => rfl
  | succ n ih =>
    intro k a k0 k1 ha hae
    have rg := at0_range ho a
    rw [scan_stepS, scan_stepS, szAt_eq ho a k e, szAt_eq ho a k e']
    by_cases h1 : hsz k 0 = 0
    · rw [if_pos h1, if_pos h1]
      exact (if_neg (show ¬ e < a from Int.not_lt.mpr hae)).symm
    have s4 := hsz_ge (k := k) (b := at0 l (a + 1)) h1 (at0_range ho (a + 1)).1
    rw [if_neg h1, if_neg h1]
    generalize hsz k (at0 l (a + 1)) = s at s4
    by_cases h2 : e' < a + s
    · rw [if_pos h2, if_pos (Int.lt_of_le_of_lt he h2)]; rfl
    rw [if_neg h2]
    by_cases h3 : e < a + s
    · rw [if_pos h3]
      show none = _
      cases hr : stepS s k a (plAt l a) (at0 l a) (cutL l (some (a + 1)) (some (a + s))) (scan l e' n (at0 l a) (a + s)) with
      | none => rfl
      | some r =>
        refine (if_pos ?_).symm
        rcases stepS_some hr with ⟨z, -⟩ | ⟨-, -, q, hq, rfl⟩
        · exact absurd z (by lia)
        · rcases hq with rfl | hq
          · exact h3
          · exact Int.lt_of_lt_of_le h3 (Found.of ho hl he' n _ _ q rg.1 rg.2 (by lia) (Int.not_lt.mp h2) hq).ge
    rw [if_neg h3, ih _ _ rg.1 rg.2 (by lia) (Int.not_lt.mp h3)]
    exact stepS_less h3
theorem look6_cases (l : List Int) : (look6P l = none ∧ ((l.length : Int) < 40 ∨ at0 l 0 / 16 ≠ 6)) ∨ (¬ (l.length : Int) < 40 ∧ at0 l 0 / 16 = 6 ∧ look6P l = (scan l l.length 1000 (at0 l 6) 40).map fun r => (r.2.1, r.2.2, frag r.1 / 8 * 8, decide (frag r.1 % 2 = 1))) := by
  unfold look6P
  by_cases h1 : (l.length : Int) < 40
  · exact .inl ⟨if_pos h1, .inl h1⟩
  rw [if_neg h1]
  by_cases h2 : at0 l 0 / 16 = 6
  · exact .inr ⟨h1, h2, if_neg (fun z => z h2)⟩
  · exact .inl ⟨if_pos h2, .inr h2⟩
theorem look6_in {l : List Int} (ho : Octs l) (hl : l.length ≤ 1000) : ∀ x, look6P l = some x → 40 ≤ x.2.1 ∧ x.2.1 ≤ l.length := by
  intro x hx
  rcases look6_cases l with ⟨h, -⟩ | ⟨h1, h2, h3⟩
  · rw [h] at hx; cases hx
  · rw [h3] at hx
    cases hs : scan l l.length 1000 (at0 l 6) 40 with
    | none => rw [hs] at hx; cases hx
    | some r =>
      rw [hs] at hx
      cases hx
      have rg := at0_range ho 6
      have F := Found.of ho hl (Int.le_refl _) 1000 _ _ r rg.1 rg.2 (by decide) (by lia) hs
      exact ⟨F.ge, F.le⟩
theorem look6_le {l : List Int} (ho : Octs l) (hl : l.length ≤ 1000) : ∀ x, look6P l = some x → x.2.1 ≤ l.length := fun x hx => (look6_in ho hl x hx).2
theorem stdy6 {l : List Int} {cut : Int} (ho : Octs l) (hl : l.length ≤ 1000) (h0 : 0 ≤ cut) (hc : cut ≤ l.length) : look6P (top l cut) = stdy (look6P l) cut := by
  have eL := top_len (l := l) h0 hc
  rcases look6_cases (top l cut) with ⟨h, hh⟩ | ⟨h1, h2, h3⟩
  · rw [h]
    cases hx : look6P l with
    | none => rfl
    | some x =>
      have := look6_in ho hl x hx
      by_cases hlt : cut < x.2.1
      · exact (if_pos hlt).symm
      · exfalso
        have e0 : at0 (top l cut) 0 = at0 l 0 := at0_top hc (i := 0) (by decide) (by lia)
        rw [eL, e0] at hh
        rcases hh with z | z
        · lia
        · rcases look6_cases l with ⟨y, _⟩ | ⟨_, y, _⟩
          · rw [y] at hx; cases hx
          · exact z y
  · rw [eL] at h1 h3
    have e0 : at0 (top l cut) 0 = at0 l 0 := at0_top hc (i := 0) (by decide) (by lia)
    have e6 : at0 (top l cut) 6 = at0 l 6 := at0_top hc (i := 6) (by decide) (by lia)
    rw [e0] at h2
    rw [h3, e6]
    have rg := at0_range ho 6
    rw [scan_top ho hc (Int.le_refl _) 1000 _ _ rg.1 (by decide), scan_less ho hl hc (Int.le_refl _) 1000 _ _ rg.1 rg.2 (by decide) (by lia)]
    rcases look6_cases l with ⟨_, z⟩ | ⟨_, _, z⟩
    · rcases z with z | z
      · lia
      · exact absurd h2 z
    · rw [z]
      cases scan l l.length 1000 (at0 l 6) 40 with
      | none => rfl
      | some q =>
        show Option.map _ (if cut < q.2.2 then none else some q) = if cut < q.2.2 then none else _
        by_cases y : cut < q.2.2
        · rw [if_pos y, if_pos y]; rfl
        · rw [if_neg y, if_neg y]; rfl
end
section
open PySem PySem.W PySem.Calls PyProof.Rows
structure Good6 (l : List Int) (e : Int) (r : List Hd × Int × Int) : Prop where
  v : sub l 0 4 / 268435456 = 6
  eE : e = 40 + sub l 4 6
  le : e ≤ l.length
  F : Found l e (at0 l 6) 40 r
theorem sub_four {l : List Int} (hl : 4 ≤ (l.length : Int)) : sub l 0 4 = ((at0 l 0 * 256 + at0 l 1) * 256 + at0 l 2) * 256 + at0 l 3 := by
  have e : cutL l (some 0) (some 4) = [at0 l 0, at0 l 1, at0 l 2, at0 l 3] := by
    rw [← cut_app (a := 0) (b := 2) (d := 4) (by decide) (by decide) (by decide) hl, show cutL l (some 0) (some 2) = _ from cut_two (a := 0) (by decide) (by lia), show cutL l (some 2) (some 4) = _ from cut_two (a := 2) (by decide) (by lia)]
    rfl
  unfold sub
  rw [e]
  show (((0 * 256 + at0 l 0) * 256 + at0 l 1) * 256 + at0 l 2) * 256 + at0 l 3 = _
  rw [Int.zero_mul, Int.zero_add]
theorem ver6 {l : List Int} (ho : Octs l) (hl : 4 ≤ (l.length : Int)) : sub l 0 4 / 268435456 = at0 l 0 / 16 := by
  rw [sub_four hl]
  have r1 := at0_range ho 1
  have r2 := at0_range ho 2
  have r3 := at0_range ho 3
  generalize at0 l 1 = x at r1
  generalize at0 l 2 = y at r2
  generalize at0 l 3 = z at r3
  generalize at0 l 0 = a
  clear ho hl
  lia
section
variable {l : List Int} {e : Int} {r : List Hd × Int × Int}
theorem Good6.e40 (ho : Octs l) (g : Good6 l e r) : 40 ≤ e ∧ e < 65576 := by
  have := g.eE
  have s := sub_range ho 4 6 2 (by decide) (by decide)
  rw [show (256 : Int) ^ 2 = 65536 by decide] at s
  lia
theorem Good6.body (ho : Octs l) (g : Good6 l e r) : wh r.2.1 r.1 ++ cutL l (some r.2.2) (some e) = cutL l (some 40) (some e) := by
  rw [g.F.wr, cut_app (by decide) g.F.ge g.F.le g.le]
theorem Good6.blen (ho : Octs l) (g : Good6 l e r) : ((cutL l (some 40) (some e)).length : Int) = sub l 4 6 := by
  have := (g.e40 ho).1
  rw [cutL_len' (by decide) this g.le, g.eE]
  lia
theorem Good6.written (ho : Octs l) (g : Good6 l e r) :
    w6 r.2.1 (at0 l 7) (sub l 0 4 / 4194304 % 64) (sub l 0 4 / 1048576 % 4) (sub l 0 4 % 1048576) (sub l 8 24) (sub l 24 40) (cutL l (some r.2.2) (some e)) r.1 = top l e := by
  have h40 := (g.e40 ho).1
  have le := g.le
  have v := g.v
  have hw : wd6 (sub l 0 4 / 4194304 % 64) (sub l 0 4 / 1048576 % 4) (sub l 0 4 % 1048576) = sub l 0 4 := by
    unfold wd6
    generalize sub l 0 4 = w at v
    clear g
    lia
  unfold w6
  rw [hw, g.body ho, g.blen ho, g.F.nx,
    dig_sub ho (a := 0) (b := 4) (k := 4) (by decide) (by decide) (by lia), dig_sub ho (a := 4) (b := 6) (k := 2) (by decide) (by decide) (by lia),
    dig_at ho (a := 6) (b := 7) (by decide) rfl (by lia), dig_at ho (a := 7) (b := 8) (by decide) rfl (by lia),
    dig_sub ho (a := 8) (b := 24) (k := 16) (by decide) (by decide) (by lia), dig_sub ho (a := 24) (b := 40) (k := 16) (by decide) (by decide) (by lia),
    cut_app (by decide) (by decide) (by decide) (by lia), cut_app (by decide) (by decide) (by decide) (by lia), cut_app (by decide) (by decide) (by decide) (by lia), cut_app (by decide) (by decide) (by decide) (by lia), cut_app (by decide) (by decide) (by decide) (by lia), cut_app (by decide) (by decide) h40 le,
    ← top_cut (by lia) le]
theorem Good6.ok (ho : Octs l) (hl : l.length ≤ 1000) (g : Good6 l e r) :
    Ok6 r.2.1 (at0 l 7) (sub l 0 4 / 4194304 % 64) (sub l 0 4 / 1048576 % 4) (sub l 0 4 % 1048576) (sub l 8 24) (sub l 24 40) (cutL l (some r.2.2) (some e)) r.1 := by
  have F := g.F
  have s1 := sub_range ho 8 24 16 (by decide) (by decide)
  have s2 := sub_range ho 24 40 16 (by decide) (by decide)
  have r7 := at0_range ho 7
  have b := g.blen ho
  have bd := g.body ho
  have h40 := (g.e40 ho).1
  have l1 : (cutL l (some 40) (some e)).length ≤ 1000 := Nat.le_trans cut_len hl
  have l2 : (wh r.2.1 r.1).length ≤ 1000 := by rw [F.wr]; exact Nat.le_trans cut_len hl
  have l3 : r.1.length ≤ 1000 := by
    have := F.len
    have := F.le
    have := g.le
    lia
  have p1 : (256 : Int) ^ 1 = 256 := by decide
  have p2 : (256 : Int) ^ 2 = 65536 := by decide
  rw [← bd] at l1
  exact {
    c1 := by lia, c2 := by lia, c3 := by lia, c4 := by lia, c5 := l2, c6 := l1, c7 := l3, d0 := by lia, e0 := by lia, f0 := by lia, p0 := F.p0, p1 := by rw [p1]; exact F.p1,
    h0 := r7.1, h1 := by rw [p1]; exact r7.2, s0 := s1.1, s1 := s1.2, t0 := s2.1, t1 := s2.2, n0 := by lia, n1 := by rw [p2]; lia, heads := F.hd }
end
noncomputable abbrev pcs (hs : List Hd) : List (List Int) := (hs.filter fun h => h.1 == 44).map (·.2)
theorem frag_pcs : ∀ (hs : List Hd) (w : Int), hs.foldl (fun w h => if h.1 = 44 then num (cutL h.2 (some 1) (some 3)) else w) w = match (pcs hs).getLast? with | none => w | some b => num (cutL b (some 1) (some 3))
  | [], _ => rfl
  | h :: hs, w => by
    rw [List.foldl_cons, frag_pcs hs]
    by_cases z : h.1 = 44
    · rw [if_pos z, show pcs (h :: hs) = h.2 :: pcs hs by show List.map _ (List.filter _ (h :: hs)) = _; rw [List.filter_cons_of_pos (by rw [z]; rfl)]; rfl, List.getLast?_cons]
      cases (pcs hs).getLast? <;> rfl
    · rw [if_neg z, show pcs (h :: hs) = pcs hs by show List.map _ (List.filter _ (h :: hs)) = _; rw [List.filter_cons_of_neg (by rw [beq_iff_eq]; exact z)]]
theorem frag_last (hs : List Hd) : frag hs = match (pcs hs).getLast? with | none => 0 | some b => num (cutL b (some 1) (some 3)) := frag_pcs hs 0
theorem near6 {l : List Int} {e : Int} (ho : Octs l) (h6 : at0 l 0 / 16 = 6) (h40 : 40 ≤ e) (he : e ≤ l.length) : look6P (top l e) = (scan l e 1000 (at0 l 6) 40).map fun r => (r.2.1, r.2.2, frag r.1 / 8 * 8, decide (frag r.1 % 2 = 1)) := by
  have eL := top_len (l := l) (by lia) he
  have e0 : at0 (top l e) 0 = at0 l 0 := at0_top he (i := 0) (by decide) (by lia)
  have e6 : at0 (top l e) 6 = at0 l 6 := at0_top he (i := 6) (by decide) (by lia)
  rcases look6_cases (top l e) with ⟨_, h⟩ | ⟨_, _, h⟩
  · rw [eL, e0] at h
    rcases h with h | h
    · lia
    · exact absurd h6 h
  · rw [h, eL, e6, scan_top ho he (Int.le_refl _) 1000 _ _ (at0_range ho 6).1 (by decide)]
end
section
open PySem PySem.W PySem.Calls PyProof.Rows
theorem items_ints {R : WRecords} : ∀ {xs : List WData}, WShape.hasItems R xs .int = true → ∃ sc : List Int, xs = sc.map .int
  | [], _ => ⟨[], rfl⟩
  | d :: xs, h => by
    have h' : WShape.has R d .int = true ∧ WShape.hasItems R xs .int = true := by simpa [WShape.hasItems] using h
    obtain ⟨i, rfl⟩ := hasW_int h'.1
    obtain ⟨sc, rfl⟩ := items_ints h'.2
    exact ⟨i :: sc, rfl⟩
theorem reads_ints {R : WRecords} {cl : Str → Option Addr} {h : Heap} {I : Im} : ∀ {sc : List Int} {vs : List Value} {as : List Addr}, ReadsAllW R cl h vs (sc.map .int) as → RepAll I vs (sc.map .int)
  | [], _, _, r => by cases r; exact .nil
  | x :: sc, _, _, r => by
    cases r with
    | cons a rs =>
      obtain ⟨t, rfl, _⟩ := readsW_int_inv a
      exact .cons (.int x t) (reads_ints rs)
end
section
open PySem PySem.W PySem.Calls PyProof.Rows
theorem law_args {L : OpenLaw} {args : List WData} (hp : L.row.claim.pre args = true) : ∃ sc : List Int, args = [.list (sc.map .int)] := by
  have h1 := (pre_splitW (r := L.row.toRowW) hp).1
  obtain ⟨d, r, rfl, h2, h3⟩ := hasAllW_cons (e := .list .int) (es := []) h1
  obtain rfl := hasAllW_nil h3
  obtain ⟨xs, rfl, h4⟩ := hasW_list h2
  obtain ⟨sc, rfl⟩ := items_ints h4
  exact ⟨sc, rfl⟩
theorem law_most {L : OpenLaw} {sc : List Int} (hm : L.most = some 63) (hb : L.bound = none) (hp : L.row.claim.pre [.list (sc.map .int)] = true) : sc.length ≤ 63 := by
  have h := (pre_splitW (r := L.row.toRowW) hp).2
  have e : L.row.pre = L.pre := rfl
  rw [show L.row.toRowW.pre = L.pre from rfl] at h
  unfold OpenLaw.pre at h
  rw [hm, hb] at h
  simp [WTm.holds, WTm.value] at h
  have q : less? (WData.int 63) (WData.int (sc.length : Int)) = some (decide ((63 : Int) < sc.length)) := rfl
  rw [q] at h
  by_cases z : (63 : Int) < sc.length
  · rw [decide_eq_true z] at h; cases h
  · omega
theorem weight_ints : ∀ (sc : List Int) (x : Int), x ∈ sc → (if x == 0 then 0 else x.natAbs.log2 + 1) ≤ WData.weightAll (sc.map .int)
  | [], _, h => nomatch h
  | y :: sc, x, h => by
    show _ ≤ (if y == 0 then 0 else y.natAbs.log2 + 1) + 1 + WData.weightAll (sc.map .int)
    rcases List.mem_cons.mp h with rfl | h
    · omega
    · have := weight_ints sc x h; omega
theorem law_small {sc : List Int} (h : WData.layableAll [.list (sc.map .int)] = true) : ∃ b, b ≤ 1048576 ∧ ∀ x ∈ sc, x.natAbs < 2 ^ b := by
  have h1 : WData.layable (.list (sc.map .int)) = true := by simpa [WData.layableAll] using h
  have h2 := (layableW_iff.mp h1).2.2
  refine ⟨1048576, Nat.le_refl _, fun x hx => ?_⟩
  have h3 : (if x == 0 then 0 else x.natAbs.log2 + 1) ≤ 2 ^ 20 := Nat.le_trans (weight_ints sc x hx) h2
  by_cases z : x = 0
  · subst z; exact Nat.pos_of_ne_zero (by simp)
  · rw [if_neg (by simpa using z)] at h3
    exact (Nat.log2_lt (by omega)).mp (by omega)
end
section
open PySem PySem.W PySem.Calls PyProof.Rows
noncomputable def topCx (W : Wd) : Cx := { W := W, env := { scope := { kind := .function, names := [], isGenerator := false, isCoroutine := false }, locals := 0, globals := mainGlobals, cells := [], builtins := builtinsNs }, A := callerA, l := [], n := 9 }
theorem top_ok (W : Wd) : (topCx W).Ok := ⟨rfl, by show callerA.depth + 9 < 900; decide +kernel, by show callerA.units + 20 * 9 + 100 < cLine; decide +kernel, rfl, rfl, rfl, rfl, rfl⟩
theorem top_rd (W : Wd) {s : Shared} (h : W.B = s.heap) : Rd (topCx W) [] s.heap.get? s := ⟨top_ok W, fun a o e => by rw [← h]; exact e, fun _ _ e => e, fun _ z => (nomatch z), fun _ _ e => (nomatch e)⟩
theorem law_end {L : OpenLaw} (W : Wd) {s₀ s₁ : Shared} {a : Addr} {args : List WData} {vals : List Value} {as : List Addr} (hB : W.B = s₁.heap) (hg : s₁.gens = #[]) (hP : W.prog = L.row.prog) (hm : L.most = some 63) (hb : L.bound = none)
    (h : ∀ sc : List Int, sc.length ≤ 63 → (∃ b, b ≤ 1048576 ∧ ∀ x ∈ sc, x.natAbs < 2 ^ b) → CallP (topCx W) (.ref a) [.list (sc.map .int)] (fun p => p = .bool true))
    (hp : L.row.claim.pre args = true) (hl : WData.layableAll args = true) (hr : ReadsAllW L.row.records (classAt s₀.heap) s₁.heap vals args as) :
    wpP (model L.row.prog W.w) callerA (PySem.call (.ref a) vals) (fun v s' => GoodWG L.row.claim (classAt s₀.heap) (ExcName.means s₀.heap) args s₁ (.ok (.ret v)) s') s₁ := by
  obtain ⟨sc, rfl⟩ := law_args (L := L) hp
  have h63 := law_most hm hb hp
  have hsm := law_small hl
  cases hr with
  | @cons v vs d ds as bs h1 h2 =>
    cases h2
    cases h1 with
    | @list b o vs n xs as' ho1 hc1 hd1 hr1 =>
      have c := h sc h63 hsm s₁.heap.get? s₁ [.ref b] (top_rd W hB) (.cons (.list ho1 ⟨hc1, n, by rw [Array.toArray_toList]; exact hd1⟩ (reads_ints hr1)) .nil)
      rw [← hP]
      refine wpP_mono c fun v s' ⟨I', p, P, r, q⟩ => ?_
      subst q
      cases r
      refine ⟨.inl ⟨_, .bool true, [], rfl, fun _ => rfl, .bool true, ?_, fun _ => ⟨List.nodup_nil, fun _ z => nomatch z⟩⟩, ?_, P.os, ?_⟩
      · simp [OpenLaw.row, RowW.claim, WShape.has, WShape.arms, WTm.holds, WTm.value]
        rw [show same (WData.bool true) (WData.bool true) = true by kernel_rfl]
      · exact .of_keep fun b o e => (P.kept b o e).2 (fun z => nomatch z)
      · exact .of_eq (P.gens.trans hg)
end
section
open PySem PySem.W PySem.Calls PyProof.Rows
noncomputable def Cx.Txt (c : Cx) : Prop := c.W.K = hd.heap_1 c.W.w.params

structure Glob (x : Str) (f : Value) : Prop where
  e : ∀ P, nsIn (hd.heap_1 P) mainGlobals x = some (some f)
  k : ∀ P, keepIn (hd.heap_1 P) f = true
  d : (x == ("__debug__" : Str)) = false
structure Blt (x : Str) (f : Value) : Prop where
  e : ∀ P, nsIn (hd.heap_1 P) mainGlobals x = some none
  b : bootBuiltins x = some f
  n : x ≠ "__name__"
  d : (x == ("__debug__" : Str)) = false

theorem Glob.name {x : Str} {f : Value} {c : Cx} (G : Glob x f) (ht : c.Txt) (hk : c.env.kindOf x = some .globalImplicit) : NameIs c x f :=
  ⟨hk, G.d, .inl (by rw [show c.W.K = _ from ht]; exact G.e _)⟩
theorem Glob.keeps {x : Str} {f : Value} {c : Cx} (G : Glob x f) (ht : c.Txt) : Keeps c f := Keeps.K (by rw [show c.W.K = _ from ht]; exact G.k _)
theorem Blt.name {x : Str} {f : Value} {c : Cx} (G : Blt x f) (ht : c.Txt) (hk : c.env.kindOf x = some .globalImplicit) : NameIs c x f :=
  ⟨hk, G.d, .inr ⟨by rw [show c.W.K = _ from ht]; exact G.e _, G.b, G.n⟩⟩

section
variable {c : Cx} {ρ : PEnv} {Q : PV → Prop} {X : PX → Prop}
theorem EvL_cons {e : Expr} {es : List Expr} {QL : List PV → Prop} (h : Ev c ρ (eval e c.env) (fun p => EvL c ρ es (fun ps => QL (p :: ps)) X) X) : EvL c ρ (e :: es) QL X := h
theorem EvL_nil {QL : List PV → Prop} (h : QL []) : EvL c ρ [] QL X := h
theorem Ev_f {x : Str} {f : Value} {px pos : Pos} {es : List Expr} (G : Glob x f) (ht : c.Txt) (h : EvL c ρ es (fun ps => CallV c f ps Q X) X) (hk : c.env.kindOf x = some .globalImplicit := by rfl)
    (hs : starEach es c.env = es.map (fun e => (false, eval e c.env)) := by rfl) : Ev c ρ (eval (.Call (.Name x px) es [] pos) c.env) Q X := Ev_call (G.name ht hk) (G.keeps ht) h hs
theorem Ev_b {x : Str} {i : String} {px pos : Pos} {es : List Expr} (G : Blt x (.builtin i)) (ht : c.Txt) (h : EvL c ρ es (fun ps => CallV c (.builtin i) ps Q X) X) (hk : c.env.kindOf x = some .globalImplicit := by rfl)
    (hs : starEach es c.env = es.map (fun e => (false, eval e c.env)) := by rfl) : Ev c ρ (eval (.Call (.Name x px) es [] pos) c.env) Q X := Ev_call (G.name ht hk) (Keeps.builtin i) h hs
theorem Ev_t {x : Str} {i : String} {px pos : Pos} {es : List Expr} (G : Blt x (.type i)) (ht : c.Txt) (h : EvL c ρ es (fun ps => CallV c (.type i) ps Q X) X) (hk : c.env.kindOf x = some .globalImplicit := by rfl)
    (hs : starEach es c.env = es.map (fun e => (false, eval e c.env)) := by rfl) : Ev c ρ (eval (.Call (.Name x px) es [] pos) c.env) Q X := Ev_call (G.name ht hk) (Keeps.type i) h hs
end

structure Fn (a : Addr) where
  fd : FuncData
  look : ∀ P, ∃ o, (hd.heap_1 P).lookup a = some o ∧ o.data = .func fd
  code : ∀ P, codeIn (hd.heap_1 P) fd.code fd.qualname = true
  plain : plainFd fd

noncomputable abbrev Bd {a : Addr} (f : Fn a) := { b : List Stmt // f.fd.body = .stmts b }

theorem call_txt {c : Cx} {a : Addr} (f : Fn a) (bd : Bd f) {args : List PV} {ρ : PEnv} {Q : PV → Prop} {X : PX → Prop} (ht : c.Txt) (hn : 1 ≤ c.n)
    (hb : Binds c f.fd args ρ) (hko : kindsOk f.fd ρ = true) (hnd : (ρ.map (·.1)).Nodup)
    (h : ∀ N F, F.mu = [] → F.outer = c.l → Sx (inside c f.fd N a) F ρ none (execs bd.1 (inside c f.fd N a).env) (PK.fn Q X)) :
    CallV c (.ref a) args Q X := by
  unfold Cx.Txt at ht
  obtain ⟨o, h1, h2⟩ := f.look c.W.w.params
  exact call_def (by rw [ht]; exact h1) h2 (by rw [ht]; exact f.code _) bd.2 f.plain hn hb hko hnd h

theorem nodup2 {x y : Str} (h : x ≠ y) : [x, y].Nodup := by simp [h]
theorem nodup3 {x y z : Str} (h : x ≠ y ∧ x ≠ z ∧ y ≠ z) : [x, y, z].Nodup := by simp [h.1, h.2.1, h.2.2]
theorem nodup4 {x y z u : Str} (h : (x ≠ y ∧ x ≠ z ∧ y ≠ z) ∧ x ≠ u ∧ y ≠ u ∧ z ≠ u) : [x, y, z, u].Nodup := by simp [h.1.1, h.1.2.1, h.1.2.2, h.2.1, h.2.2.1, h.2.2.2]
noncomputable abbrev kOk (fd : FuncData) (x : Str) : Prop := (fd.scope.names.lookup x == some .local || fd.scope.names.lookup x == some .cell) = true
section
variable {c : Cx} {a : Addr} (f : Fn a) (bd : Bd f) {p q r o : PV} {Q : PV → Prop} {X : PX → Prop}
theorem call1 (ht : c.Txt) (hn : 1 ≤ c.n) (x : Str) (hb : ∀ v, bindArgs f.fd ⟨[v], []⟩ = pure [(x, v)]) (hk : kOk f.fd x)
    (h : ∀ N F, F.mu = [] → F.outer = c.l → Sx (inside c f.fd N a) F [(x, p)] none (execs bd.1 (inside c f.fd N a).env) (PK.fn Q X)) : CallV c (.ref a) [p] Q X :=
  call_txt f bd (ρ := [(x, p)]) ht hn (fun I s vs _ hr => by
    exact RepAll.e1 hr fun h1 => ⟨_, .of_eq (hb _), .cons h1 .nil, rfl⟩) (by unfold kindsOk; simp only [List.all_cons, List.all_nil, Bool.and_true]; rw [hk]) (by simp) h
theorem call2 (ht : c.Txt) (hn : 1 ≤ c.n) (x y : Str) (hb : ∀ v u, bindArgs f.fd ⟨[v, u], []⟩ = pure [(x, v), (y, u)]) (hk : kOk f.fd x ∧ kOk f.fd y) (hd : x ≠ y)
    (h : ∀ N F, F.mu = [] → F.outer = c.l → Sx (inside c f.fd N a) F [(x, p), (y, q)] none (execs bd.1 (inside c f.fd N a).env) (PK.fn Q X)) : CallV c (.ref a) [p, q] Q X :=
  call_txt f bd (ρ := [(x, p), (y, q)]) ht hn (fun I s vs _ hr => by
    exact RepAll.e2 hr fun h1 h2 => ⟨_, .of_eq (hb _ _), .cons h1 (.cons h2 .nil), rfl⟩) (by unfold kindsOk; simp only [List.all_cons, List.all_nil, Bool.and_true]; rw [hk.1, hk.2]; rfl) (nodup2 hd) h
theorem call3 (ht : c.Txt) (hn : 1 ≤ c.n) (x y z : Str) (hb : ∀ v u w, bindArgs f.fd ⟨[v, u, w], []⟩ = pure [(x, v), (y, u), (z, w)]) (hk : kOk f.fd x ∧ kOk f.fd y ∧ kOk f.fd z) (hd : x ≠ y ∧ x ≠ z ∧ y ≠ z)
    (h : ∀ N F, F.mu = [] → F.outer = c.l → Sx (inside c f.fd N a) F [(x, p), (y, q), (z, r)] none (execs bd.1 (inside c f.fd N a).env) (PK.fn Q X)) : CallV c (.ref a) [p, q, r] Q X :=
  call_txt f bd (ρ := [(x, p), (y, q), (z, r)]) ht hn (fun I s vs _ hr => by
    exact RepAll.e3 hr fun h1 h2 h3 => ⟨_, .of_eq (hb _ _ _), .cons h1 (.cons h2 (.cons h3 .nil)), rfl⟩) (by unfold kindsOk; simp only [List.all_cons, List.all_nil, Bool.and_true]; rw [hk.1, hk.2.1, hk.2.2]; rfl) (nodup3 hd) h
theorem call4 (ht : c.Txt) (hn : 1 ≤ c.n) (x y z u : Str) (hb : ∀ v v2 w w2, bindArgs f.fd ⟨[v, v2, w, w2], []⟩ = pure [(x, v), (y, v2), (z, w), (u, w2)]) (hk : kOk f.fd x ∧ kOk f.fd y ∧ kOk f.fd z ∧ kOk f.fd u) (hd : (x ≠ y ∧ x ≠ z ∧ y ≠ z) ∧ x ≠ u ∧ y ≠ u ∧ z ≠ u)
    (h : ∀ N F, F.mu = [] → F.outer = c.l → Sx (inside c f.fd N a) F [(x, p), (y, q), (z, r), (u, o)] none (execs bd.1 (inside c f.fd N a).env) (PK.fn Q X)) : CallV c (.ref a) [p, q, r, o] Q X :=
  call_txt f bd (ρ := [(x, p), (y, q), (z, r), (u, o)]) ht hn (fun I s vs _ hr => by
    exact RepAll.e4 hr fun h1 h2 h3 h4 => ⟨_, .of_eq (hb _ _ _ _), .cons h1 (.cons h2 (.cons h3 (.cons h4 .nil))), rfl⟩) (by unfold kindsOk; simp only [List.all_cons, List.all_nil, Bool.and_true]; rw [hk.1, hk.2.1, hk.2.2.1, hk.2.2.2]; rfl) (nodup4 hd) h
theorem call2K (ht : c.Txt) (hn : 1 ≤ c.n) (x y : Str) (hb : ∀ P S v u, peek (hd.heap_1 P) S (bindArgs f.fd ⟨[v, u], []⟩) = some [(x, v), (y, u)]) (hk : kOk f.fd x ∧ kOk f.fd y) (hd : x ≠ y)
    (h : ∀ N F, F.mu = [] → F.outer = c.l → Sx (inside c f.fd N a) F [(x, p), (y, q)] none (execs bd.1 (inside c f.fd N a).env) (PK.fn Q X)) : CallV c (.ref a) [p, q] Q X :=
  call_txt f bd (ρ := [(x, p), (y, q)]) ht hn (fun I s vs r hr' => by
    have hin : (Mine.hd.heap_1 c.W.w.params).In s.heap := by rw [← show c.W.K = _ from ht]; exact r.inK
    exact RepAll.e2 hr' fun h1 h2 => ⟨_, kp_binds hin (fun S => hb _ S _ _), .cons h1 (.cons h2 .nil), rfl⟩) (by unfold kindsOk; simp only [List.all_cons, List.all_nil, Bool.and_true]; rw [hk.1, hk.2]; rfl) (nodup2 hd) h
theorem call1D (ht : c.Txt) (hn : 1 ≤ c.n) (x y : Str) {dv : Value} {q : PV} (hb : ∀ P S v, peek (hd.heap_1 P) S (bindArgs f.fd ⟨[v], []⟩) = some [(x, v), (y, dv)]) (hr : ∀ I, Rep I dv q) (hk : kOk f.fd x ∧ kOk f.fd y) (hd : x ≠ y)
    (h : ∀ N F, F.mu = [] → F.outer = c.l → Sx (inside c f.fd N a) F [(x, p), (y, q)] none (execs bd.1 (inside c f.fd N a).env) (PK.fn Q X)) : CallV c (.ref a) [p] Q X :=
  call_txt f bd (ρ := [(x, p), (y, q)]) ht hn (fun I s vs r hr' => by
    have hin : (Mine.hd.heap_1 c.W.w.params).In s.heap := by rw [← show c.W.K = _ from ht]; exact r.inK
    exact RepAll.e1 hr' fun h1 => ⟨_, kp_binds hin (fun S => hb _ S _), .cons h1 (.cons (hr I) .nil), rfl⟩) (by unfold kindsOk; simp only [List.all_cons, List.all_nil, Bool.and_true]; rw [hk.1, hk.2]; rfl) (nodup2 hd) h
end

theorem G_number_of : Glob "number_of" (.ref 65) := ⟨fun _ => rfl, fun _ => by kernel_rfl, by decide⟩
noncomputable def F_number_of : Fn 65 := ⟨_, fun _ => ⟨_, rfl, rfl⟩, fun _ => by kernel_rfl, ⟨rfl, rfl, rfl, rfl, rfl, rfl⟩⟩
noncomputable def D_number_of : Bd F_number_of := ⟨_, rfl⟩
theorem G_octets_of : Glob "octets_of" (.ref 70) := ⟨fun _ => rfl, fun _ => by kernel_rfl, by decide⟩
noncomputable def F_octets_of : Fn 70 := ⟨_, fun _ => ⟨_, rfl, rfl⟩, fun _ => by kernel_rfl, ⟨rfl, rfl, rfl, rfl, rfl, rfl⟩⟩
noncomputable def D_octets_of : Bd F_octets_of := ⟨_, rfl⟩
theorem G_pad4 : Glob "pad4" (.ref 77) := ⟨fun _ => rfl, fun _ => by kernel_rfl, by decide⟩
noncomputable def F_pad4 : Fn 77 := ⟨_, fun _ => ⟨_, rfl, rfl⟩, fun _ => by kernel_rfl, ⟨rfl, rfl, rfl, rfl, rfl, rfl⟩⟩
noncomputable def D_pad4 : Bd F_pad4 := ⟨_, rfl⟩
theorem G_folded : Glob "folded" (.ref 84) := ⟨fun _ => rfl, fun _ => by kernel_rfl, by decide⟩
noncomputable def F_folded : Fn 84 := ⟨_, fun _ => ⟨_, rfl, rfl⟩, fun _ => by kernel_rfl, ⟨rfl, rfl, rfl, rfl, rfl, rfl⟩⟩
noncomputable def D_folded : Bd F_folded := ⟨_, rfl⟩
theorem G_sum16 : Glob "sum16" (.ref 92) := ⟨fun _ => rfl, fun _ => by kernel_rfl, by decide⟩
noncomputable def F_sum16 : Fn 92 := ⟨_, fun _ => ⟨_, rfl, rfl⟩, fun _ => by kernel_rfl, ⟨rfl, rfl, rfl, rfl, rfl, rfl⟩⟩
noncomputable def D_sum16 : Bd F_sum16 := ⟨_, rfl⟩
theorem G_check_of : Glob "check_of" (.ref 100) := ⟨fun _ => rfl, fun _ => by kernel_rfl, by decide⟩
noncomputable def F_check_of : Fn 100 := ⟨_, fun _ => ⟨_, rfl, rfl⟩, fun _ => by kernel_rfl, ⟨rfl, rfl, rfl, rfl, rfl, rfl⟩⟩
noncomputable def D_check_of : Bd F_check_of := ⟨_, rfl⟩
theorem G_Ip6 : Glob "Ip6" (.ref 117) := ⟨fun _ => rfl, fun _ => by kernel_rfl, by decide⟩
theorem G_head_size : Glob "head_size" (.ref 128) := ⟨fun _ => rfl, fun _ => by kernel_rfl, by decide⟩
noncomputable def F_head_size : Fn 128 := ⟨_, fun _ => ⟨_, rfl, rfl⟩, fun _ => by kernel_rfl, ⟨rfl, rfl, rfl, rfl, rfl, rfl⟩⟩
noncomputable def D_head_size : Bd F_head_size := ⟨_, rfl⟩
theorem G_size_at : Glob "size_at" (.ref 135) := ⟨fun _ => rfl, fun _ => by kernel_rfl, by decide⟩
noncomputable def F_size_at : Fn 135 := ⟨_, fun _ => ⟨_, rfl, rfl⟩, fun _ => by kernel_rfl, ⟨rfl, rfl, rfl, rfl, rfl, rfl⟩⟩
noncomputable def D_size_at : Bd F_size_at := ⟨_, rfl⟩
theorem G_place_at : Glob "place_at" (.ref 142) := ⟨fun _ => rfl, fun _ => by kernel_rfl, by decide⟩
noncomputable def F_place_at : Fn 142 := ⟨_, fun _ => ⟨_, rfl, rfl⟩, fun _ => by kernel_rfl, ⟨rfl, rfl, rfl, rfl, rfl, rfl⟩⟩
noncomputable def D_place_at : Bd F_place_at := ⟨_, rfl⟩
theorem G_read_heads : Glob "read_heads" (.ref 149) := ⟨fun _ => rfl, fun _ => by kernel_rfl, by decide⟩
noncomputable def F_read_heads : Fn 149 := ⟨_, fun _ => ⟨_, rfl, rfl⟩, fun _ => by kernel_rfl, ⟨rfl, rfl, rfl, rfl, rfl, rfl⟩⟩
noncomputable def D_read_heads : Bd F_read_heads := ⟨_, rfl⟩
theorem G_read_ipv6 : Glob "read_ipv6" (.ref 156) := ⟨fun _ => rfl, fun _ => by kernel_rfl, by decide⟩
noncomputable def F_read_ipv6 : Fn 156 := ⟨_, fun _ => ⟨_, rfl, rfl⟩, fun _ => by kernel_rfl, ⟨rfl, rfl, rfl, rfl, rfl, rfl⟩⟩
noncomputable def D_read_ipv6 : Bd F_read_ipv6 := ⟨_, rfl⟩
theorem G_write_heads : Glob "write_heads" (.ref 163) := ⟨fun _ => rfl, fun _ => by kernel_rfl, by decide⟩
noncomputable def F_write_heads : Fn 163 := ⟨_, fun _ => ⟨_, rfl, rfl⟩, fun _ => by kernel_rfl, ⟨rfl, rfl, rfl, rfl, rfl, rfl⟩⟩
noncomputable def D_write_heads : Bd F_write_heads := ⟨_, rfl⟩
theorem G_write_ipv6 : Glob "write_ipv6" (.ref 170) := ⟨fun _ => rfl, fun _ => by kernel_rfl, by decide⟩
noncomputable def F_write_ipv6 : Fn 170 := ⟨_, fun _ => ⟨_, rfl, rfl⟩, fun _ => by kernel_rfl, ⟨rfl, rfl, rfl, rfl, rfl, rfl⟩⟩
noncomputable def D_write_ipv6 : Bd F_write_ipv6 := ⟨_, rfl⟩
theorem G_look6 : Glob "look6" (.ref 177) := ⟨fun _ => rfl, fun _ => by kernel_rfl, by decide⟩
noncomputable def F_look6 : Fn 177 := ⟨_, fun _ => ⟨_, rfl, rfl⟩, fun _ => by kernel_rfl, ⟨rfl, rfl, rfl, rfl, rfl, rfl⟩⟩
noncomputable def D_look6 : Bd F_look6 := ⟨_, rfl⟩
theorem G_Ip4 : Glob "Ip4" (.ref 194) := ⟨fun _ => rfl, fun _ => by kernel_rfl, by decide⟩
theorem G_head_of : Glob "head_of" (.ref 205) := ⟨fun _ => rfl, fun _ => by kernel_rfl, by decide⟩
noncomputable def F_head_of : Fn 205 := ⟨_, fun _ => ⟨_, rfl, rfl⟩, fun _ => by kernel_rfl, ⟨rfl, rfl, rfl, rfl, rfl, rfl⟩⟩
noncomputable def D_head_of : Bd F_head_of := ⟨_, rfl⟩
theorem G_read_ipv4 : Glob "read_ipv4" (.ref 212) := ⟨fun _ => rfl, fun _ => by kernel_rfl, by decide⟩
noncomputable def F_read_ipv4 : Fn 212 := ⟨_, fun _ => ⟨_, rfl, rfl⟩, fun _ => by kernel_rfl, ⟨rfl, rfl, rfl, rfl, rfl, rfl⟩⟩
noncomputable def D_read_ipv4 : Bd F_read_ipv4 := ⟨_, rfl⟩
theorem G_total_of : Glob "total_of" (.ref 219) := ⟨fun _ => rfl, fun _ => by kernel_rfl, by decide⟩
noncomputable def F_total_of : Fn 219 := ⟨_, fun _ => ⟨_, rfl, rfl⟩, fun _ => by kernel_rfl, ⟨rfl, rfl, rfl, rfl, rfl, rfl⟩⟩
noncomputable def D_total_of : Bd F_total_of := ⟨_, rfl⟩
theorem G_check_lengths : Glob "check_lengths" (.ref 226) := ⟨fun _ => rfl, fun _ => by kernel_rfl, by decide⟩
noncomputable def F_check_lengths : Fn 226 := ⟨_, fun _ => ⟨_, rfl, rfl⟩, fun _ => by kernel_rfl, ⟨rfl, rfl, rfl, rfl, rfl, rfl⟩⟩
noncomputable def D_check_lengths : Bd F_check_lengths := ⟨_, rfl⟩
theorem G_write_ipv4 : Glob "write_ipv4" (.ref 233) := ⟨fun _ => rfl, fun _ => by kernel_rfl, by decide⟩
noncomputable def F_write_ipv4 : Fn 233 := ⟨_, fun _ => ⟨_, rfl, rfl⟩, fun _ => by kernel_rfl, ⟨rfl, rfl, rfl, rfl, rfl, rfl⟩⟩
noncomputable def D_write_ipv4 : Bd F_write_ipv4 := ⟨_, rfl⟩
theorem G_look4 : Glob "look4" (.ref 240) := ⟨fun _ => rfl, fun _ => by kernel_rfl, by decide⟩
noncomputable def F_look4 : Fn 240 := ⟨_, fun _ => ⟨_, rfl, rfl⟩, fun _ => by kernel_rfl, ⟨rfl, rfl, rfl, rfl, rfl, rfl⟩⟩
noncomputable def D_look4 : Bd F_look4 := ⟨_, rfl⟩
theorem G_new_meta : Glob "new_meta" (.ref 247) := ⟨fun _ => rfl, fun _ => by kernel_rfl, by decide⟩
noncomputable def F_new_meta : Fn 247 := ⟨_, fun _ => ⟨_, rfl, rfl⟩, fun _ => by kernel_rfl, ⟨rfl, rfl, rfl, rfl, rfl, rfl⟩⟩
noncomputable def D_new_meta : Bd F_new_meta := ⟨_, rfl⟩
theorem G_Packet : Glob "Packet" (.ref 264) := ⟨fun _ => rfl, fun _ => by kernel_rfl, by decide⟩
theorem G_look : Glob "look" (.ref 275) := ⟨fun _ => rfl, fun _ => by kernel_rfl, by decide⟩
noncomputable def F_look : Fn 275 := ⟨_, fun _ => ⟨_, rfl, rfl⟩, fun _ => by kernel_rfl, ⟨rfl, rfl, rfl, rfl, rfl, rfl⟩⟩
noncomputable def D_look : Bd F_look := ⟨_, rfl⟩
theorem G_packet_of : Glob "packet_of" (.ref 283) := ⟨fun _ => rfl, fun _ => by kernel_rfl, by decide⟩
noncomputable def F_packet_of : Fn 283 := ⟨_, fun _ => ⟨_, rfl, rfl⟩, fun _ => by kernel_rfl, ⟨rfl, rfl, rfl, rfl, rfl, rfl⟩⟩
noncomputable def D_packet_of : Bd F_packet_of := ⟨_, rfl⟩
theorem G_law_digit : Glob "_law_digit" (.ref 290) := ⟨fun _ => rfl, fun _ => by kernel_rfl, by decide⟩
noncomputable def F_law_digit : Fn 290 := ⟨_, fun _ => ⟨_, rfl, rfl⟩, fun _ => by kernel_rfl, ⟨rfl, rfl, rfl, rfl, rfl, rfl⟩⟩
noncomputable def D_law_digit : Bd F_law_digit := ⟨_, rfl⟩
theorem G_law_octets : Glob "_law_octets" (.ref 295) := ⟨fun _ => rfl, fun _ => by kernel_rfl, by decide⟩
noncomputable def F_law_octets : Fn 295 := ⟨_, fun _ => ⟨_, rfl, rfl⟩, fun _ => by kernel_rfl, ⟨rfl, rfl, rfl, rfl, rfl, rfl⟩⟩
noncomputable def D_law_octets : Bd F_law_octets := ⟨_, rfl⟩
theorem G_law_number : Glob "_law_number" (.ref 300) := ⟨fun _ => rfl, fun _ => by kernel_rfl, by decide⟩
noncomputable def F_law_number : Fn 300 := ⟨_, fun _ => ⟨_, rfl, rfl⟩, fun _ => by kernel_rfl, ⟨rfl, rfl, rfl, rfl, rfl, rfl⟩⟩
noncomputable def D_law_number : Bd F_law_number := ⟨_, rfl⟩
theorem G_law_words : Glob "_law_words" (.ref 305) := ⟨fun _ => rfl, fun _ => by kernel_rfl, by decide⟩
noncomputable def F_law_words : Fn 305 := ⟨_, fun _ => ⟨_, rfl, rfl⟩, fun _ => by kernel_rfl, ⟨rfl, rfl, rfl, rfl, rfl, rfl⟩⟩
noncomputable def D_law_words : Bd F_law_words := ⟨_, rfl⟩
theorem G_law_bent : Glob "_law_bent" (.ref 312) := ⟨fun _ => rfl, fun _ => by kernel_rfl, by decide⟩
noncomputable def F_law_bent : Fn 312 := ⟨_, fun _ => ⟨_, rfl, rfl⟩, fun _ => by kernel_rfl, ⟨rfl, rfl, rfl, rfl, rfl, rfl⟩⟩
noncomputable def D_law_bent : Bd F_law_bent := ⟨_, rfl⟩
theorem G_law_summed : Glob "_law_summed" (.ref 319) := ⟨fun _ => rfl, fun _ => by kernel_rfl, by decide⟩
noncomputable def F_law_summed : Fn 319 := ⟨_, fun _ => ⟨_, rfl, rfl⟩, fun _ => by kernel_rfl, ⟨rfl, rfl, rfl, rfl, rfl, rfl⟩⟩
noncomputable def D_law_summed : Bd F_law_summed := ⟨_, rfl⟩
theorem G_law_four : Glob "_law_four" (.ref 324) := ⟨fun _ => rfl, fun _ => by kernel_rfl, by decide⟩
noncomputable def F_law_four : Fn 324 := ⟨_, fun _ => ⟨_, rfl, rfl⟩, fun _ => by kernel_rfl, ⟨rfl, rfl, rfl, rfl, rfl, rfl⟩⟩
noncomputable def D_law_four : Bd F_law_four := ⟨_, rfl⟩
theorem G_law_six : Glob "_law_six" (.ref 329) := ⟨fun _ => rfl, fun _ => by kernel_rfl, by decide⟩
noncomputable def F_law_six : Fn 329 := ⟨_, fun _ => ⟨_, rfl, rfl⟩, fun _ => by kernel_rfl, ⟨rfl, rfl, rfl, rfl, rfl, rfl⟩⟩
noncomputable def D_law_six : Bd F_law_six := ⟨_, rfl⟩
theorem G_law_told : Glob "_law_told" (.ref 336) := ⟨fun _ => rfl, fun _ => by kernel_rfl, by decide⟩
noncomputable def F_law_told : Fn 336 := ⟨_, fun _ => ⟨_, rfl, rfl⟩, fun _ => by kernel_rfl, ⟨rfl, rfl, rfl, rfl, rfl, rfl⟩⟩
noncomputable def D_law_told : Bd F_law_told := ⟨_, rfl⟩
theorem G_law_cuts : Glob "_law_cuts" (.ref 341) := ⟨fun _ => rfl, fun _ => by kernel_rfl, by decide⟩
noncomputable def F_law_cuts : Fn 341 := ⟨_, fun _ => ⟨_, rfl, rfl⟩, fun _ => by kernel_rfl, ⟨rfl, rfl, rfl, rfl, rfl, rfl⟩⟩
noncomputable def D_law_cuts : Bd F_law_cuts := ⟨_, rfl⟩
theorem G_law_is_packet : Glob "_law_is_packet" (.ref 348) := ⟨fun _ => rfl, fun _ => by kernel_rfl, by decide⟩
noncomputable def F_law_is_packet : Fn 348 := ⟨_, fun _ => ⟨_, rfl, rfl⟩, fun _ => by kernel_rfl, ⟨rfl, rfl, rfl, rfl, rfl, rfl⟩⟩
noncomputable def D_law_is_packet : Bd F_law_is_packet := ⟨_, rfl⟩
theorem G_law_is_steady : Glob "_law_is_steady" (.ref 355) := ⟨fun _ => rfl, fun _ => by kernel_rfl, by decide⟩
noncomputable def F_law_is_steady : Fn 355 := ⟨_, fun _ => ⟨_, rfl, rfl⟩, fun _ => by kernel_rfl, ⟨rfl, rfl, rfl, rfl, rfl, rfl⟩⟩
noncomputable def D_law_is_steady : Bd F_law_is_steady := ⟨_, rfl⟩
theorem G_law_four_right : Glob "_law_four_right" (.ref 362) := ⟨fun _ => rfl, fun _ => by kernel_rfl, by decide⟩
noncomputable def F_law_four_right : Fn 362 := ⟨_, fun _ => ⟨_, rfl, rfl⟩, fun _ => by kernel_rfl, ⟨rfl, rfl, rfl, rfl, rfl, rfl⟩⟩
noncomputable def D_law_four_right : Bd F_law_four_right := ⟨_, rfl⟩
theorem G_law_six_right : Glob "_law_six_right" (.ref 367) := ⟨fun _ => rfl, fun _ => by kernel_rfl, by decide⟩
noncomputable def F_law_six_right : Fn 367 := ⟨_, fun _ => ⟨_, rfl, rfl⟩, fun _ => by kernel_rfl, ⟨rfl, rfl, rfl, rfl, rfl, rfl⟩⟩
noncomputable def D_law_six_right : Bd F_law_six_right := ⟨_, rfl⟩
theorem G_law_main : Glob "law" (.ref 374) := ⟨fun _ => rfl, fun _ => by kernel_rfl, by decide⟩
noncomputable def F_law_main : Fn 374 := ⟨_, fun _ => ⟨_, rfl, rfl⟩, fun _ => by kernel_rfl, ⟨rfl, rfl, rfl, rfl, rfl, rfl⟩⟩
noncomputable def D_law_main : Bd F_law_main := ⟨_, rfl⟩
theorem B_len : Blt "len" (.builtin "len") := ⟨fun _ => rfl, rfl, by decide, by decide⟩
theorem B_sum : Blt "sum" (.builtin "sum") := ⟨fun _ => rfl, rfl, by decide, by decide⟩
theorem B_sorted : Blt "sorted" (.builtin "sorted") := ⟨fun _ => rfl, rfl, by decide, by decide⟩
theorem B_isinstance : Blt "isinstance" (.builtin "isinstance") := ⟨fun _ => rfl, rfl, by decide, by decide⟩
theorem B_range : Blt "range" (.type "range") := ⟨fun _ => rfl, rfl, by decide, by decide⟩
theorem B_bytes : Blt "bytes" (.type "bytes") := ⟨fun _ => rfl, rfl, by decide, by decide⟩
theorem B_list : Blt "list" (.type "list") := ⟨fun _ => rfl, rfl, by decide, by decide⟩
theorem B_set : Blt "set" (.type "set") := ⟨fun _ => rfl, rfl, by decide, by decide⟩
theorem B_enumerate : Blt "enumerate" (.type "enumerate") := ⟨fun _ => rfl, rfl, by decide, by decide⟩
theorem B_bytearray : Blt "bytearray" (.type "bytearray") := ⟨fun _ => rfl, rfl, by decide, by decide⟩
theorem B_str : Blt "str" (.type "str") := ⟨fun _ => rfl, rfl, by decide, by decide⟩
end
section
open PySem PySem.W PySem.Calls PyProof.Rows
noncomputable abbrev lk (ρ : PEnv) (x : Str) : Option PV := ρ.lookup x
theorem map_get {α β : Type} {f : α → β} {l : List α} {i : Nat} {p : β} (h : (l.map f)[i]? = some p) : ∃ x, l[i]? = some x ∧ p = f x ∧ i < l.length := by
  rw [List.getElem?_map] at h
  cases q : l[i]? with
  | none => rw [q] at h; cases h
  | some x => rw [q] at h; cases h; exact ⟨x, rfl, rfl, (List.getElem?_eq_some_iff.mp q).1⟩
section
variable {c : Cx} {ρ : PEnv} {Q : PV → Prop} {X : PX → Prop}
noncomputable def AsInt (Q : Int → Prop) (p : PV) : Prop := ∃ i, p = .int i ∧ Q i
theorem AsInt.mk {Q : Int → Prop} {i : Int} (h : Q i) : AsInt Q (.int i) := ⟨i, rfl, h⟩
theorem EvO_none {QO : Option Int → Prop} (h : QO none) : EvO c ρ none QO X := h
theorem EvO_some {e : Expr} {QO : Option Int → Prop} (h : Ev c ρ (eval e c.env) (AsInt fun i => QO (some i)) X) : EvO c ρ (some e) QO X :=
  Ev.mono h (fun p ⟨i, e, q⟩ => by subst e; exact q) fun _ x => x
theorem Ev_neg' {e : Expr} {pos : Pos} (h : Ev c ρ (eval e c.env) (AsInt fun i => Q (.int (-i))) X) : Ev c ρ (eval (.UnaryOp .USub e pos) c.env) Q X :=
  Ev_neg (Ev.mono h (fun p ⟨i, e, q⟩ => by subst e; exact q) fun _ x => x)
theorem ite_d {p : Prop} [Decidable p] {A B : Prop} (h1 : p → A) (h2 : ¬p → B) : if decide p = true then A else B := by
  by_cases h : p
  · rw [if_pos (decide_eq_true h)]; exact h1 h
  · rw [if_neg (by rw [decide_eq_false h]; decide)]; exact h2 h
theorem ite_eq {x y : Int} {A B : Prop} (h1 : x = y → A) (h2 : x ≠ y → B) : if (x == y) = true then A else B := by
  by_cases h : x = y
  · rw [if_pos (beq_iff_eq.mpr h)]; exact h1 h
  · rw [if_neg (by rw [beq_iff_eq]; exact h)]; exact h2 h
theorem ite_ne {x y : Int} {A B : Prop} (h1 : x ≠ y → A) (h2 : x = y → B) : if (x != y) = true then A else B := by
  by_cases h : x = y
  · rw [if_neg (by rw [bne_iff_ne]; exact fun z => z h)]; exact h2 h
  · rw [if_pos (by rw [bne_iff_ne]; exact h)]; exact h1 h
theorem ite_T {A B : Prop} (h : A) : if true = true then A else B := h
theorem ite_F {A B : Prop} (h : B) : if false = true then A else B := by rw [if_neg Bool.false_ne_true]; exact h
theorem ite_not {b : Bool} {A B : Prop} (h : if b = true then B else A) : if (!b) = true then A else B := by
  cases b <;> exact h
end
end
section
open PySem PySem.W PySem.Calls PyProof.Rows
section
variable {c : Cx} {F : Fm} {ρ : PEnv} {σ : Ow} {K : PK} {Q : PV → Prop} {X : PX → Prop} {QL : List PV → Prop} {x : Str} {p q : PV} {pos px py : Pos} {i : Int} {k : Nat} {e l r : Expr} {es : List Expr} {QT : Bool → Prop} {rest : List Stmt}
noncomputable abbrev nameOk (x : Str) : Prop := (x == ("__debug__" : Str)) = false ∧ (x == ("__classdict__" : Str)) = false
theorem Ev_nm (hp : ρ.lookup x = some p) (h : Q p) (hd : nameOk x := by decide) : Ev c ρ (eval (.Name x pos) c.env) Q X := Ev_name hp h hd.1 hd.2
theorem EvL_nm (hp : ρ.lookup x = some p) (h : EvL c ρ es (fun ps => QL (p :: ps)) X) (hd : nameOk x := by decide) : EvL c ρ (.Name x pos :: es) QL X := EvL_cons (Ev_nm hp h hd)
theorem EvL_nm1 (hp : ρ.lookup x = some p) (h : QL [p]) (hd : nameOk x := by decide) : EvL c ρ [.Name x pos] QL X := EvL_cons (Ev_nm hp (EvL_nil h) hd)
theorem EvL_i (h : EvL c ρ es (fun ps => QL (.int i :: ps)) X) : EvL c ρ (.Constant (.int i) k pos :: es) QL X := EvL_cons (Ev_int h)
theorem EvL_i1 (h : QL [.int i]) : EvL c ρ [.Constant (.int i) k pos] QL X := EvL_cons (Ev_int (EvL_nil h))
theorem Ev_bin_n {op : Operator} (hp : ρ.lookup x = some p) (h : Ev c ρ (eval r c.env) (fun b => V2 c (binaryOp op) p b Q X) X) (hd : nameOk x := by decide) : Ev c ρ (eval (.BinOp (.Name x px) op r pos) c.env) Q X := Ev_bin (Ev_nm hp h hd)
theorem Ev_bin_ni {op : Operator} (hp : ρ.lookup x = some p) (h : V2 c (binaryOp op) p (.int i) Q X) (hd : nameOk x := by decide) : Ev c ρ (eval (.BinOp (.Name x px) op (.Constant (.int i) k py) pos) c.env) Q X := Ev_bin_n hp (Ev_int h) hd
theorem Ev_bin_nn {y : Str} {op : Operator} (hp : ρ.lookup x = some p) (hq : ρ.lookup y = some q) (h : V2 c (binaryOp op) p q Q X) (hd : nameOk x := by decide) (he : nameOk y := by decide) : Ev c ρ (eval (.BinOp (.Name x px) op (.Name y py) pos) c.env) Q X := Ev_bin_n hp (Ev_nm hq h he) hd
theorem Ev_bin_i {op : Operator} (h : Ev c ρ (eval r c.env) (fun b => V2 c (binaryOp op) (.int i) b Q X) X) : Ev c ρ (eval (.BinOp (.Constant (.int i) k px) op r pos) c.env) Q X := Ev_bin (Ev_int h)
theorem Tr_cmp_n {op : CmpOp} {wh : Sem Value} (hp : ρ.lookup x = some p) (h : Ev c ρ (eval r c.env) (fun b => V2 c (compareOp op) p b (fun p => TV c p QT) X) X) (hd : nameOk x := by decide) (hm : behindInMarks op r = false := by with_unfolding_all rfl) :
    Tr c ρ (isTrue (.Compare (.Name x px) [op] [r] pos) c.env wh) QT X := Tr_cmp (Ev_nm hp h hd) hm
theorem Tr_cmp_ni {op : CmpOp} {wh : Sem Value} (hp : ρ.lookup x = some p) (h : V2 c (compareOp op) p (.int i) (fun p => TV c p QT) X) (hd : nameOk x := by decide) (hm : behindInMarks op (.Constant (.int i) k py) = false := by with_unfolding_all rfl) :
    Tr c ρ (isTrue (.Compare (.Name x px) [op] [.Constant (.int i) k py] pos) c.env wh) QT X := Tr_cmp_n hp (Ev_int h) hd hm
theorem Ev_cmp_n {op : CmpOp} (hp : ρ.lookup x = some p) (h : Ev c ρ (eval r c.env) (fun b => V2 c (compareOp op) p b Q X) X) (hd : nameOk x := by decide) (hm : behindInMarks op r = false := by with_unfolding_all rfl) :
    Ev c ρ (eval (.Compare (.Name x px) [op] [r] pos) c.env) Q X := Ev_cmp (Ev_nm hp h hd) hm
theorem Ev_item_n (hp : ρ.lookup x = some p) (h : Ev c ρ (eval r c.env) (fun b => ItemV c p b Q X) X) (hs : ∀ o k, subscripted r false o k = operate [o, k] (getItem o k)) (hd : nameOk x := by decide) : Ev c ρ (eval (.Subscript (.Name x px) r pos) c.env) Q X := Ev_item (Ev_nm hp h hd) hs
theorem Ev_item_ni (hp : ρ.lookup x = some p) (h : ItemV c p (.int i) Q X) (hd : nameOk x := by decide) : Ev c ρ (eval (.Subscript (.Name x px) (.Constant (.int i) k py) pos) c.env) Q X := Ev_item_n hp (Ev_int h) (fun _ _ => rfl) hd
theorem Ev_item_nn {y : Str} (hp : ρ.lookup x = some p) (hq : ρ.lookup y = some q) (h : ItemV c p q Q X) (hd : nameOk x := by decide) (he : nameOk y := by decide) : Ev c ρ (eval (.Subscript (.Name x px) (.Name y py) pos) c.env) Q X := Ev_item_n hp (Ev_nm hq h he) (fun _ _ => rfl) hd
theorem Ev_cut_n {lo hi : Option Expr} (hp : ρ.lookup x = some p) (h : EvO c ρ lo (fun lo => EvO c ρ hi (fun hi => CutV c p lo hi Q X) X) X) (hd : nameOk x := by decide) : Ev c ρ (eval (.Subscript (.Name x px) (.Slice lo hi none py) pos) c.env) Q X := Ev_cut (Ev_nm hp h hd)
theorem EvO_i {QO : Option Int → Prop} (h : QO (some i)) : EvO c ρ (some (.Constant (.int i) k pos)) QO X := EvO_some (Ev_int (AsInt.mk h))
theorem EvO_nm {QO : Option Int → Prop} (hp : ρ.lookup x = some (.int i)) (h : QO (some i)) (hd : nameOk x := by decide) : EvO c ρ (some (.Name x pos)) QO X := EvO_some (Ev_nm hp (AsInt.mk h) hd)
theorem Sx_asg (hx : Slot1 c σ x) (h : Ev c ρ (eval e c.env) (fun p => Sx c F ((x, p) :: ρ) σ (execs rest c.env) K) K.exc) (hs : swapsWith e (some (.Name x px)) pos.line c.env = pure false) :
    Sx c F ρ σ (execs (.Assign [.Name x px] e pos :: rest) c.env) K := Sx_cons (Sx_assign hx h hs)
theorem Sx_rt (h : Ev c ρ (eval e c.env) (fun p => K.ret p σ) K.exc) : Sx c F ρ σ (execs (.Return (some e) pos :: rest) c.env) K := Sx_cons (Sx_ret h)
theorem Sx_iff {t : Expr} {b o : List Stmt} (h : Tr c ρ (isTrue t c.env (eval t c.env)) (fun z => if z then Sx c F ρ σ (execs b c.env) (K.seq c F rest) else Sx c F ρ σ (execs o c.env) (K.seq c F rest)) K.exc) :
    Sx c F ρ σ (execs (.If t b o pos :: rest) c.env) K := Sx_cons (Sx_if h)
theorem ite_dT {p : Prop} [Decidable p] {A B : Prop} (h : p) (a : A) : if decide p = true then A else B := (if_pos (decide_eq_true h)).symm ▸ a
theorem ite_dF {p : Prop} [Decidable p] {A B : Prop} (h : ¬p) (b : B) : if decide p = true then A else B := (if_neg (fun z => h (of_decide_eq_true z))).symm ▸ b
theorem ite_nT {x y : Int} {A B : Prop} (h : x ≠ y) (a : A) : if (x != y) = true then A else B := (if_pos (bne_iff_ne.mpr h)).symm ▸ a
theorem ite_nF {x y : Int} {A B : Prop} (h : x = y) (b : B) : if (x != y) = true then A else B := (if_neg (fun z => (bne_iff_ne.mp z) h)).symm ▸ b
end
end
section
open PySem PySem.W PySem.Calls PyProof.Rows
section
variable {c : Cx} {Q : PV → Prop} {X : PX → Prop}
theorem number_of_spec {p : PV} {l : List Int} (ht : c.Txt) (hn : 1 ≤ c.n) (hb : Buf p l) (ho : Octs l) (hl : l.length ≤ 1000) (hQ : Q (.int (num l))) : CallV c (.ref 65) [p] Q X := by
  refine call1 F_number_of D_number_of ht hn "octets" (fun v => rfl) rfl fun N F hmu hout => ?_
  dsimp only [D_number_of]
  refine Sx_asg (Slot1.loc rfl) ?_ rfl
  refine Ev_int ?_
  refine Sx_cons ?_
  refine Sx_for (Ev_name (p := p) rfl ⟨_, iters_buf hb, ?_⟩)
  refine Loop_inv (fun i ρ σ => σ = none ∧ lk ρ "number" = some (.int (num (l.take i)))) ⟨rfl, rfl⟩ ?_ ?_
  · rintro i p ρ σ hp ⟨rfl, h1⟩
    obtain ⟨x, hx, rfl, hi⟩ := map_get hp
    have hx2 := ho.get hx
    have hr := num_range (ho.take i)
    rw [List.length_take, Nat.min_eq_left (Nat.le_of_lt hi), pow256] at hr
    refine ⟨Slot1.loc rfl, ?_⟩
    refine Sx_asg (Slot1.loc rfl) ?_ rfl
    refine Ev_bin ?_
    refine Ev_bin_ni (by assumption) ?_
    refine lshift_int (by decide) ?_ ?_
    · have := bits_le hr.1 hr.2
      lia
    refine Ev_nm rfl ?_
    refine or_int ?_
    refine Sx_nil ?_
    rw [show (Int.toNat 8) = 8 by rfl, or_low 8 _ _ hx2.1 (by rw [show (2 : Int) ^ 8 = 256 by decide]; exact hx2.2)]
    refine ⟨rfl, ?_⟩
    rw [List.take_succ, hx]
    show _ = some (PV.int (num (l.take i ++ [x])))
    rw [num_snoc]; rfl
  · rintro ρ σ ⟨rfl, h1⟩
    rw [List.length_map, List.take_length] at h1
    refine Sx_rt ?_
    refine Ev_nm (by assumption) ?_
    exact hQ
end
theorem fdiv_pow2 (x : Int) (k : Nat) : x.fdiv (2 ^ k) = x / 2 ^ k := Int.fdiv_eq_ediv_of_nonneg _ (Int.pow_nonneg (by decide))
theorem fmod_pos (x : Int) {y : Int} (h : 0 ≤ y) : x.fmod y = x % y := Int.fmod_eq_emod_of_nonneg _ h
theorem fdiv_pos (x : Int) {y : Int} (h : 0 ≤ y) : x.fdiv y = x / y := Int.fdiv_eq_ediv_of_nonneg _ h
theorem shr_lit (x : Int) (k : Nat) : x.fdiv (2 ^ (Int.toNat (k : Int))) = x / 2 ^ k := by rw [Int.toNat_natCast, fdiv_pow2]
section
variable {c : Cx} {Q : PV → Prop} {X : PX → Prop}
theorem fold_step {t : Int} (h0 : 0 ≤ t) : fold (t % 65536 + t / 65536) = fold t ∧ 0 ≤ t % 65536 + t / 65536 := by
  have e := Int.mul_ediv_add_emod t 65536
  have r0 := Int.emod_nonneg t (show (65536 : Int) ≠ 0 by decide)
  have q0 := Int.ediv_nonneg h0 (show (0 : Int) ≤ 65536 by decide)
  generalize t / 65536 = q at e q0 ⊢
  generalize t % 65536 = r at e r0 ⊢
  subst e
  refine ⟨?_, Int.add_nonneg r0 q0⟩
  unfold fold
  by_cases h : r + q = 0
  · obtain rfl : q = 0 := by lia
    obtain rfl : r = 0 := by lia
    decide
  · rw [if_neg h, if_neg (by lia), show 65536 * q + r - 1 = 65535 * q + (r + q - 1) by lia, Int.mul_add_emod_self_left]
theorem fold_less {u : Int} {n : Nat} (h2 : u / 65536 ≠ 0) (h : 4 ≤ n ∧ u < 2 ^ 31 ∨ n = 3 ∧ u < 2 ^ 17 ∨ n = 2 ∧ u ≤ 2 ^ 16 ∨ n = 1 ∧ u < 2 ^ 16) (u0 : 0 ≤ u) :
    4 ≤ n - 1 ∧ u % 65536 + u / 65536 < 2 ^ 31 ∨ n - 1 = 3 ∧ u % 65536 + u / 65536 < 2 ^ 17 ∨ n - 1 = 2 ∧ u % 65536 + u / 65536 ≤ 2 ^ 16 ∨ n - 1 = 1 ∧ u % 65536 + u / 65536 < 2 ^ 16 := by
  have e := Int.mul_ediv_add_emod u 65536
  have r0 := Int.emod_nonneg u (show (65536 : Int) ≠ 0 by decide)
  have r1 := Int.emod_lt_of_pos u (show (0 : Int) < 65536 by decide)
  have q0 := Int.ediv_nonneg u0 (show (0 : Int) ≤ 65536 by decide)
  generalize u / 65536 = q at h2 e q0 ⊢
  generalize u % 65536 = r at e r0 r1 ⊢
  subst e
  rcases h with ⟨a, b⟩ | ⟨rfl, b⟩ | ⟨rfl, b⟩ | ⟨rfl, b⟩
  · have : r + q < 2 ^ 17 := by lia
    rcases Nat.lt_or_eq_of_le a with h | rfl
    · exact .inl ⟨Nat.le_sub_one_of_lt h, Int.lt_trans this (by decide)⟩
    · exact .inr (.inl ⟨rfl, this⟩)
  · exact .inr (.inr (.inl ⟨rfl, by lia⟩))
  · exact .inr (.inr (.inr ⟨rfl, by lia⟩))
  · exact absurd b (by lia)
inductive InvFo (t : Int) (n : Nat) (ρ : PEnv) (σ : Ow) : Prop
  | mk (e : σ = none) (u : Int) (q1 : lk ρ "total" = some (.int u)) (q2 : 0 ≤ u) (q3 : fold u = fold t) (q4 : 4 ≤ n ∧ u < 2 ^ 31 ∨ n = 3 ∧ u < 2 ^ 17 ∨ n = 2 ∧ u ≤ 2 ^ 16 ∨ n = 1 ∧ u < 2 ^ 16)
theorem folded_spec {t : Int} (ht : c.Txt) (hn : 1 ≤ c.n) (h0 : 0 ≤ t) (h1 : t < 2 ^ 31) (hQ : Q (.int (fold t))) : CallV c (.ref 84) [.int t] Q X := by
  refine call1 F_folded D_folded ht hn "total" (fun v => rfl) rfl fun N F hmu hout => ?_
  dsimp only [D_folded]
  refine Sx_cons ?_
  refine Sx_while 4 (LoopW_inv (InvFo t) ?_ ?_ 4 _ _ ⟨rfl, t, rfl, h0, rfl, .inl ⟨by decide, h1⟩⟩)
  · rintro ρ σ ⟨-, u, -, -, -, h⟩; lia
  rintro n ρ σ ⟨rfl, u, hu, u0, hf, h⟩
  refine Tr_cmp ?_
  refine Ev_bin_ni (by assumption) ?_
  refine rshift_int (by decide) ?_
  refine Ev_int ?_
  refine ne_int ?_
  refine TV_bool ?_
  rw [show u.fdiv (2 ^ Int.toNat 16) = u / 65536 from shr_lit u 16]
  refine ite_ne (fun h2 => ?_) (fun h2 => ?_)
  · refine Sx_asg (Slot1.loc rfl) ?_ rfl
    refine Ev_bin ?_
    refine Ev_bin_ni (by assumption) ?_
    refine and_int ?_
    refine Ev_bin_ni (by assumption) ?_
    refine rshift_int (by decide) ?_
    refine add_int ?_
    refine Sx_nil ?_
    rw [show u.fdiv (2 ^ Int.toNat 16) = u / 65536 from shr_lit u 16, bitAnd_m16]
    obtain ⟨a, b⟩ := fold_step u0
    exact ⟨rfl, _, rfl, b, a.trans hf, fold_less h2 h u0⟩
  · refine Sx_rt ?_
    refine Ev_nm (by assumption) ?_
    have hu2 : u < 65536 := by lia
    have : fold u = u := by
      unfold fold
      by_cases q : u = 0
      · rw [if_pos q, q]
      · rw [if_neg q]; lia
    rw [← hf, this] at hQ; exact hQ

theorem sum16_go {l : List Int} (ht : c.Txt) (hn : 2 ≤ c.n) (ho : Octs l) (hl : l.length ≤ 1000) (h1 : 1 ≤ l.length) (hQ : Q (.int (fold (words l)))) {N : Addr} {F : Fm} (hout : F.outer = c.l) :
    Sx (inside c F_sum16.fd N 92) F [("octets", .bytes l), ("start", .int 0)] none (execs D_sum16.1 (inside c F_sum16.fd N 92).env) (PK.fn Q X) := by
  dsimp only [D_sum16]
  refine Sx_asg (Slot1.loc rfl) ?_ rfl
  refine Ev_nm rfl ?_
  refine Sx_cons ?_
  refine Sx_for ?_
  refine Ev_t B_range ht ?_
  refine EvL_i ?_
  refine EvL_cons ?_
  refine Ev_bin ?_
  refine Ev_b B_len ht ?_
  refine EvL_nm1 rfl ?_
  refine len_buf (.inl rfl) (by lia) ?_
  refine Ev_int ?_
  refine sub_int ?_
  refine EvL_i1 ?_
  refine range_3 (by decide) (PyProof.noPylong_small (by decide)) ?_
  refine ⟨_, iters_r2 (by lia) (by lia), ?_⟩
  rw [show ((l.length : Int) - 1 + 1) / 2 = ((l.length / 2 : Nat) : Int) by lia, Int.toNat_natCast]
  refine Loop_inv (fun i ρ σ => σ = none ∧ lk ρ "octets" = some (.bytes l) ∧ lk ρ "total" = some (.int (words (l.take (2 * i))))) ⟨rfl, rfl, rfl⟩ ?_ ?_
  · rintro i p ρ σ hp ⟨rfl, h2, h3⟩
    obtain ⟨hi, rfl⟩ := range_get hp
    have a1 := at0_some (l := l) (i := 2 * (i : Int)) (by lia) (by lia)
    have a2 := at0_some (l := l) (i := 2 * (i : Int) + 1) (by lia) (by lia)
    have r1 := at0_range ho (2 * (i : Int))
    have r2 := at0_range ho (2 * (i : Int) + 1)
    refine ⟨Slot1.loc rfl, ?_⟩
    refine Sx_asg (Slot1.loc rfl) ?_ rfl
    refine Ev_bin_n (by assumption) ?_
    refine Ev_bin ?_
    refine Ev_bin ?_
    refine Ev_item_nn (by assumption) rfl ?_
    refine item_buf (.inl rfl) (by lia) (by lia) a1 ?_
    refine Ev_int ?_
    refine lshift_int (by decide) (by have := bits_le (k := 8) r1.1 (by lia); lia) ?_
    refine Ev_item_n (by assumption) ?_ fun _ _ => rfl
    refine Ev_bin_ni rfl ?_
    refine add_int ?_
    refine item_buf (.inl rfl) (by lia) (by lia) a2 ?_
    refine or_int ?_
    refine add_int ?_
    refine Sx_nil ?_
    rw [show (Int.toNat 8) = 8 by rfl, or_low 8 _ _ r2.1 (by lia)]
    refine ⟨rfl, h2, ?_⟩
    rw [show (2 * (i : Int)).toNat = 2 * i by lia] at a1
    rw [show (2 * (i : Int) + 1).toNat = 2 * i + 1 by lia] at a2
    rw [show 2 * (i + 1) = 2 * i + 2 by lia, take_two a1 a2, words_even _ _ (by rw [List.length_take]; lia)]
    show some (PV.int _) = _
    simp only [words]; congr 2; lia
  · rintro ρ σ ⟨rfl, h2, h3⟩
    rw [List.length_map, List.length_range] at h3
    have hr := words_range ho
    refine Sx_iff ?_
    refine Tr_cmp ?_
    refine Ev_bin ?_
    refine Ev_b B_len ht ?_
    refine EvL_nm1 (by assumption) ?_
    refine len_buf (.inl rfl) (by lia) ?_
    refine Ev_int ?_
    refine mod_int (by decide) ?_
    refine Ev_int ?_
    refine eq_int ?_
    refine TV_bool ?_
    rw [fmod_pos _ (by decide)]
    refine ite_eq (fun hp => ?_) (fun hp => ?_)
    · have a1 := at0_some (l := l) (i := (l.length : Int) - 1) (by lia) (by lia)
      have r1 := at0_range ho ((l.length : Int) - 1)
      refine Sx_asg (Slot1.loc rfl) ?_ rfl
      refine Ev_bin_n (by assumption) ?_
      refine Ev_bin ?_
      refine Ev_item_n (by assumption) ?_ fun _ _ => rfl
      refine Ev_bin ?_
      refine Ev_b B_len ht ?_
      refine EvL_nm1 (by assumption) ?_
      refine len_buf (.inl rfl) (by lia) ?_
      refine Ev_int ?_
      refine sub_int ?_
      refine item_buf (.inl rfl) (by lia) (by lia) a1 ?_
      refine Ev_int ?_
      refine lshift_int (by decide) (by have := bits_le (k := 8) r1.1 (by lia); lia) ?_
      refine add_int ?_
      refine Sx_nil ?_
      refine Sx_rt ?_
      refine Ev_f G_folded ht ?_
      refine EvL_nm1 rfl ?_
      have e : words (l.take (2 * (l.length / 2))) + at0 l (l.length - 1) * 2 ^ Int.toNat 8 = words l := by
        rw [show ((l.length : Int) - 1).toNat = 2 * (l.length / 2) by lia] at a1
        conv => rhs; rw [← List.take_append_drop (2 * (l.length / 2)) l, words_even _ _ (by rw [List.length_take]; lia)]
        rw [show l.drop (2 * (l.length / 2)) = [at0 l (l.length - 1)] by
          rw [List.drop_eq_getElem_cons (by lia), List.drop_eq_nil_of_le (by lia)]
          rw [List.getElem?_eq_getElem (by lia)] at a1
          rw [Option.some.inj a1]]
        rfl
      rw [e]
      exact folded_spec ht (by show 1 ≤ c.n - 1; lia) hr.1 (by lia) hQ
    · refine Sx_nil ?_
      refine Sx_rt ?_
      refine Ev_f G_folded ht ?_
      refine EvL_nm1 (by assumption) ?_
      rw [List.take_of_length_le (by lia)]
      exact folded_spec ht (by show 1 ≤ c.n - 1; lia) hr.1 (by lia) hQ
theorem sum16_spec {l : List Int} (ht : c.Txt) (hn : 2 ≤ c.n) (ho : Octs l) (hl : l.length ≤ 1000) (h1 : 1 ≤ l.length) (hQ : Q (.int (fold (words l)))) : CallV c (.ref 92) [.bytes l] Q X :=
  call1D F_sum16 D_sum16 ht (by lia) "octets" "start" (q := .int 0) (fun P S v => by rfl) (fun I => .int _ _) ⟨rfl, rfl⟩ (by decide) fun N F _ hout => sum16_go ht hn ho hl h1 hQ hout
theorem sum16_spec2 {l : List Int} (ht : c.Txt) (hn : 2 ≤ c.n) (ho : Octs l) (hl : l.length ≤ 1000) (h1 : 1 ≤ l.length) (hQ : Q (.int (fold (words l)))) : CallV c (.ref 92) [.bytes l, .int 0] Q X :=
  call2K F_sum16 D_sum16 ht (by lia) "octets" "start" (fun P S v u => by rfl) ⟨rfl, rfl⟩ (by decide) fun N F _ hout => sum16_go ht hn ho hl h1 hQ hout
theorem check_of_spec {l : List Int} (ht : c.Txt) (hn : 3 ≤ c.n) (ho : Octs l) (hl : l.length ≤ 1000) (h1 : 1 ≤ l.length) (hQ : Q (.int (65535 - fold (words l)))) : CallV c (.ref 100) [.bytes l] Q X := by
  refine call1D F_check_of D_check_of ht (by lia) "octets" "start" (q := .int 0) (fun P S v => by rfl) (fun I => .int _ _) ⟨rfl, rfl⟩ (by decide) fun N F _ hout => ?_
  dsimp only [D_check_of]
  refine Sx_rt ?_
  refine Ev_bin_i ?_
  refine Ev_f G_sum16 ht ?_
  refine EvL_nm rfl ?_
  refine EvL_nm1 rfl ?_
  refine sum16_spec2 ht (by show 2 ≤ c.n - 1; lia) ho hl h1 ?_
  refine sub_int ?_
  exact hQ
end
section
variable {c : Cx} {Q : PV → Prop} {X : PX → Prop}
theorem lookup_mem {ρ : PEnv} {y : Str} {p : PV} (h : ρ.lookup y = some p) : (y, p) ∈ ρ := by
  induction ρ with
  | nil => cases h
  | cons e ρ ih =>
    rw [List.lookup_cons] at h
    by_cases q : y = e.1
    · rw [beq_iff_eq.mpr q] at h; cases h; rw [q]; exact .head _
    · rw [beq_eq_false_iff_ne.mpr q] at h; exact .tail _ (ih h)
noncomputable abbrev FreeIn (c : Cx) (scope : Scope) (cl : List (Str × Addr)) (xs : List Str) (ρ : PEnv) (y : Str) (p : PV) : Prop :=
  ρ.lookup y = some p ∧ xs.contains y = false ∧ scope.names.lookup y = some .free ∧ (c.env.kindOf y = some .cell ∨ c.env.kindOf y = some .free) ∧ cl.lookup y = c.env.cells.lookup y
noncomputable def FreeAll (c : Cx) (scope : Scope) (cl : List (Str × Addr)) (xs : List Str) (ρ : PEnv) : PEnv → Prop
  | [] => True
  | e :: r => FreeIn c scope cl xs ρ e.1 e.2 ∧ FreeAll c scope cl xs ρ r
theorem FreeAll.mem {scope : Scope} {cl : List (Str × Addr)} {xs : List Str} {ρ : PEnv} {e : Str × PV} : ∀ {ρc : PEnv}, FreeAll c scope cl xs ρ ρc → e ∈ ρc → FreeIn c scope cl xs ρ e.1 e.2
  | _, h, .head _ => h.1
  | _, h, .tail _ m => h.2.mem m
noncomputable abbrev scOk (scope : Scope) (xs : List Str) : Bool := scope.names.all (fun y => y.2 != .cell && (y.2 != .local || scope.names.lookup y.1 == some .local)) && xs.all fun x => scope.names.lookup x == some .local
theorem CompSc.of {scope : Scope} {cl : List (Str × Addr)} {xs : List Str} {ρ ρc : PEnv} (h1 : closureFor scope c.env = pure cl) (h2 : scOk scope xs = true) (h3 : scope.kind = .function) (h4 : FreeAll c scope cl xs ρ ρc) : CompSc c scope cl xs ρ ρc where
  clos := h1
  noCell := fun y hy => by
    have := List.all_eq_true.mp (Bool.and_eq_true_iff.mp h2).1 y hy
    simp only [Bool.and_eq_true, bne_iff_ne] at this; exact this.1
  kind := h3
  names := fun y hy e => by
    have := List.all_eq_true.mp (Bool.and_eq_true_iff.mp h2).1 y hy
    simp only [Bool.and_eq_true, Bool.or_eq_true, bne_iff_ne, beq_iff_eq] at this
    rcases this.2 with q | q
    · exact absurd e q
    · exact q
  loc := fun x hx => by
    have := List.all_eq_true.mp (Bool.and_eq_true_iff.mp h2).2 x hx
    exact beq_iff_eq.mp this
  free := fun y p h => by
    obtain ⟨a, b, d⟩ := h4.mem (lookup_mem h)
    exact ⟨a, (fun z => by rw [List.contains_iff_mem.mpr z] at b; exact Bool.noConfusion b), d⟩
theorem Ev_comp1 {ρ ρc : PEnv} {scope : Scope} {x : Str} {xp pos : Pos} {elt iter : Expr} (cl : List (Str × Addr)) (hc : CompSc c scope cl [x] ρ ρc)
    (h : Ev c ρ (eval iter c.env) (fun p => ∃ (items : List PV) (f : PV → PV), Iters c p items ∧ items.length ≤ 2 ^ 20 ∧ (∀ cl, CompSc c scope cl [x] ρ ρc → ∀ C, ∀ p ∈ items, Ev (c.comp scope cl C) ((x, p) :: ρc) (eval elt (c.comp scope cl C).env) (fun r => r = f p) fun _ => False) ∧ Q (.list (items.map f))) X)
    (hs : ∀ v, foldedSetIterable iter c.env v = pure v := by intro _; rfl) : Ev c ρ (eval (.ListComp elt [⟨.Name x xp, iter, [], 0⟩] scope pos) c.env) Q X :=
  Ev_comp (fun _ _ _ => ⟨cl, hc⟩) (Ev.mono h (fun p ⟨items, f, h1, h2, h3, h4⟩ => ⟨items, fun p => some (f p), h1, h2, fun cl S p hp => ⟨[(x, p)], .inl ⟨x, xp, rfl, rfl, rfl⟩, fun C => ⟨f p, rfl, h3 cl S C p hp⟩⟩, by rw [List.filterMap_eq_map']; exact h4⟩) fun _ z => z) hs

theorem Ev_compR {ρ ρc : PEnv} {scope : Scope} {x : Str} {xp pos : Pos} {elt iter : Expr} (cl : List (Str × Addr)) (hc : CompSc c scope cl [x] ρ ρc)
    (h : Ev c ρ (eval iter c.env) (fun p => ∃ (n : Int) (g : Nat → PV), p = .range 0 n 1 ∧ 0 ≤ n ∧ n ≤ 2 ^ 20 ∧ (∀ cl, CompSc c scope cl [x] ρ ρc → ∀ C i, i < n.toNat → Ev (c.comp scope cl C) ((x, .int (i : Int)) :: ρc) (eval elt (c.comp scope cl C).env) (fun r => r = g i) fun _ => False) ∧ Q (.list ((List.range n.toNat).map g))) X)
    (hs : ∀ v, foldedSetIterable iter c.env v = pure v := by intro _; rfl) : Ev c ρ (eval (.ListComp elt [⟨.Name x xp, iter, [], 0⟩] scope pos) c.env) Q X :=
  Ev_comp1 cl hc (Ev.mono h (fun p ⟨n, g, h0, h1, h2, h3, h4⟩ => ⟨(List.range n.toNat).map fun (k : Nat) => PV.int k, fun p => match p with | .int i => g i.toNat | _ => .none, by rw [h0]; exact iters_r1 h1 h2, by simp; lia, fun cl S C p hp => by
    obtain ⟨i, hi, rfl⟩ := List.mem_map.mp hp
    exact h3 cl S C i (List.mem_range.mp hi), by rw [List.map_map]; exact h4⟩) fun _ z => z) hs
theorem shift_and (n : Int) (k : Nat) : Builtin.bitAnd (n.fdiv (2 ^ (8 * k))) 255 = n / 256 ^ k % 256 := by rw [bitAnd_m8, fdiv_pow2, ← pow256]
theorem map_int (l : List Nat) (f : Nat → Int) : l.map (fun i => PV.int (f i)) = (l.map f).map .int := by rw [List.map_map]; rfl
theorem octets_of_spec {n : Int} {k : Nat} (ht : c.Txt) (hn : 2 ≤ c.n) (hk : k ≤ 16) (h0 : 0 ≤ n) (h1 : n < 256 ^ k) (hQ : Q (.bytes (dig n k))) : CallV c (.ref 70) [.int n, .int k] Q X := by
  refine call2 F_octets_of D_octets_of ht (by lia) "number" "size" (fun v u => rfl) ⟨rfl, rfl⟩ (by decide) fun N F hmu hout => ?_
  dsimp only [D_octets_of]
  refine Sx_iff ?_
  refine Tr_or ?_
  refine Tr_cmp_ni rfl ?_
  refine lt_int ?_
  refine TV_bool ?_
  refine ite_d (fun z => absurd z (by lia)) fun _ => ?_
  refine Tr_or ?_
  refine Tr_cmp ?_
  refine Ev_bin_n rfl ?_
  refine Ev_bin_i ?_
  refine Ev_nm rfl ?_
  refine mul_int (.of_left (by decide)) ?_
  refine rshift_int (by lia) ?_
  refine Ev_int ?_
  refine ne_int ?_
  refine TV_bool ?_
  have hp : n.fdiv (2 ^ (8 * (k : Int)).toNat) = 0 := by
    rw [fdiv_pow2, show (8 * (k : Int)).toNat = 8 * k by lia, ← pow256]
    exact Int.ediv_eq_zero_of_lt h0 h1
  rw [hp]
  refine ite_ne (fun z => absurd rfl z) fun _ => ?_
  refine Tr_or_nil ?_
  refine ite_F ?_
  refine Sx_nil ?_
  refine Sx_rt ?_
  refine Ev_t B_bytes ht ?_
  refine EvL_cons ?_
  refine Ev_compR (ρc := [("number", .int n), ("size", .int k)]) _ (.of rfl rfl rfl ⟨⟨rfl, rfl, rfl, .inl rfl, rfl⟩, ⟨rfl, rfl, rfl, .inl rfl, rfl⟩, trivial⟩) ?_
  refine Ev_t B_range ht ?_
  refine EvL_nm1 rfl ?_
  refine range_1 ?_
  refine ⟨_, fun p => .int (n / 256 ^ (k - 1 - p) % 256), rfl, by lia, by lia, ?_, ?_⟩
  · intro cl S C i hi
    refine Ev_bin ?_
    refine Ev_bin_n rfl ?_
    refine Ev_bin_i ?_
    refine Ev_bin ?_
    refine Ev_bin_ni rfl ?_
    refine sub_int ?_
    refine Ev_nm rfl ?_
    refine sub_int ?_
    refine mul_int (.of_left (by decide)) ?_
    refine rshift_int (by lia) ?_
    refine Ev_int ?_
    refine and_int ?_
    rw [show (8 * ((k : Int) - 1 - (i : Int))).toNat = 8 * (k - 1 - i) by lia, shift_and]
  · refine EvL_nil ?_
    rw [map_int]
    exact bytes_ints (dig_octs n k) (by show (dig n k).length ≤ _; rw [dig_length]; lia) hQ
theorem law_octets_spec {n k : Int} (ht : c.Txt) (hn : 2 ≤ c.n) (hk : k ≤ 64) (h0 : 0 ≤ k) (hQ : Q (.list ((dig n k.toNat).map .int))) : CallV c (.ref 295) [.int n, .int k] Q X := by
  refine call2 F_law_octets D_law_octets ht (by lia) "number" "many" (fun v u => rfl) ⟨rfl, rfl⟩ (by decide) fun N F hmu hout => ?_
  dsimp only [D_law_octets]
  refine Sx_rt ?_
  refine Ev_compR (ρc := [("number", .int n), ("many", .int k)]) _ (.of rfl rfl rfl ⟨⟨rfl, rfl, rfl, .inl rfl, rfl⟩, ⟨rfl, rfl, rfl, .inl rfl, rfl⟩, trivial⟩) ?_
  refine Ev_t B_range ht ?_
  refine EvL_nm1 rfl ?_
  refine range_1 ?_
  refine ⟨_, fun p => .int (n / 256 ^ (k.toNat - 1 - p) % 256), rfl, by lia, by lia, ?_, ?_⟩
  · intro cl S C i hi
    refine Ev_bin ?_
    refine Ev_bin_n rfl ?_
    refine Ev_bin_i ?_
    refine Ev_bin ?_
    refine Ev_bin_ni rfl ?_
    refine sub_int ?_
    refine Ev_nm rfl ?_
    refine sub_int ?_
    refine pow_int (by lia) (by decide) (by rw [show Builtin.Int.intBits 256 = 9 by decide +kernel]; lia) ?_
    have hp : (0 : Int) < 256 ^ (k - 1 - i).toNat := Int.pow_pos (by decide)
    refine fdiv_int (by lia) (PyProof.noPylong_of_log2 ?_) ?_
    · rw [Int.natAbs_pow, show (Int.natAbs 256) = 2 ^ 8 by decide, ← Nat.pow_mul, Nat.log2_two_pow]; lia
    refine Ev_int ?_
    refine mod_int (by decide) ?_
    rw [fdiv_pos _ (by lia), fmod_pos _ (by decide), show (k - 1 - (i : Int)).toNat = k.toNat - 1 - i by lia]
  · skip
    rw [map_int]
    exact hQ
end
noncomputable abbrev iL (l : List Int) : PV := .list (l.map .int)
section
variable {c : Cx} {Q : PV → Prop} {X : PX → Prop}
theorem cut_ints {l : List Int} {lo hi : Option Int} (hl : l.length ≤ 2 ^ 20) (q : Q (iL (cutL l lo hi))) : CutV c (iL l) lo hi Q X :=
  cut_list (by rw [List.length_map]; exact hl) (by rw [cutL_map]; exact q)
theorem add_ints {l m : List Int} (hz : l.length + m.length ≤ 2 ^ 20) (q : Q (iL (l ++ m))) : V2 c (binaryOp .Add) (iL l) (iL m) Q X :=
  add_list (by rw [List.length_map, List.length_map]; exact hz) (by rw [← List.map_append]; exact q)
theorem item_ints {l : List Int} {k x : Int} (h0 : 0 ≤ k) (hl : l.length ≤ 2 ^ 20) (hp : l[k.toNat]? = some x) (q : Q (.int x)) : ItemV c (iL l) (.int k) Q X :=
  item_list h0 (by rw [List.length_map]; exact hl) (by rw [List.getElem?_map, hp]; rfl) q
theorem len_ints {l : List Int} (hl : l.length ≤ 2 ^ 20) (q : Q (.int l.length)) : CallV c (.builtin "len") [iL l] Q X :=
  len_list (by rw [List.length_map]; exact hl) (by rw [List.length_map]; exact q)
theorem cutL_len {l : List Int} {a b : Option Int} : (cutL l a b).length ≤ l.length := by unfold cutL; rw [List.length_take, List.length_drop]; lia

theorem law_digit_spec {sc : List Int} {i : Int} (ht : c.Txt) (hn : 1 ≤ c.n) (hl : sc.length ≤ 2 ^ 20) (h0 : 0 ≤ i) (hQ : Q (.int (at0 sc i))) : CallV c (.ref 290) [iL sc, .int i] Q X := by
  refine call2 F_law_digit D_law_digit ht (by lia) "script" "place" (fun v u => rfl) ⟨rfl, rfl⟩ (by decide) fun N F hmu hout => ?_
  dsimp only [D_law_digit]
  refine Sx_rt ?_
  refine Ev_ifexp ?_
  refine Tr_cmp_n rfl ?_
  refine Ev_b B_len ht ?_
  refine EvL_nm1 rfl ?_
  refine len_ints hl ?_
  refine lt_int ?_
  refine TV_bool ?_
  refine ite_d (fun h => ?_) fun h => ?_
  · refine Ev_item_nn rfl rfl ?_
    exact item_ints h0 hl (at0_some h0 h) hQ
  · refine Ev_int ?_
    have : at0 sc i = 0 := by unfold at0; rw [List.getD_eq_getElem?_getD, List.getElem?_eq_none (by lia)]; rfl
    rw [this] at hQ; exact hQ
theorem law_number_spec {l : List Int} (ht : c.Txt) (hn : 2 ≤ c.n) (hl : l.length ≤ 64) (ho : Octs l) (hQ : Q (.int (num l))) : CallV c (.ref 300) [iL l] Q X := by
  refine call1 F_law_number D_law_number ht (by lia) "octets" (fun v => rfl) rfl fun N F hmu hout => ?_
  dsimp only [D_law_number]
  refine Sx_rt ?_
  refine Ev_b B_sum ht ?_
  refine EvL_cons ?_
  refine Ev_compR (ρc := [("octets", iL l)]) _ (.of rfl rfl rfl ⟨⟨rfl, rfl, rfl, .inl rfl, rfl⟩, trivial⟩) ?_
  refine Ev_t B_range ht ?_
  refine EvL_cons ?_
  refine Ev_b B_len ht ?_
  refine EvL_nm1 rfl ?_
  refine len_ints (by lia) ?_
  refine EvL_nil ?_
  refine range_1 ?_
  refine ⟨_, fun k => .int (at0 l k * 256 ^ (l.length - 1 - k)), rfl, by lia, by lia, ?_, ?_⟩
  · intro cl S C i hi
    have r1 := at0_range ho (i : Int)
    refine Ev_bin ?_
    refine Ev_item_nn rfl rfl ?_
    refine item_ints (by lia) (by lia) (at0_some (by lia) (by lia)) ?_
    refine Ev_bin_i ?_
    refine Ev_bin ?_
    refine Ev_bin ?_
    refine Ev_b B_len ht ?_
    refine EvL_nm1 rfl ?_
    refine len_ints (by lia) ?_
    refine Ev_int ?_
    refine sub_int ?_
    refine Ev_nm rfl ?_
    refine sub_int ?_
    refine pow_int (by lia) (by decide) (by rw [show Builtin.Int.intBits 256 = 9 by decide +kernel]; lia) ?_
    refine mul_int (.of_left (by have := bits_le (k := 8) r1.1 (by lia); lia)) ?_
    rw [show ((l.length : Int) - 1 - (i : Int)).toNat = l.length - 1 - i by lia]
  · refine EvL_nil ?_
    rw [Int.toNat_natCast, map_int]
    refine sum_ints ?_
    rw [num_sum]; exact hQ
theorem law_words_spec {l : List Int} (ht : c.Txt) (hn : 2 ≤ c.n) (hl : l.length ≤ 4000) (ho : Octs l) (hQ : Q (.int (words l))) : CallV c (.ref 305) [iL l] Q X := by
  refine call1 F_law_words D_law_words ht (by lia) "octets" (fun v => rfl) rfl fun N F hmu hout => ?_
  dsimp only [D_law_words]
  refine Sx_rt ?_
  refine Ev_b B_sum ht ?_
  refine EvL_cons ?_
  refine Ev_compR (ρc := [("octets", iL l)]) _ (.of rfl rfl rfl ⟨⟨rfl, rfl, rfl, .inl rfl, rfl⟩, trivial⟩) ?_
  refine Ev_t B_range ht ?_
  refine EvL_cons ?_
  refine Ev_b B_len ht ?_
  refine EvL_nm1 rfl ?_
  refine len_ints (by lia) ?_
  refine EvL_nil ?_
  refine range_1 ?_
  refine ⟨_, fun k => .int (at0 l k * wt k), rfl, by lia, by lia, ?_, ?_⟩
  · intro cl S C i hi
    have r1 := at0_range ho (i : Int)
    refine Ev_bin ?_
    refine Ev_item_nn rfl rfl ?_
    refine item_ints (by lia) (by lia) (at0_some (by lia) (by lia)) ?_
    refine Ev_ifexp ?_
    refine Tr_cmp ?_
    refine Ev_bin_ni rfl ?_
    refine mod_int (by decide) ?_
    refine Ev_int ?_
    refine eq_int ?_
    refine TV_bool ?_
    have hm : IntMulOk (at0 l i) (wt i) := .of_left (by have := bits_le (k := 8) r1.1 (by lia); lia)
    rw [fmod_pos _ (by decide)]
    refine ite_eq (fun h => ?_) fun h => ?_
    · refine Ev_int ?_
      have e : wt i = 256 := by unfold wt; rw [if_pos (by lia)]
      refine mul_int (by rw [e] at hm; exact hm) ?_
      show PV.int _ = PV.int (_ * wt i)
      rw [e]
    · refine Ev_int ?_
      have e : wt i = 1 := by unfold wt; rw [if_neg (by lia)]
      refine mul_int (by rw [e] at hm; exact hm) ?_
      show PV.int _ = PV.int (_ * wt i)
      rw [e]
  · refine EvL_nil ?_
    rw [Int.toNat_natCast, map_int]
    refine sum_ints ?_
    rw [words_sum]; exact hQ
end
section
variable {c : Cx} {F : Fm} {ρ : PEnv} {σ : Ow} {K : PK} {Q : PV → Prop} {X : PX → Prop}
theorem Sx_swap2 {x y : Str} {elts : List Expr} {e1 e2 : Expr} {k k2 : Nat} {tpos vpos pos : Pos} (h1 : Slot1 c σ x) (h2 : Slot1 c σ y)
    (h : Ev c ρ (eval e1 c.env) (fun p => Ev c ρ (eval e2 c.env) (fun q => K.next ((x, p) :: (y, q) :: ρ) σ) K.exc) K.exc)
    (hs : swapsWithSole [.Tuple elts k tpos] (.Tuple [e1, e2] k2 vpos) pos.line c.env = pure false) (hw : swappedStores [.Tuple elts k tpos] (.Tuple [e1, e2] k2 vpos) c.env = pure (some [x, y]))
    (ha : starEach [e1, e2] c.env = [e1, e2].map (fun e => (false, eval e c.env)) := by rfl) :
    Sx c F ρ σ (exec (.Assign [.Tuple elts k tpos] (.Tuple [e1, e2] k2 vpos) pos) c.env) K :=
  Sx_swap (xs := [x, y]) (fun z hz => by
    rcases List.mem_cons.mp hz with q | q
    · rw [q]; exact h2
    · rw [List.mem_singleton.mp q]; exact h1) (Ev_tuple (h.mono (fun p hp => hp.mono (fun q hq => ⟨by simp, [p, q], .inl rfl, rfl, hq⟩) fun _ z => z) fun _ z => z) ha) hs hw
theorem Ev_il {es : List Expr} {pos : Pos} (h : EvL c ρ es (fun ps => ∃ l : List Int, ps = l.map .int ∧ l.length ≤ 2 ^ 20 ∧ Q (iL l)) X) (hs : starEach es c.env = es.map (fun e => (false, eval e c.env)) := by rfl) : Ev c ρ (eval (.List es pos) c.env) Q X := by
  refine Ev_list ?_ hs
  have key : ∀ {es : List Expr} {Q1 Q2 : List PV → Prop}, (∀ ps, Q1 ps → Q2 ps) → EvL c ρ es Q1 X → EvL c ρ es Q2 X := by
    intro es
    induction es with
    | nil => intro Q1 Q2 hq h; exact hq _ h
    | cons e es ih => intro Q1 Q2 hq h; exact Ev.mono h (fun p hp => ih (fun ps => hq _) hp) fun _ z => z
  refine key (fun ps hp => ?_) h
  obtain ⟨l, rfl, h1, h2⟩ := hp
  exact ⟨by rw [List.length_map]; exact h1, h2⟩
theorem Ev_times {e e' : Expr} {x : Int} {pos pos' : Pos} (h1 : ∀ (Q' : PV → Prop), Q' (.int x) → Ev c ρ (eval e' c.env) Q' X) (h : Ev c ρ (eval e c.env) (AsInt fun n => 0 ≤ n ∧ n ≤ 100 ∧ Q (iL (List.replicate n.toNat x))) X)
    (hs : starEach [e'] c.env = [e'].map (fun e => (false, eval e c.env)) := by rfl) : Ev c ρ (eval (.BinOp (.List [e'] pos') .Mult e pos) c.env) Q X :=
  Ev_listmul (h1 _ ⟨by simp, Ev.mono h (fun p ⟨n, e, a, b, q⟩ => by
    subst e
    refine ⟨by lia, by lia, ?_⟩
    have : (List.replicate n.toNat [PV.int x]).flatten = (List.replicate n.toNat x).map .int := by
      rw [List.map_replicate]
      generalize n.toNat = m
      induction m with
      | zero => rfl
      | succ m ih => rw [List.replicate_succ, List.flatten_cons, ih, List.replicate_succ]; rfl
    rw [this]; exact q) fun _ z => z⟩) hs
theorem Octs.one {x : Int} (h : 0 ≤ x ∧ x < 256) : Octs [x] := fun y hy => by rw [List.mem_singleton.mp hy]; exact h
theorem Octs.two {x y : Int} (h : 0 ≤ x ∧ x < 256) (k : 0 ≤ y ∧ y < 256) : Octs [x, y] := fun z hz => by
  rcases List.mem_cons.mp hz with q | q
  · rw [q]; exact h
  · rw [List.mem_singleton.mp q]; exact k

theorem cut_none_len (l : List Int) (i : Nat) : (cutL l none (some (i : Int))).length = min i l.length := by
  unfold cutL
  dsimp only [Option.elim]
  rw [clipAt_nat, List.drop_zero, List.length_take, Nat.sub_zero, Nat.min_assoc, Nat.min_self]
theorem cut_some_len (l : List Int) (i : Nat) : (cutL l (some (i : Int)) none).length = l.length - i := by
  unfold cutL
  dsimp only [Option.elim]
  rw [clipAt_nat, List.length_take, List.length_drop, Nat.min_self]
  rcases Nat.le_total i l.length with h | h
  · rw [Nat.min_eq_left h]
  · rw [Nat.min_eq_right h, Nat.sub_self, Nat.sub_eq_zero_of_le h]
theorem law_bent_spec {l : List Int} {d : Int} (ht : c.Txt) (hn : 1 ≤ c.n) (hl : l.length ≤ 1000) (h1 : 1 ≤ l.length) (ho : Octs l) (hQ : ∀ m, Octs m → m.length = l.length → Q (iL m)) : CallV c (.ref 312) [iL l, .int d] Q X := by
  refine call2 F_law_bent D_law_bent ht (by lia) "octets" "digit" (fun v u => rfl) ⟨rfl, rfl⟩ (by decide) fun N F hmu hout => ?_
  dsimp only [D_law_bent]
  refine Sx_cons ?_
  refine Sx_swap2 (x := "place") (y := "more") (Slot1.loc rfl) (Slot1.loc rfl) ?_ rfl rfl
  refine Ev_bin ?_
  refine Ev_bin_ni rfl ?_
  refine fdiv_int (by decide) (PyProof.noPylong_small (by decide)) ?_
  refine Ev_b B_len ht ?_
  refine EvL_nm1 rfl ?_
  refine len_ints (by lia) ?_
  refine mod_int (by lia) ?_
  refine Ev_bin_ni rfl ?_
  refine mod_int (by decide) ?_
  refine Sx_rt ?_
  refine Ev_bin ?_
  refine Ev_bin ?_
  refine Ev_cut_n rfl ?_
  refine EvO_none ?_
  refine EvO_nm rfl ?_
  rw [fmod_pos _ (by lia)]
  have hp0 := Int.emod_nonneg (d.fdiv 256) (show (l.length : Int) ≠ 0 by lia)
  have hp1 := Int.emod_lt_of_pos (d.fdiv 256) (show (0 : Int) < (l.length : Int) by lia)
  generalize d.fdiv 256 % (l.length : Int) = i at hp0 hp1 ⊢
  refine cut_ints (by lia) ?_
  refine Ev_il ?_
  refine EvL_cons ?_
  refine Ev_bin ?_
  refine Ev_bin ?_
  refine Ev_item_nn rfl rfl ?_
  refine item_ints hp0 (by lia) (at0_some hp0 hp1) ?_
  refine Ev_nm rfl ?_
  refine add_int ?_
  refine Ev_int ?_
  refine mod_int (by decide) ?_
  refine EvL_nil ?_
  refine ⟨[_], rfl, by simp, ?_⟩
  have hc := cutL_len (l := l) (a := none) (b := some i)
  have hc2 := cutL_len (l := l) (a := some (i + 1)) (b := none)
  refine add_ints (by simp; lia) ?_
  refine Ev_cut_n rfl ?_
  refine EvO_some ?_
  refine Ev_bin_ni rfl ?_
  refine add_int ?_
  refine AsInt.mk ?_
  refine EvO_none ?_
  refine cut_ints (by lia) ?_
  refine add_ints (by simp; lia) ?_
  refine hQ _ (((ho.cut _ _).append (.one ?_)).append (ho.cut _ _)) ?_
  · rw [fmod_pos _ (by decide)]; lia
  · obtain ⟨i, rfl⟩ := Int.eq_ofNat_of_zero_le hp0
    have hi : i < l.length := Int.ofNat_lt.mp hp1
    rw [List.length_append, List.length_append, cut_none_len, Nat.min_eq_left (Nat.le_of_lt hi), show (cutL l (some ((i : Int) + 1)) none).length = l.length - (i + 1) from cut_some_len l (i + 1)]
    exact Nat.add_sub_cancel' hi
theorem sum_len (n : Nat) : min 10 n + Int.toNat 2 + (n - 12) ≤ n + 2 := by
  show min 10 n + 2 + (n - 12) ≤ n + 2
  rcases Nat.le_total n 12 with h | h
  · rw [Nat.sub_eq_zero_of_le h]; exact Nat.add_le_add_right (Nat.min_le_right _ _) 2
  · refine Nat.le_trans (Nat.add_le_add_right (Nat.add_le_add_right (Nat.min_le_left _ _) 2) _) ?_
    rw [Nat.add_sub_cancel' h]; exact Nat.le_add_right _ _
theorem law_summed_spec {l : List Int} (ht : c.Txt) (hn : 3 ≤ c.n) (hl : l.length ≤ 900) (h1 : 1 ≤ l.length) (ho : Octs l) (hQ : ∀ m, Octs m → 1 ≤ m.length → m.length ≤ l.length + 2 → Q (iL m)) : CallV c (.ref 319) [iL l] Q X := by
  refine call1 F_law_summed D_law_summed ht (by lia) "octets" (fun v => rfl) rfl fun N F hmu hout => ?_
  dsimp only [D_law_summed]
  refine Sx_asg (Slot1.loc rfl) ?_ rfl
  refine Ev_bin ?_
  refine Ev_bin ?_
  refine Ev_cut_n rfl ?_
  refine EvO_none ?_
  refine EvO_i ?_
  refine cut_ints (by lia) ?_
  refine Ev_il ?_
  refine EvL_i ?_
  refine EvL_i1 ?_
  refine ⟨[_, _], rfl, by simp, ?_⟩
  have hc := cutL_len (l := l) (a := none) (b := some 10)
  refine add_ints (by simp; lia) ?_
  refine Ev_cut_n rfl ?_
  refine EvO_i ?_
  refine EvO_some ?_
  refine Ev_bin ?_
  refine Ev_bin ?_
  refine Ev_item_ni rfl ?_
  refine item_ints (by decide) (by lia) (at0_some (by decide) (by lia)) ?_
  refine Ev_int ?_
  refine mod_int (by decide) ?_
  refine Ev_int ?_
  refine mul_int (.of_right (by decide)) ?_
  refine AsInt.mk ?_
  refine cut_ints (by lia) ?_
  have hc2 := cutL_len (l := l) (a := some 12) (b := some ((at0 l 0).fmod 16 * 4))
  refine add_ints (by simp; lia) ?_
  refine Sx_asg (Slot1.loc rfl) ?_ rfl
  refine Ev_bin_i ?_
  refine Ev_bin ?_
  refine Ev_bin ?_
  refine Ev_bin ?_
  refine Ev_f G_law_words ht ?_
  refine EvL_nm1 rfl ?_
  have h0 : Octs [(0 : Int), 0] := .two (by decide) (by decide)
  refine law_words_spec ht (by show 2 ≤ c.n - 1; lia) (by simp; lia) (((ho.cut _ _).append h0).append (ho.cut _ _)) ?_
  refine Ev_int ?_
  refine sub_int ?_
  refine Ev_int ?_
  refine mod_int (by decide) ?_
  refine Ev_int ?_
  refine add_int ?_
  refine sub_int ?_
  refine Sx_rt ?_
  refine Ev_bin ?_
  refine Ev_bin ?_
  refine Ev_cut_n rfl ?_
  refine EvO_none ?_
  refine EvO_i ?_
  refine cut_ints (by lia) ?_
  refine Ev_f G_law_octets ht ?_
  refine EvL_nm rfl ?_
  refine EvL_i1 ?_
  refine law_octets_spec ht (by show 2 ≤ c.n - 1; lia) (by decide) (by decide) ?_
  refine add_ints (by rw [dig_length]; lia) ?_
  refine Ev_cut_n rfl ?_
  refine EvO_i ?_
  refine EvO_none ?_
  refine cut_ints (by lia) ?_
  have hc3 := cutL_len (l := l) (a := some 12) (b := none)
  refine add_ints (by rw [List.length_append, dig_length]; lia) ?_
  refine hQ _ (((ho.cut _ _).append (dig_octs _ _)).append (ho.cut _ _)) ?_ ?_
  · rw [List.length_append, List.length_append, dig_length]; lia
  · rw [List.length_append, List.length_append, dig_length, show (cutL l none (some 10)).length = min 10 l.length from cut_none_len l 10, show (cutL l (some 12) none).length = l.length - 12 from cut_some_len l 12]
    exact sum_len l.length
end
structure Script (sc : List Int) : Prop where
  len : sc.length ≤ 63
  small : ∃ b, b ≤ 1048576 ∧ ∀ x ∈ sc, x.natAbs < 2 ^ b
theorem bits_abs {x : Int} {k : Nat} (h : x.natAbs < 2 ^ k) : Builtin.Int.intBits x ≤ k := by
  unfold Builtin.Int.intBits
  split
  · lia
  · rename_i q
    have hx : x.natAbs ≠ 0 := fun z => q (by have : x = 0 := by lia
                                             rw [this]; rfl)
    have : x.natAbs.log2 < k := (Nat.log2_lt hx).mpr h
    lia
theorem Script.mul {sc : List Int} (h : Script sc) (i k C : Int) (hk : k.natAbs < 16) (hC : Builtin.Int.intBits C ≤ 200) : IntMulOk (at0 sc i + k) C := by
  obtain ⟨b, hb, hx⟩ := h.small
  have hp : 0 < 2 ^ b := Nat.pow_pos (by decide)
  have h1 : (at0 sc i).natAbs < 2 ^ b := by
    unfold at0; rw [List.getD_eq_getElem?_getD]
    cases q : sc[i.toNat]? with
    | none => exact hp
    | some x => exact hx x (List.mem_of_getElem? q)
  have h2 : Builtin.Int.intBits (at0 sc i + k) ≤ b + 5 := bits_abs (by
    rw [Nat.pow_add, show 2 ^ 5 = 32 by decide]
    refine Nat.lt_of_le_of_lt (Int.natAbs_add_le _ _) ?_
    generalize (at0 sc i).natAbs = x at h1
    generalize k.natAbs = y at hk
    generalize 2 ^ b = z at hp h1 ⊢
    lia)
  unfold IntMulOk Builtin.Int.intTooBig
  simp only [Bool.and_eq_true, decide_eq_true_eq, not_and]
  intro _ z
  have : bitsLine = 134217728 := by decide
  lia
section
variable {c : Cx} {Q : PV → Prop} {X : PX → Prop}
theorem Octs.rep {n : Nat} {x : Int} (h : 0 ≤ x ∧ x < 256) : Octs (List.replicate n x) := fun y hy => by rw [(List.mem_replicate.mp hy).2]; exact h
theorem Octs.nil : Octs [] := fun _ h => nomatch h
theorem Octs.mk {x : Int} {l : List Int} (h : 0 ≤ x ∧ x < 256) (k : Octs l) : Octs (x :: l) := fun y hy => by
  rcases List.mem_cons.mp hy with q | q
  · rw [q]; exact h
  · exact k y q
end
section
variable {c : Cx} {Q : PV → Prop} {X : PX → Prop}
theorem mod_le (x : Int) (k : Nat) : (x % (k + 1 : Nat)).toNat ≤ k := by
  have h0 := Int.emod_nonneg x (show ((k + 1 : Nat) : Int) ≠ 0 by lia)
  have h1 := Int.emod_lt_of_pos x (show (0 : Int) < (k + 1 : Nat) by lia)
  generalize x % (k + 1 : Nat) = y at h0 h1
  lia
theorem mul_mod_le (x : Int) (k : Nat) : (4 * (x % (k + 1 : Nat))).toNat ≤ 4 * k := by
  have h0 := Int.emod_nonneg x (show ((k + 1 : Nat) : Int) ≠ 0 by lia)
  have h1 := Int.emod_lt_of_pos x (show (0 : Int) < (k + 1 : Nat) by lia)
  generalize x % (k + 1 : Nat) = y at h0 h1
  lia
theorem law_four_spec {sc : List Int} (ht : c.Txt) (hn : 5 ≤ c.n) (hs : Script sc) (hQ : ∀ l, Octs l → 1 ≤ l.length → l.length ≤ 200 → Q (iL l)) : CallV c (.ref 324) [iL sc] Q X := by
  have hl := hs.len
  refine call1 F_law_four D_law_four ht (by lia) "script" (fun v => rfl) rfl fun N F hmu hout => ?_
  dsimp only [D_law_four]
  refine Sx_cons ?_
  refine Sx_unpack (xs := ["many", "words", "behind", "word"]) rfl (slots_cons (by exact Slot1.loc rfl) (slots_cons (by exact Slot1.loc rfl) (slots_cons (by exact Slot1.loc rfl) (slots_cons (by exact Slot1.loc rfl) slots_nil)))) ?_
  refine Ev_compR (ρc := [("script", iL sc)]) _ (.of rfl rfl rfl ⟨⟨rfl, rfl, rfl, .inl rfl, rfl⟩, trivial⟩) ?_
  refine Ev_t B_range ht ?_
  refine EvL_i1 ?_
  refine range_1 ?_
  refine ⟨_, fun k => .int (at0 sc k + at0 [6, 2, 2, 8193] k), rfl, by lia, by lia, ?_, ?_⟩
  · intro cl S C i hi
    refine Ev_bin ?_
    refine Ev_f G_law_digit ht ?_
    refine EvL_nm rfl ?_
    refine EvL_nm1 rfl ?_
    refine law_digit_spec ht (by dsimp only [inside, Cx.comp]; lia) (by lia) (by lia) ?_
    refine Ev_item ?_ fun _ _ => rfl
    refine Ev_il ?_
    refine EvL_i ?_
    refine EvL_i ?_
    refine EvL_i ?_
    refine EvL_i1 ?_
    refine ⟨[_, _, _, _], rfl, by simp, ?_⟩
    refine Ev_nm rfl ?_
    refine item_ints (by lia) (by simp) (at0_some (by lia) (by simp; lia)) ?_
    refine add_int ?_
    rfl
  refine ⟨_, .inr rfl, rfl, ?_⟩
  change Sx _ _ [("word", .int (at0 sc 3 + 8193)), ("behind", .int (at0 sc 2 + 2)), ("words", .int (at0 sc 1 + 2)), ("many", .int (at0 sc 0 + 6)), ("script", iL sc)] none _ _
  generalize at0 sc 3 + 8193 = word
  generalize at0 sc 2 + 2 = behind
  generalize at0 sc 1 + 2 = wo
  generalize at0 sc 0 + 6 = many
  refine Sx_asg (Slot1.loc rfl) ?_ rfl
  refine Ev_bin ?_
  refine Ev_bin ?_
  refine Ev_f G_law_digit (by assumption) ?_
  refine EvL_nm rfl ?_
  refine EvL_i1 ?_
  refine law_digit_spec (by assumption) (by dsimp only [inside, Cx.comp]; lia) (by lia) (by decide) ?_
  refine Ev_int ?_
  refine add_int ?_
  refine Ev_int ?_
  refine mul_int (hs.mul 4 7 _ (by decide) (by decide +kernel)) ?_
  generalize (at0 sc 4 + 7) * 210306068529402873165736369884012333109 = spread
  refine Sx_asg (Slot1.loc rfl) ?_ rfl
  refine Ev_f G_law_octets (by assumption) ?_
  refine EvL_nm rfl ?_
  refine EvL_cons ?_
  refine Ev_bin_i ?_
  refine Ev_bin_ni rfl ?_
  refine mod_int (by decide) ?_
  refine mul_int (.of_left (by decide)) ?_
  rw [fmod_pos _ (by decide)]
  refine EvL_nil ?_
  refine law_octets_spec (by assumption) (by dsimp only [inside, Cx.comp]; lia) (by lia) (by lia) ?_
  refine Sx_asg (Slot1.loc rfl) ?_ rfl
  refine Ev_f G_law_octets (by assumption) ?_
  refine EvL_cons ?_
  refine Ev_bin_ni rfl ?_
  refine mul_int (.of_right (by decide)) ?_
  refine EvL_cons ?_
  refine Ev_bin_ni rfl ?_
  refine mod_int (by decide) ?_
  refine EvL_nil ?_
  rw [fmod_pos _ (by decide)]
  refine law_octets_spec (by assumption) (by dsimp only [inside, Cx.comp]; lia) (by lia) (by lia) ?_
  refine Sx_asg (Slot1.loc rfl) ?_ rfl
  refine Ev_bin ?_
  refine Ev_bin ?_
  refine Ev_bin ?_
  have o1 := dig_octs spread (4 * (wo % 4)).toNat
  have o2 := dig_octs (spread * 3) (many % 12).toNat
  have n1 : (dig spread (4 * (wo % 4)).toNat).length ≤ 12 := by rw [dig_length]; exact mul_mod_le wo 3
  have n2 : (dig (spread * 3) (many % 12).toNat).length ≤ 11 := by rw [dig_length]; exact mod_le many 11
  generalize dig spread (4 * (wo % 4)).toNat = options at o1 n1 ⊢
  generalize dig (spread * 3) (many % 12).toNat = data at o2 n2 ⊢
  refine Ev_il ?_
  refine EvL_cons ?_
  refine Ev_bin_i ?_
  refine Ev_bin_ni rfl ?_
  refine mod_int (by decide) ?_
  refine add_int ?_
  refine EvL_i1 ?_
  refine ⟨[_, _], rfl, by simp, ?_⟩
  refine Ev_f G_law_octets (by assumption) ?_
  refine EvL_cons ?_
  refine Ev_bin ?_
  refine Ev_bin_i ?_
  refine Ev_b B_len (by assumption) ?_
  refine EvL_nm1 rfl ?_
  refine len_ints (by lia) ?_
  refine add_int ?_
  refine Ev_b B_len (by assumption) ?_
  refine EvL_nm1 rfl ?_
  refine len_ints (by lia) ?_
  refine add_int ?_
  refine EvL_i1 ?_
  refine law_octets_spec (by assumption) (by dsimp only [inside, Cx.comp]; lia) (by lia) (by lia) ?_
  refine add_ints (by simp [dig_length]) ?_
  refine Ev_il ?_
  refine EvL_i ?_
  refine EvL_i1 ?_
  refine ⟨[_, _], rfl, by simp, ?_⟩
  refine add_ints (by simp [dig_length]) ?_
  refine Ev_f G_law_octets (by assumption) ?_
  refine EvL_cons ?_
  refine Ev_bin_ni rfl ?_
  refine mod_int (by decide) ?_
  refine EvL_i1 ?_
  refine law_octets_spec (by assumption) (by dsimp only [inside, Cx.comp]; lia) (by lia) (by lia) ?_
  refine add_ints (by simp [dig_length]) ?_
  have oh : Octs ([69 + wo.fmod 4, 12] ++ dig (20 + (options.length : Int) + (data.length : Int)) (Int.toNat 2) ++ [1, 2] ++ dig (word.fmod 65536) (Int.toNat 2)) :=
    (((Octs.two (by rw [fmod_pos _ (by decide)]; lia) (by decide)).append (dig_octs _ _)).append (.two (by decide) (by decide))).append (dig_octs _ _)
  have nh : ([69 + wo.fmod 4, 12] ++ dig (20 + (options.length : Int) + (data.length : Int)) (Int.toNat 2) ++ [1, 2] ++ dig (word.fmod 65536) (Int.toNat 2)).length = 8 := by
    simp only [List.length_append, dig_length]; rfl
  generalize [69 + wo.fmod 4, 12] ++ dig (20 + (options.length : Int) + (data.length : Int)) (Int.toNat 2) ++ [1, 2] ++ dig (word.fmod 65536) (Int.toNat 2) = head at oh nh ⊢
  refine Sx_asg (Slot1.loc rfl) ?_ rfl
  refine Ev_bin ?_
  refine Ev_bin ?_
  refine Ev_bin ?_
  refine Ev_bin_n rfl ?_
  refine Ev_il ?_
  refine EvL_i ?_
  refine EvL_cons ?_
  refine Ev_bin ?_
  refine Ev_f G_law_digit (by assumption) ?_
  refine EvL_nm rfl ?_
  refine EvL_i1 ?_
  refine law_digit_spec (by assumption) (by dsimp only [inside, Cx.comp]; lia) (by lia) (by decide) ?_
  refine Ev_int ?_
  refine mod_int (by decide) ?_
  refine EvL_i ?_
  refine EvL_i1 ?_
  refine ⟨[_, _, _, _], rfl, by simp, ?_⟩
  refine add_ints (by simp; lia) ?_
  refine Ev_f G_law_octets (by assumption) ?_
  refine EvL_cons ?_
  refine Ev_bin_ni rfl ?_
  refine mul_int (.of_right (by decide)) ?_
  refine EvL_i1 ?_
  refine law_octets_spec (by assumption) (by dsimp only [inside, Cx.comp]; lia) (by lia) (by lia) ?_
  refine add_ints (by simp [dig_length]; lia) ?_
  refine Ev_nm rfl ?_
  refine add_ints (by simp [dig_length]; lia) ?_
  refine Ev_nm rfl ?_
  refine add_ints (by simp [dig_length]; lia) ?_
  have oo : Octs (head ++ [64, (at0 sc 4).fmod 256, 0, 0] ++ dig (spread * 5) (Int.toNat 8) ++ options ++ data) :=
    (((oh.append (.mk (by decide) (.mk (by rw [fmod_pos _ (by decide)]; lia) (.two (by decide) (by decide))))).append (dig_octs _ _)).append o1).append o2
  have no : (head ++ [64, (at0 sc 4).fmod 256, 0, 0] ++ dig (spread * 5) (Int.toNat 8) ++ options ++ data).length = 20 + options.length + data.length := by
    simp only [List.length_append, dig_length, nh]; rfl
  generalize head ++ [64, (at0 sc 4).fmod 256, 0, 0] ++ dig (spread * 5) (Int.toNat 8) ++ options ++ data = octets at oo no ⊢
  have nO1 : 1 ≤ octets.length := by lia
  have nO2 : octets.length ≤ 43 := by lia
  clear no
  refine Sx_asg (Slot1.loc rfl) ?_ rfl
  refine Ev_bin ?_
  refine Ev_f G_law_summed ht ?_
  refine EvL_nm1 rfl ?_
  refine law_summed_spec ht (by dsimp only [inside, Cx.comp]; lia) (by lia) (by lia) oo fun m om m1 m2 => ?_
  replace m2 : m.length ≤ 45 := Nat.le_trans m2 (Nat.add_le_add_right nO2 2)
  clear nO1 nO2 n1 n2
  refine Ev_times (fun Q' h => by (refine Ev_int ?_); exact h) ?_
  refine Ev_bin_ni rfl ?_
  refine mod_int (by decide) ?_
  refine AsInt.mk ?_
  rw [fmod_pos _ (by decide)]
  refine ⟨by lia, by lia, ?_⟩
  have or : Octs (List.replicate (behind % 4).toNat 9) := .rep (by decide)
  have nr : (List.replicate (behind % 4).toNat (9 : Int)).length ≤ 3 := by rw [List.length_replicate]; exact mod_le behind 3
  generalize List.replicate (behind % 4).toNat (9 : Int) = tail at or nr ⊢
  refine add_ints (by lia) ?_
  have o3 := om.append or
  have n3 : (m ++ tail).length = m.length + tail.length := List.length_append
  generalize m ++ tail = octets2 at o3 n3 ⊢
  have n31 : 1 ≤ octets2.length := by lia
  have n32 : octets2.length ≤ 48 := by lia
  clear n3 nr m1 m2
  refine Sx_asg (Slot1.loc rfl) ?_ rfl
  refine Ev_f G_law_bent ht ?_
  refine EvL_cons ?_
  refine Ev_f G_law_bent ht ?_
  refine EvL_nm rfl ?_
  refine EvL_cons ?_
  refine Ev_f G_law_digit (by assumption) ?_
  refine EvL_nm rfl ?_
  refine EvL_i1 ?_
  refine law_digit_spec (by assumption) (by dsimp only [inside, Cx.comp]; lia) (by lia) (by decide) ?_
  refine EvL_nil ?_
  refine law_bent_spec ht (by dsimp only [inside, Cx.comp]; lia) (Nat.le_trans n32 (by decide)) n31 o3 fun b1 ob1 nb1 => ?_
  rw [← nb1] at n31 n32
  clear nb1
  refine EvL_cons ?_
  refine Ev_f G_law_digit (by assumption) ?_
  refine EvL_nm rfl ?_
  refine EvL_i1 ?_
  refine law_digit_spec (by assumption) (by dsimp only [inside, Cx.comp]; lia) (by lia) (by decide) ?_
  refine EvL_nil ?_
  refine law_bent_spec ht (by dsimp only [inside, Cx.comp]; lia) (Nat.le_trans n32 (by decide)) n31 ob1 fun b2 ob2 nb2 => ?_
  rw [← nb2] at n31 n32
  clear nb2
  refine Sx_rt ?_
  refine Ev_ifexp ?_
  refine Tr_and ?_
  refine Tr_cmp ?_
  refine Ev_bin ?_
  refine Ev_f G_law_digit (by assumption) ?_
  refine EvL_nm rfl ?_
  refine EvL_i1 ?_
  refine law_digit_spec (by assumption) (by dsimp only [inside, Cx.comp]; lia) (by lia) (by decide) ?_
  refine Ev_int ?_
  refine mod_int (by decide) ?_
  refine Ev_int ?_
  refine eq_int ?_
  refine TV_bool ?_
  refine ite_eq (fun h => ?_) fun h => ?_
  · refine Tr_and ?_
    refine Tr_cmp ?_
    refine Ev_b B_len (by assumption) ?_
    refine EvL_nm1 rfl ?_
    refine len_ints (by lia) ?_
    refine Ev_int ?_
    refine ge_int ?_
    refine TV_bool ?_
    refine ite_d (fun h => ?_) fun h => ?_
    · refine Tr_and_nil ?_
      refine ite_T ?_
      refine Ev_f G_law_summed ht ?_
      refine EvL_nm1 rfl ?_
      refine law_summed_spec ht (by dsimp only [inside, Cx.comp]; lia) (Nat.le_trans n32 (by decide)) n31 ob2 fun m3 om3 m31 m32 => ?_
      exact hQ _ om3 m31 (Nat.le_trans m32 (Nat.le_trans (Nat.add_le_add_right n32 2) (by decide)))
    · refine ite_F ?_
      refine Ev_nm rfl ?_
      exact hQ _ ob2 n31 (Nat.le_trans n32 (by decide))
  · refine ite_F ?_
    refine Ev_nm rfl ?_
    exact hQ _ ob2 n31 (Nat.le_trans n32 (by decide))
end
section
variable {c : Cx} {Q : PV → Prop} {X : PX → Prop}
theorem Sx_unpack2 {F : Fm} {ρ : PEnv} {σ : Ow} {K : PK} {x y : Str} {elts : List Expr} {e1 e2 : Expr} {k k2 : Nat} {tpos vpos pos : Pos} (ht : tgt elts [x, y]) (h1 : Slot1 c σ x) (h2 : Slot1 c σ y)
    (h : Ev c ρ (eval e1 c.env) (fun p => Ev c ρ (eval e2 c.env) (fun q => K.next ((y, q) :: (x, p) :: ρ) σ) K.exc) K.exc)
    (hs : swapsWithSole [.Tuple elts k tpos] (.Tuple [e1, e2] k2 vpos) pos.line c.env = pure false) (hw : swappedStores [.Tuple elts k tpos] (.Tuple [e1, e2] k2 vpos) c.env = pure none)
    (ha : starEach [e1, e2] c.env = [e1, e2].map (fun e => (false, eval e c.env)) := by rfl) :
    Sx c F ρ σ (exec (.Assign [.Tuple elts k tpos] (.Tuple [e1, e2] k2 vpos) pos) c.env) K :=
  Sx_unpack (xs := [x, y]) ht (fun z hz => by
    rcases List.mem_cons.mp hz with q | q
    · rw [q]; exact h1
    · rw [List.mem_singleton.mp q]; exact h2) (Ev_tuple (h.mono (fun p hp => hp.mono (fun q hq => ⟨by simp, [p, q], .inl rfl, rfl, hq⟩) fun _ z => z) fun _ z => z) ha) hs hw
inductive InvSix (tl sc : List Int) (spread word behind many : Int) (i : Nat) (ρ : PEnv) (σ : Ow) : Prop
  | mk (e : σ = none) (b : List Int) (ob : Octs b) (nb : b.length ≤ 40 * i) (q1 : lk ρ "body" = some (iL b)) (q2 : lk ρ "told" = some (iL tl)) (q3 : lk ρ "spread" = some (.int spread)) (q4 : lk ρ "word" = some (.int word)) (q5 : lk ρ "behind" = some (.int behind))
    (q6 : lk ρ "many" = some (.int many)) (q7 : lk ρ "script" = some (iL sc))
theorem law_six_spec {sc : List Int} (ht : c.Txt) (hn : 5 ≤ c.n) (hs : Script sc) (hQ : ∀ l, Octs l → 1 ≤ l.length → l.length ≤ 300 → Q (iL l)) : CallV c (.ref 329) [iL sc] Q X := by
  have hl := hs.len
  refine call1 F_law_six D_law_six ht (by lia) "script" (fun v => rfl) rfl fun N F hmu hout => ?_
  dsimp only [D_law_six]
  refine Sx_cons ?_
  refine Sx_unpack (xs := ["many", "kinds", "behind", "word"]) rfl (slots_cons (Slot1.loc rfl) (slots_cons (Slot1.cell rfl rfl) (slots_cons (Slot1.loc rfl) (slots_cons (Slot1.loc rfl) slots_nil)))) ?_
  refine Ev_compR (ρc := [("script", iL sc)]) _ (.of rfl rfl rfl ⟨⟨rfl, rfl, rfl, .inl rfl, rfl⟩, trivial⟩) ?_
  refine Ev_t B_range ht ?_
  refine EvL_i1 ?_
  refine range_1 ?_
  refine ⟨_, fun k => .int (at0 sc (8 + (k : Int)) + at0 [3, 53, 1, 1] k), rfl, by lia, by lia, ?_, ?_⟩
  · intro cl S C i hi
    refine Ev_bin ?_
    refine Ev_f G_law_digit ht ?_
    refine EvL_nm rfl ?_
    refine EvL_cons ?_
    refine Ev_bin_i ?_
    refine Ev_nm rfl ?_
    refine add_int ?_
    refine EvL_nil ?_
    refine law_digit_spec ht (by dsimp only [inside, Cx.comp]; lia) (by lia) (by lia) ?_
    refine Ev_item ?_ fun _ _ => rfl
    refine Ev_il ?_
    refine EvL_i ?_
    refine EvL_i ?_
    refine EvL_i ?_
    refine EvL_i1 ?_
    refine ⟨[_, _, _, _], rfl, by simp, ?_⟩
    refine Ev_nm rfl ?_
    refine item_ints (by lia) (by simp) (at0_some (by lia) (by simp; lia)) ?_
    refine add_int ?_
    rfl
  refine ⟨_, .inr rfl, rfl, ?_⟩
  change Sx _ _ [("word", .int (at0 sc 11 + 1)), ("behind", .int (at0 sc 10 + 1)), ("kinds", .int (at0 sc 9 + 53)), ("many", .int (at0 sc 8 + 3)), ("script", iL sc)] none _ _
  generalize at0 sc 11 + 1 = word
  generalize at0 sc 10 + 1 = behind
  generalize at0 sc 9 + 53 = kinds
  generalize at0 sc 8 + 3 = many
  refine Sx_asg (Slot1.loc rfl) ?_ rfl
  refine Ev_bin ?_
  refine Ev_bin ?_
  refine Ev_f G_law_digit (by assumption) ?_
  refine EvL_nm rfl ?_
  refine EvL_i1 ?_
  refine law_digit_spec (by assumption) (by dsimp only [inside, Cx.comp]; lia) (by lia) (by decide) ?_
  refine Ev_int ?_
  refine add_int ?_
  refine Ev_int ?_
  refine mul_int (hs.mul 12 11 _ (by decide) (by decide +kernel)) ?_
  generalize (at0 sc 12 + 11) * 178011619736296876658506753959018495379 = spread
  refine Sx_cons ?_
  refine Sx_unpack2 (x := "row") (y := "body") rfl (Slot1.cell rfl rfl) (Slot1.loc rfl) ?_ rfl rfl
  refine Ev_il ?_
  refine EvL_i ?_
  refine EvL_i ?_
  refine EvL_i ?_
  refine EvL_i ?_
  refine EvL_i1 ?_
  refine ⟨[_, _, _, _, _], rfl, by simp, ?_⟩
  refine Ev_il ?_
  refine EvL_nil ?_
  refine ⟨[], rfl, by simp, ?_⟩
  refine Sx_asg (Slot1.loc rfl) ?_ rfl
  refine Ev_ifexp ?_
  refine Tr_cmp_ni rfl ?_
  refine gt_int ?_
  refine TV_bool ?_
  suffices key : ∀ tl : List Int, Octs tl → tl.length ≤ 3 → (PK.seq (inside c F_law_six.fd N 329) F _ (PK.fn Q X)).next [("told", iL tl), ("body", iL []), ("row", iL [0, 43, 44, 51, 60]), ("spread", .int spread), ("word", .int word), ("behind", .int behind), ("kinds", .int kinds), ("many", .int many), ("script", iL sc)] none by
    refine ite_d (fun hk => ?_) fun hk => ?_
    · refine Ev_compR (ρc := [("kinds", .int kinds), ("row", iL [0, 43, 44, 51, 60])]) _ (.of rfl rfl rfl ⟨⟨rfl, rfl, rfl, .inl rfl, rfl⟩, ⟨rfl, rfl, rfl, .inl rfl, rfl⟩, trivial⟩) ?_
      refine Ev_t B_range ht ?_
      refine EvL_cons ?_
      refine Ev_bin ?_
      refine Ev_bin_ni rfl ?_
      refine fdiv_int (by decide) (PyProof.noPylong_small (by decide)) ?_
      refine Ev_int ?_
      refine mod_int (by decide) ?_
      refine EvL_nil ?_
      refine range_1 ?_
      rw [fmod_pos _ (by decide), fdiv_pos _ (by decide)]
      refine ⟨_, fun k => .int (at0 [0, 43, 44, 51, 60] ((kinds / 5 ^ k + at0 [2, 2, 3] k) % 5)), rfl, by lia, by lia, ?_, ?_⟩
      · intro cl S C i hi
        refine Ev_item_n rfl ?_ fun _ _ => rfl
        refine Ev_bin ?_
        refine Ev_bin ?_
        refine Ev_bin_n rfl ?_
        refine Ev_bin_i ?_
        refine Ev_nm rfl ?_
        have hi3 : i < 3 := by lia
        refine pow_int (by lia) (by decide) (by rw [show Builtin.Int.intBits 5 = 3 by decide +kernel]; lia) ?_
        have hp : (0 : Int) < 5 ^ (i : Int).toNat := Int.pow_pos (by decide)
        refine fdiv_int (by lia) (PyProof.noPylong_small ?_) ?_
        · rw [Int.toNat_natCast, Int.natAbs_pow]
          rcases (by lia : i = 0 ∨ i = 1 ∨ i = 2) with h | h | h <;> subst h <;> decide
        refine Ev_item ?_ fun _ _ => rfl
        refine Ev_il ?_
        refine EvL_i ?_
        refine EvL_i ?_
        refine EvL_i1 ?_
        refine ⟨[_, _, _], rfl, by simp, ?_⟩
        refine Ev_nm rfl ?_
        refine item_ints (by lia) (by simp) (at0_some (by lia) (by simp; lia)) ?_
        refine add_int ?_
        refine Ev_int ?_
        refine mod_int (by decide) ?_
        rw [fmod_pos _ (by decide), fdiv_pos _ (by lia), Int.toNat_natCast]
        refine item_ints (by lia) (by simp) (at0_some (by lia) (by simp; lia)) ?_
        rfl
      · rw [map_int]
        refine key _ ?_ (by simp; lia)
        intro x hx
        obtain ⟨k, _, rfl⟩ := List.mem_map.mp hx
        exact at0_range (.mk (by decide) (.mk (by decide) (.mk (by decide) (.two (by decide) (by decide))))) _
    · refine Ev_il ?_
      refine EvL_i ?_
      refine EvL_i1 ?_
      refine ⟨[_, _], rfl, by simp, ?_⟩
      exact key _ (.two (by decide) (by decide)) (by simp)
  intro tl ot nt
  refine Sx_cons ?_
  refine Sx_for ?_
  refine Ev_t B_range ht ?_
  refine EvL_cons ?_
  refine Ev_b B_len (by assumption) ?_
  refine EvL_nm1 rfl ?_
  refine len_ints (by lia) ?_
  refine EvL_nil ?_
  refine range_1 ?_
  refine ⟨_, iters_r1 (by lia) (by lia), ?_⟩
  have o5 : Octs [17, 59, 6, 0, 44] := .mk (by decide) (.mk (by decide) (.mk (by decide) (.two (by decide) (by decide))))
  refine Loop_inv (InvSix tl sc spread word behind many)
    ⟨rfl, [], .nil, by simp, rfl, rfl, rfl, rfl, rfl, rfl, rfl⟩ ?_ ?_
  · rintro i p ρ σ hp ⟨rfl, b, ob, nb, q1, q2, q3, q4, q5, q6, q7⟩
    obtain ⟨hi, rfl⟩ := range_get hp
    refine ⟨Slot1.loc rfl, ?_⟩
    refine Sx_asg (Slot1.loc rfl) ?_ rfl
    refine Ev_ifexp ?_
    refine Tr_cmp ?_
    refine Ev_bin_ni rfl ?_
    refine add_int ?_
    refine Ev_b B_len (by assumption) ?_
    refine EvL_nm1 (by assumption) ?_
    refine len_ints (by lia) ?_
    refine lt_int ?_
    refine TV_bool ?_
    suffices key : ∀ nk : Int, 0 ≤ nk ∧ nk < 256 → (PK.seq (inside c F_law_six.fd N 329) F _ _).next (("next_kind", .int nk) :: ("k", .int (i : Int)) :: ρ) none by
      refine ite_d (fun h => ?_) fun h => ?_
      · refine Ev_item_n (by assumption) ?_ fun _ _ => rfl
        refine Ev_bin_ni rfl ?_
        refine add_int ?_
        refine item_ints (by lia) (by lia) (at0_some (by lia) h) ?_
        exact key _ (at0_range ot _)
      · refine Ev_item ?_ fun _ _ => rfl
        refine Ev_il ?_
        refine EvL_i ?_
        refine EvL_i ?_
        refine EvL_i ?_
        refine EvL_i ?_
        refine EvL_i1 ?_
        refine ⟨[_, _, _, _, _], rfl, by simp, ?_⟩
        refine Ev_bin ?_
        refine Ev_f G_law_digit (by assumption) ?_
        refine EvL_nm (by assumption) ?_
        refine EvL_i1 ?_
        refine law_digit_spec (by assumption) (by dsimp only [inside, Cx.comp]; lia) (by lia) (by decide) ?_
        refine Ev_int ?_
        refine mod_int (by decide) ?_
        rw [fmod_pos _ (by decide)]
        refine item_ints (by lia) (by simp) (at0_some (by lia) (by simp; lia)) ?_
        exact key _ (at0_range o5 _)
    intro nk onk
    refine Sx_iff ?_
    refine Tr_cmp ?_
    refine Ev_item_nn (by assumption) rfl ?_
    refine item_ints (by lia) (by lia) (at0_some (by lia) (by lia)) ?_
    refine Ev_int ?_
    refine eq_int ?_
    refine TV_bool ?_
    refine ite_eq (fun h => ?_) fun h => ?_
    · refine Sx_asg (Slot1.loc rfl) ?_ rfl
      refine Ev_bin ?_
      refine Ev_bin ?_
      refine Ev_bin_n (by assumption) ?_
      refine Ev_il ?_
      refine EvL_nm rfl ?_
      refine EvL_i1 ?_
      refine ⟨[_, _], rfl, by simp, ?_⟩
      refine add_ints (by simp; lia) ?_
      refine Ev_f G_law_octets (by assumption) ?_
      refine EvL_cons ?_
      refine Ev_bin_ni (by assumption) ?_
      refine mod_int (by decide) ?_
      refine EvL_i1 ?_
      rw [fmod_pos _ (by decide)]
      refine law_octets_spec (by assumption) (by dsimp only [inside, Cx.comp]; lia) (by lia) (by lia) ?_
      refine add_ints (by simp [dig_length]; lia) ?_
      refine Ev_il ?_
      refine EvL_i ?_
      refine EvL_i ?_
      refine EvL_i ?_
      refine EvL_i1 ?_
      refine ⟨[_, _, _, _], rfl, by simp, ?_⟩
      refine add_ints (by simp [dig_length]; lia) ?_
      refine Sx_nil ?_
      refine Sx_nil ?_
      refine ⟨rfl, _, ?_, ?_, rfl, q2, q3, q4, q5, q6, q7⟩
      · exact ((ob.append (.two onk (by decide))).append (dig_octs _ _)).append (.mk (by decide) (.mk (by decide) (.two (by decide) (by decide))))
      · simp [dig_length]; lia
    · refine Sx_asg (Slot1.loc rfl) ?_ rfl
      refine Ev_bin ?_
      refine Ev_bin ?_
      refine Ev_f G_law_digit (by assumption) ?_
      refine EvL_nm (by assumption) ?_
      refine EvL_i1 ?_
      refine law_digit_spec (by assumption) (by dsimp only [inside, Cx.comp]; lia) (by lia) (by decide) ?_
      refine Ev_bin_i ?_
      refine Ev_nm rfl ?_
      refine pow_int (by lia) (by decide) (by rw [show Builtin.Int.intBits 2 = 2 by decide +kernel]; lia) ?_
      have hp : (0 : Int) < 2 ^ (i : Int).toNat := Int.pow_pos (by decide)
      refine fdiv_int (by lia) (PyProof.noPylong_small ?_) ?_
      · rw [Int.toNat_natCast, Int.natAbs_pow]
        rcases (by lia : i = 0 ∨ i = 1 ∨ i = 2) with h | h | h <;> subst h <;> decide
      refine Ev_int ?_
      refine mod_int (by decide) ?_
      refine Sx_asg (Slot1.loc rfl) ?_ rfl
      refine Ev_ifexp ?_
      refine Tr_cmp ?_
      refine Ev_item_nn (by assumption) rfl ?_
      rw [fmod_pos _ (by decide)]
      have z0 := Int.emod_nonneg ((at0 sc 13).fdiv (2 ^ (i : Int).toNat)) (show (2 : Int) ≠ 0 by decide)
      have z1 := Int.emod_lt_of_pos ((at0 sc 13).fdiv (2 ^ (i : Int).toNat)) (show (0 : Int) < 2 by decide)
      generalize (at0 sc 13).fdiv (2 ^ (i : Int).toNat) % 2 = size at z0 z1 ⊢
      suffices key2 : ∀ mo : Int, 2 ≤ mo → mo ≤ 16 → (PK.seq (inside c F_law_six.fd N 329) F _ _).next (("many_octets", .int mo) :: ("size", .int size) :: ("next_kind", .int nk) :: ("k", .int (i : Int)) :: ρ) none by
        refine item_ints (by lia) (by lia) (at0_some (by lia) (by lia)) ?_
        refine Ev_int ?_
        refine eq_int ?_
        refine TV_bool ?_
        refine ite_eq (fun h => ?_) fun h => ?_
        · refine Ev_bin ?_
          refine Ev_bin_ni rfl ?_
          refine add_int ?_
          refine Ev_int ?_
          refine mul_int (.of_right (by decide)) ?_
          exact key2 _ (by lia) (by lia)
        · refine Ev_bin ?_
          refine Ev_bin_ni rfl ?_
          refine add_int ?_
          refine Ev_int ?_
          refine mul_int (.of_right (by decide)) ?_
          exact key2 _ (by lia) (by lia)
      intro mo m0 m1
      refine Sx_asg (Slot1.loc rfl) ?_ rfl
      refine Ev_bin ?_
      refine Ev_bin_n (by assumption) ?_
      refine Ev_il ?_
      refine EvL_nm rfl ?_
      refine EvL_nm1 rfl ?_
      refine ⟨[_, _], rfl, by simp, ?_⟩
      refine add_ints (by simp; lia) ?_
      refine Ev_f G_law_octets (by assumption) ?_
      refine EvL_cons ?_
      refine Ev_bin_n (by assumption) ?_
      refine Ev_bin_ni rfl ?_
      refine add_int ?_
      refine mul_int (.of_right ?_) ?_
      · have := bits_le (x := (i : Int) + 2) (k := 3) (by lia) (by lia)
        lia
      refine EvL_cons ?_
      refine Ev_bin_ni rfl ?_
      refine sub_int ?_
      refine EvL_nil ?_
      refine law_octets_spec (by assumption) (by dsimp only [inside, Cx.comp]; lia) (by lia) (by lia) ?_
      refine add_ints (by simp [dig_length]; lia) ?_
      refine Sx_nil ?_
      refine Sx_nil ?_
      refine ⟨rfl, _, ?_, ?_, rfl, q2, q3, q4, q5, q6, q7⟩
      · exact (ob.append (.two onk (by lia))).append (dig_octs _ _)
      · simp [dig_length]; lia
  · rintro ρ σ ⟨rfl, b, ob, nb, q1, q2, q3, q4, q5, q6, q7⟩
    rw [List.length_map, List.length_range] at nb
    refine Sx_asg (Slot1.loc rfl) ?_ rfl
    refine Ev_bin_n (by assumption) ?_
    refine Ev_f G_law_octets (by assumption) ?_
    refine EvL_cons ?_
    refine Ev_bin_ni (by assumption) ?_
    refine mul_int (.of_right (by decide)) ?_
    refine EvL_cons ?_
    refine Ev_bin_ni (by assumption) ?_
    refine mod_int (by decide) ?_
    refine EvL_nil ?_
    rw [fmod_pos _ (by decide)]
    refine law_octets_spec (by assumption) (by dsimp only [inside, Cx.comp]; lia) (by lia) (by lia) ?_
    refine add_ints (by simp [dig_length]; lia) ?_
    have o6 := ob.append (dig_octs (spread * 7) (many % 10).toNat)
    have n6 : (b ++ dig (spread * 7) (many % 10).toNat).length ≤ 129 := by
      rw [List.length_append, dig_length]
      have m9 : (many % 10).toNat ≤ 9 := mod_le many 9
      generalize (many % 10).toNat = y at m9
      lia
    generalize b ++ dig (spread * 7) (many % 10).toNat = body at o6 n6 ⊢
    clear nb ob
    suffices key : ∀ fi : Int, 0 ≤ fi ∧ fi < 256 → (PK.seq (inside c F_law_six.fd N 329) F _ _).next (("first", .int fi) :: ("body", iL body) :: ρ) none by
      refine Sx_asg (Slot1.loc rfl) ?_ rfl
      refine Ev_ifexp ?_
      refine Tr_cmp_n (by assumption) ?_
      refine Ev_list (EvL_nil ⟨by simp, ?_⟩)
      refine ne_nil ?_
      refine TV_bool ?_
      refine ite_d (fun h => ?_) fun h => ?_
      · have : tl ≠ [] := fun z => h (by rw [z]; rfl)
        have := List.length_pos_iff.mpr this
        refine Ev_item_ni (by assumption) ?_
        refine item_ints (by lia) (by lia) (at0_some (by lia) (by lia)) ?_
        exact key _ (at0_range ot _)
      · refine Ev_item ?_ fun _ _ => rfl
        refine Ev_il ?_
        refine EvL_i ?_
        refine EvL_i ?_
        refine EvL_i ?_
        refine EvL_i ?_
        refine EvL_i1 ?_
        refine ⟨[_, _, _, _, _], rfl, by simp, ?_⟩
        refine Ev_bin ?_
        refine Ev_f G_law_digit (by assumption) ?_
        refine EvL_nm (by assumption) ?_
        refine EvL_i1 ?_
        refine law_digit_spec (by assumption) (by dsimp only [inside, Cx.comp]; lia) (by lia) (by decide) ?_
        refine Ev_int ?_
        refine mod_int (by decide) ?_
        rw [fmod_pos _ (by decide)]
        refine item_ints (by lia) (by simp) (at0_some (by lia) (by simp; lia)) ?_
        exact key _ (at0_range o5 _)
    intro fi ofi
    refine Sx_asg (Slot1.loc rfl) ?_ rfl
    refine Ev_bin ?_
    refine Ev_bin ?_
    refine Ev_bin ?_
    refine Ev_il ?_
    refine EvL_i ?_
    refine EvL_i ?_
    refine EvL_i ?_
    refine EvL_i1 ?_
    refine ⟨[_, _, _, _], rfl, by simp, ?_⟩
    refine Ev_f G_law_octets (by assumption) ?_
    refine EvL_cons ?_
    refine Ev_b B_len (by assumption) ?_
    refine EvL_nm1 rfl ?_
    refine len_ints (by lia) ?_
    refine EvL_i1 ?_
    refine law_octets_spec (by assumption) (by dsimp only [inside, Cx.comp]; lia) (by lia) (by lia) ?_
    refine add_ints (by simp [dig_length]) ?_
    refine Ev_il ?_
    refine EvL_nm rfl ?_
    refine EvL_i1 ?_
    refine ⟨[_, _], rfl, by simp, ?_⟩
    refine add_ints (by simp [dig_length]) ?_
    refine Ev_f G_law_octets (by assumption) ?_
    refine EvL_cons ?_
    refine Ev_bin_ni (by assumption) ?_
    refine mul_int (.of_right (by decide)) ?_
    refine EvL_i1 ?_
    refine law_octets_spec (by assumption) (by dsimp only [inside, Cx.comp]; lia) (by lia) (by lia) ?_
    refine add_ints (by simp [dig_length]) ?_
    have o7 : Octs ([106, 188, 222, 240] ++ dig (body.length : Int) (Int.toNat 2) ++ [fi, 63] ++ dig (spread * 9) (Int.toNat 32)) :=
      (((Octs.mk (by decide) (.mk (by decide) (.two (by decide) (by decide)))).append (dig_octs _ _)).append (.two ofi (by decide))).append (dig_octs _ _)
    have n7 : ([106, 188, 222, 240] ++ dig (body.length : Int) (Int.toNat 2) ++ [fi, 63] ++ dig (spread * 9) (Int.toNat 32)).length = 40 := by
      simp only [List.length_append, dig_length]; rfl
    generalize [106, 188, 222, 240] ++ dig (body.length : Int) (Int.toNat 2) ++ [fi, 63] ++ dig (spread * 9) (Int.toNat 32) = octets at o7 n7 ⊢
    refine Sx_asg (Slot1.loc rfl) ?_ rfl
    refine Ev_bin ?_
    refine Ev_bin_nn rfl rfl ?_
    refine add_ints (by lia) ?_
    refine Ev_times (fun Q' h => by (refine Ev_int ?_); exact h) ?_
    refine Ev_bin_ni (by assumption) ?_
    refine mod_int (by decide) ?_
    refine AsInt.mk ?_
    rw [fmod_pos _ (by decide)]
    refine ⟨by lia, by lia, ?_⟩
    have or : Octs (List.replicate (behind % 4).toNat 9) := .rep (by decide)
    have nr : (List.replicate (behind % 4).toNat (9 : Int)).length ≤ 3 := by rw [List.length_replicate]; exact mod_le behind 3
    generalize List.replicate (behind % 4).toNat (9 : Int) = tail at or nr ⊢
    refine add_ints (by rw [List.length_append]; lia) ?_
    have o8 := (o7.append o6).append or
    have n8 : (octets ++ body ++ tail).length = octets.length + body.length + tail.length := by rw [List.length_append, List.length_append]
    generalize octets ++ body ++ tail = oct2 at o8 n8 ⊢
    have n81 : 1 ≤ oct2.length := by lia
    have n82 : oct2.length ≤ 172 := by lia
    clear n8 nr n7 n6 o6 o7 or
    refine Sx_rt ?_
    refine Ev_f G_law_bent ht ?_
    refine EvL_cons ?_
    refine Ev_f G_law_bent ht ?_
    refine EvL_nm rfl ?_
    refine EvL_cons ?_
    refine Ev_f G_law_digit (by assumption) ?_
    refine EvL_nm (by assumption) ?_
    refine EvL_i1 ?_
    refine law_digit_spec (by assumption) (by dsimp only [inside, Cx.comp]; lia) (by lia) (by decide) ?_
    refine EvL_nil ?_
    refine law_bent_spec ht (by dsimp only [inside, Cx.comp]; lia) (Nat.le_trans n82 (by decide)) n81 o8 fun b1 ob1 nb1 => ?_
    rw [← nb1] at n81 n82
    clear nb1
    refine EvL_cons ?_
    refine Ev_f G_law_digit (by assumption) ?_
    refine EvL_nm (by assumption) ?_
    refine EvL_i1 ?_
    refine law_digit_spec (by assumption) (by dsimp only [inside, Cx.comp]; lia) (by lia) (by decide) ?_
    refine EvL_nil ?_
    refine law_bent_spec ht (by dsimp only [inside, Cx.comp]; lia) (Nat.le_trans n82 (by decide)) n81 ob1 fun b2 ob2 nb2 => ?_
    rw [← nb2] at n81 n82
    clear nb2
    exact hQ _ ob2 n81 (Nat.le_trans n82 (by decide))
end
theorem n_in {c : Cx} {fd : FuncData} {N a : Addr} {k j : Nat} (h : j ≤ c.n) (hk : Nat.ble (k + 1) j = true) : k ≤ (inside c fd N a).n := Nat.le_sub_of_add_le (Nat.le_trans (Nat.le_of_ble_eq_true hk) h)
theorem n_comp {c : Cx} {scope : Scope} {cl : List (Str × Addr)} {C : Addr} {k : Nat} (h : k ≤ c.n) : k ≤ (c.comp scope cl C).n := h
section
variable {c : Cx} {ρ : PEnv} {Q : PV → Prop} {X : PX → Prop}
theorem rsh2 {x : Int} (q : Q (.int (x / 4))) : V2 c (binaryOp .RShift) (.int x) (.int 2) Q X := rshift_int (by decide) (by rw [show (Int.toNat 2) = 2 from rfl, fdiv_pow2, show (2 : Int) ^ 2 = 4 by decide]; exact q)
theorem rsh3 {x : Int} (q : Q (.int (x / 8))) : V2 c (binaryOp .RShift) (.int x) (.int 3) Q X := rshift_int (by decide) (by rw [show (Int.toNat 3) = 3 from rfl, fdiv_pow2, show (2 : Int) ^ 3 = 8 by decide]; exact q)
theorem rsh4 {x : Int} (q : Q (.int (x / 16))) : V2 c (binaryOp .RShift) (.int x) (.int 4) Q X := rshift_int (by decide) (by rw [show (Int.toNat 4) = 4 from rfl, fdiv_pow2, show (2 : Int) ^ 4 = 16 by decide]; exact q)
theorem rsh13 {x : Int} (q : Q (.int (x / 8192))) : V2 c (binaryOp .RShift) (.int x) (.int 13) Q X := rshift_int (by decide) (by rw [show (Int.toNat 13) = 13 from rfl, fdiv_pow2, show (2 : Int) ^ 13 = 8192 by decide]; exact q)
theorem rsh20 {x : Int} (q : Q (.int (x / 1048576))) : V2 c (binaryOp .RShift) (.int x) (.int 20) Q X := rshift_int (by decide) (by rw [show (Int.toNat 20) = 20 from rfl, fdiv_pow2, show (2 : Int) ^ 20 = 1048576 by decide]; exact q)
theorem rsh22 {x : Int} (q : Q (.int (x / 4194304))) : V2 c (binaryOp .RShift) (.int x) (.int 22) Q X := rshift_int (by decide) (by rw [show (Int.toNat 22) = 22 from rfl, fdiv_pow2, show (2 : Int) ^ 22 = 4194304 by decide]; exact q)
theorem rsh28 {x : Int} (q : Q (.int (x / 268435456))) : V2 c (binaryOp .RShift) (.int x) (.int 28) Q X := rshift_int (by decide) (by rw [show (Int.toNat 28) = 28 from rfl, fdiv_pow2, show (2 : Int) ^ 28 = 268435456 by decide]; exact q)
theorem msk1 {x : Int} (q : Q (.int (x % 2))) : V2 c (binaryOp .BitAnd) (.int x) (.int 1) Q X := and_int (by rw [show (1 : Int) = 2 ^ 1 - 1 by decide, kbt_mask, show (2 : Int) ^ 1 = 2 by decide]; exact q)
theorem msk2 {x : Int} (q : Q (.int (x % 4))) : V2 c (binaryOp .BitAnd) (.int x) (.int 3) Q X := and_int (by rw [show (3 : Int) = 2 ^ 2 - 1 by decide, kbt_mask, show (2 : Int) ^ 2 = 4 by decide]; exact q)
theorem msk4 {x : Int} (q : Q (.int (x % 16))) : V2 c (binaryOp .BitAnd) (.int x) (.int 15) Q X := and_int (by rw [show (15 : Int) = 2 ^ 4 - 1 by decide, kbt_mask, show (2 : Int) ^ 4 = 16 by decide]; exact q)
theorem msk6 {x : Int} (q : Q (.int (x % 64))) : V2 c (binaryOp .BitAnd) (.int x) (.int 63) Q X := and_int (by rw [show (63 : Int) = 2 ^ 6 - 1 by decide, kbt_mask, show (2 : Int) ^ 6 = 64 by decide]; exact q)
theorem msk13 {x : Int} (q : Q (.int (x % 8192))) : V2 c (binaryOp .BitAnd) (.int x) (.int 8191) Q X := and_int (by rw [show (8191 : Int) = 2 ^ 13 - 1 by decide, kbt_mask, show (2 : Int) ^ 13 = 8192 by decide]; exact q)
theorem msk20 {x : Int} (q : Q (.int (x % 1048576))) : V2 c (binaryOp .BitAnd) (.int x) (.int 1048575) Q X := and_int (by rw [show (1048575 : Int) = 2 ^ 20 - 1 by decide, kbt_mask, show (2 : Int) ^ 20 = 1048576 by decide]; exact q)
theorem modL2 {x : Int} (q : Q (.int (x % 2))) : V2 c (binaryOp .Mod) (.int x) (.int 2) Q X := mod_int (by decide) (by rw [fmod_pos _ (by decide)]; exact q)
theorem modL4 {x : Int} (q : Q (.int (x % 4))) : V2 c (binaryOp .Mod) (.int x) (.int 4) Q X := mod_int (by decide) (by rw [fmod_pos _ (by decide)]; exact q)
theorem modL8 {x : Int} (q : Q (.int (x % 8))) : V2 c (binaryOp .Mod) (.int x) (.int 8) Q X := mod_int (by decide) (by rw [fmod_pos _ (by decide)]; exact q)
theorem modL65535 {x : Int} (q : Q (.int (x % 65535))) : V2 c (binaryOp .Mod) (.int x) (.int 65535) Q X := mod_int (by decide) (by rw [fmod_pos _ (by decide)]; exact q)
theorem divL4 {x : Int} (q : Q (.int (x / 4))) : V2 c (binaryOp .FloorDiv) (.int x) (.int 4) Q X := fdiv_int (by decide) (PyProof.noPylong_small (by decide)) (by rw [fdiv_pos _ (by decide)]; exact q)
theorem divL8 {x : Int} (q : Q (.int (x / 8))) : V2 c (binaryOp .FloorDiv) (.int x) (.int 8) Q X := fdiv_int (by decide) (PyProof.noPylong_small (by decide)) (by rw [fdiv_pos _ (by decide)]; exact q)
theorem divL16 {x : Int} (q : Q (.int (x / 16))) : V2 c (binaryOp .FloorDiv) (.int x) (.int 16) Q X := fdiv_int (by decide) (PyProof.noPylong_small (by decide)) (by rw [fdiv_pos _ (by decide)]; exact q)
theorem mulL {x y : Int} (h : Builtin.Int.intBits y ≤ 64) (q : Q (.int (x * y))) : V2 c (binaryOp .Mult) (.int x) (.int y) Q X := mul_int (.of_right h) q
theorem Tr_name {QT : Bool → Prop} {x : Str} {px : Pos} (h : Ev c ρ (eval (.Name x px) c.env) (fun p => TV c p QT) X) : Tr c ρ (isTrue (.Name x px) c.env (eval (.Name x px) c.env)) QT X := Tr_val h
theorem Tr_attr {QT : Bool → Prop} {e : Expr} {x : Str} {px : Pos} (h : Ev c ρ (eval (.Attribute e x px) c.env) (fun p => TV c p QT) X) : Tr c ρ (isTrue (.Attribute e x px) c.env (eval (.Attribute e x px) c.env)) QT X := Tr_val h
theorem Tr_call {QT : Bool → Prop} {e : Expr} {es : List Expr} {ks : List Keyword} {px : Pos} (h : Ev c ρ (eval (.Call e es ks px) c.env) (fun p => TV c p QT) X) : Tr c ρ (isTrue (.Call e es ks px) c.env (eval (.Call e es ks px) c.env)) QT X := Tr_val h
noncomputable def LTup (Q : PV → Prop) (ps : List PV) : Prop := Nat.ble ps.length (2 ^ 20) = true ∧ Q (.tuple ps)
theorem LTup.mk {ps : List PV} (h : Nat.ble ps.length (2 ^ 20) = true) (q : Q (.tuple ps)) : LTup Q ps := ⟨h, q⟩
theorem EvL.mono {es : List Expr} : ∀ {Q1 Q2 : List PV → Prop}, (∀ ps, Q1 ps → Q2 ps) → EvL c ρ es Q1 X → EvL c ρ es Q2 X := by
  induction es with
  | nil => intro Q1 Q2 hq h; exact hq _ h
  | cons e es ih => intro Q1 Q2 hq h; exact Ev.mono h (fun p hp => ih (fun ps => hq _) hp) fun _ z => z
theorem Ev_tup {es : List Expr} {k : Nat} {pos : Pos} (h : EvL c ρ es (LTup Q) X) (hs : starEach es c.env = es.map (fun e => (false, eval e c.env)) := by rfl) : Ev c ρ (eval (.Tuple es k pos) c.env) Q X :=
  Ev_tuple (h.mono fun ps hp => ⟨Nat.le_of_ble_eq_true hp.1, hp.2⟩) hs
noncomputable def LLst (Q : PV → Prop) (ps : List PV) : Prop := Nat.ble ps.length (2 ^ 20) = true ∧ Q (.list ps)
theorem LLst.mk {ps : List PV} (h : Nat.ble ps.length (2 ^ 20) = true) (q : Q (.list ps)) : LLst Q ps := ⟨h, q⟩
theorem Ev_lst {es : List Expr} {pos : Pos} (h : EvL c ρ es (LLst Q) X) (hs : starEach es c.env = es.map (fun e => (false, eval e c.env)) := by rfl) : Ev c ρ (eval (.List es pos) c.env) Q X :=
  Ev_list (h.mono fun ps hp => ⟨Nat.le_of_ble_eq_true hp.1, hp.2⟩) hs
noncomputable def nth : Nat → List PV → Option PV
  | _, [] => none
  | 0, a :: _ => some a
  | n + 1, _ :: r => nth n r
theorem nth_eq : ∀ (l : List PV) (n : Nat), nth n l = l[n]?
  | [], n => by rw [List.getElem?_nil]; cases n <;> rfl
  | _ :: _, 0 => rfl
  | _ :: r, n + 1 => by rw [List.getElem?_cons_succ]; exact nth_eq r n
theorem item_tup {l : List PV} {k : Int} {p : PV} (h : (Int.decLe 0 k).decide = true ∧ Nat.ble l.length (2 ^ 20) = true ∧ nth k.toNat l = some p) (q : Q p) : ItemV c (.tuple l) (.int k) Q X :=
  item_tuple (of_decide_eq_true h.1) (Nat.le_of_ble_eq_true h.2.1) ((nth_eq _ _).symm.trans h.2.2) q
theorem number_cut {p : PV} {l : List Int} {a b : Int} (ht : c.Txt) (hn : 1 ≤ c.n) (hb : Buf p l) (ho : Octs l) (hl : l.length ≤ 1000) (q : Q (.int (sub l a b))) :
    CutV c p (some a) (some b) (fun p' => CallV c (.ref 65) [p'] Q X) X :=
  cut_buf hb (by lia) fun p' hb' => number_of_spec ht hn hb' (ho.cut _ _) (Nat.le_trans cutL_len hl) q
theorem item_b {p : PV} {l : List Int} {k : Int} (hb : Buf p l) (hl : l.length ≤ 1000) (h0 : 0 ≤ k) (h : k < l.length) (q : Q (.int (at0 l k))) : ItemV c p (.int k) Q X :=
  item_buf hb h0 (by lia) (at0_some h0 h) q
theorem len_b {p : PV} {l : List Int} (hb : Buf p l) (hl : l.length ≤ 1000) (q : Q (.int l.length)) : CallV c (.builtin "len") [p] Q X := len_buf hb (by lia) q
end
section
variable {c : Cx} {Q : PV → Prop} {X : PX → Prop}
theorem any3 {k a b d : Int} : ([PyData.int a, .int b, .int d].any fun y => PyData.eqv y (.int k)) = decide (k = a ∨ k = b ∨ k = d) := by
  simp only [List.any_cons, List.any_nil, PyData.eqv]
  rw [Bool.eq_iff_iff]
  simp only [Bool.or_eq_true, beq_iff_eq, decide_eq_true_eq, Bool.false_eq_true, or_false]
  lia
theorem head_size_spec {k s : Int} (ht : c.Txt) (hn : 1 ≤ c.n) (hQ : Q (.int (hsz k s))) : CallV c (.ref 128) [.int k, .int s] Q X := by
  refine call2 F_head_size D_head_size ht hn "kind" "second" (fun v u => rfl) ⟨rfl, rfl⟩ (by decide) fun N F hmu hout => ?_
  unfold hsz at hQ
  dsimp only [D_head_size]
  refine Sx_iff ?_
  refine Tr_cmp_n rfl ?_
  refine Ev_tup ?_ rfl
  refine EvL_i ?_
  refine EvL_i ?_
  refine EvL_i1 ?_
  refine LTup.mk rfl ?_
  (refine' in_tuple ?ha ?hb ?_; (case ha => exact rfl); (case hb => exact rfl))
  rw [any3]
  refine TV_bool ?_
  refine ite_d (fun h => ?_) fun h => ?_
  · rw [if_pos h] at hQ
    refine Sx_rt ?_
    refine Ev_bin ?_
    refine Ev_bin_ni rfl ?_
    refine add_int ?_
    refine Ev_int ?_
    refine mulL (by decide) ?_
    exact hQ
  rw [if_neg h] at hQ
  refine Sx_nil ?_
  refine Sx_iff ?_
  refine Tr_cmp_ni rfl ?_
  refine eq_int ?_
  refine TV_bool ?_
  refine ite_eq (fun h => ?_) fun h => ?_
  · rw [if_pos h] at hQ
    refine Sx_rt ?_
    refine Ev_bin ?_
    refine Ev_bin_ni rfl ?_
    refine add_int ?_
    refine Ev_int ?_
    refine mulL (by decide) ?_
    exact hQ
  rw [if_neg h] at hQ
  refine Sx_nil ?_
  refine Sx_iff ?_
  refine Tr_cmp_ni rfl ?_
  refine eq_int ?_
  refine TV_bool ?_
  refine ite_eq (fun h => ?_) fun h => ?_
  · rw [if_pos h] at hQ
    refine Sx_rt ?_
    refine Ev_int ?_
    exact hQ
  rw [if_neg h] at hQ
  refine Sx_nil ?_
  refine Sx_rt ?_
  refine Ev_int ?_
  exact hQ
theorem size_at_spec {p : PV} {l : List Int} {a k e : Int} (ht : c.Txt) (hn : 2 ≤ c.n) (hb : Buf p l) (hl : l.length ≤ 1000) (h0 : 0 ≤ a) (he : e ≤ l.length) (hQ : Q (.int (szAt l a k e))) :
    CallV c (.ref 135) [p, .int a, .int k, .int e] Q X := by
  refine call4 F_size_at D_size_at ht (by lia) "octets" "at" "kind" "end" (fun v u w x => rfl) ⟨rfl, rfl, rfl, rfl⟩ (by decide) fun N F hmu hout => ?_
  unfold szAt at hQ
  dsimp only [D_size_at]
  refine Sx_iff ?_
  refine Tr_cmp ?_
  refine Ev_f G_head_size ht ?_
  refine EvL_nm rfl ?_
  refine EvL_i1 ?_
  refine head_size_spec ht (n_in (by assumption) rfl) ?_
  refine Ev_int ?_
  refine eq_int ?_
  refine TV_bool ?_
  refine ite_eq (fun h => ?_) fun h => ?_
  · rw [if_pos h] at hQ
    refine Sx_rt ?_
    refine Ev_int ?_
    exact hQ
  rw [if_neg h] at hQ
  refine Sx_nil ?_
  refine Sx_iff ?_
  refine Tr_cmp ?_
  refine Ev_bin_ni rfl ?_
  refine add_int ?_
  refine Ev_nm rfl ?_
  refine gt_int ?_
  refine TV_bool ?_
  refine ite_d (fun h => ?_) fun h => ?_
  · rw [if_pos h] at hQ
    refine Sx_rt ?_
    refine Ev_neg' ?_
    refine Ev_int ?_
    refine AsInt.mk ?_
    exact hQ
  rw [if_neg h] at hQ
  refine Sx_nil ?_
  refine Sx_asg (Slot1.loc rfl) ?_ rfl
  refine Ev_f G_head_size ht ?_
  refine EvL_nm rfl ?_
  refine EvL_cons ?_
  refine Ev_item_n rfl ?_ fun _ _ => rfl
  refine Ev_bin_ni rfl ?_
  refine add_int ?_
  refine item_b (by assumption) (by assumption) (by lia) (by lia) ?_
  refine EvL_nil ?_
  refine head_size_spec ht (n_in (by assumption) rfl) ?_
  refine Sx_iff ?_
  refine Tr_cmp ?_
  refine Ev_bin_nn rfl rfl ?_
  refine add_int ?_
  refine Ev_nm rfl ?_
  refine gt_int ?_
  refine TV_bool ?_
  refine ite_d (fun h => ?_) fun h => ?_
  · rw [if_pos h] at hQ
    refine Sx_rt ?_
    refine Ev_neg' ?_
    refine Ev_int ?_
    refine AsInt.mk ?_
    exact hQ
  rw [if_neg h] at hQ
  refine Sx_nil ?_
  refine Sx_rt ?_
  refine Ev_nm rfl ?_
  exact hQ
theorem place_at_spec {p : PV} {l : List Int} {a : Int} (ht : c.Txt) (hn : 2 ≤ c.n) (hb : Buf p l) (ho : Octs l) (hl : l.length ≤ 1000) (h0 : 0 ≤ a) (hQ : Q (.int (plAt l a))) :
    CallV c (.ref 142) [p, .int a] Q X := by
  refine call2 F_place_at D_place_at ht (by lia) "octets" "at" (fun v u => rfl) ⟨rfl, rfl⟩ (by decide) fun N F hmu hout => ?_
  dsimp only [D_place_at]
  refine Sx_rt ?_
  refine Ev_bin ?_
  refine Ev_f G_number_of (by assumption) ?_
  refine EvL_cons ?_
  refine Ev_cut_n rfl ?_
  refine EvO_some ?_
  refine Ev_bin_ni rfl ?_
  refine add_int ?_
  refine AsInt.mk ?_
  refine EvO_some ?_
  refine Ev_bin_ni rfl ?_
  refine add_int ?_
  refine AsInt.mk ?_
  refine number_cut (by assumption) (n_in (by assumption) rfl) (by assumption) (by assumption) (by assumption) ?_
  refine Ev_int ?_
  refine and_int ?_
  have r := sub_range ho (a + 2) (a + 4) 2 (by lia) (by lia)
  rw [and_65528 _ r.1 r.2]
  exact hQ
theorem look4_spec {p : PV} {l : List Int} (ht : c.Txt) (hn : 2 ≤ c.n) (hb : Buf p l) (ho : Octs l) (hl : l.length ≤ 1000) (hQ : Q (lkV (look4P l))) : CallV c (.ref 240) [p] Q X := by
  refine call1 F_look4 D_look4 ht (by lia) "data" (fun v => rfl) rfl fun N F hmu hout => ?_
  unfold look4P at hQ
  dsimp only [D_look4]
  refine Sx_iff ?_
  refine Tr_or ?_
  refine Tr_cmp ?_
  refine Ev_b B_len (by assumption) ?_
  refine EvL_nm1 rfl ?_
  refine len_b (by assumption) (by assumption) ?_
  refine Ev_int ?_
  refine lt_int ?_
  refine TV_bool ?_
  refine ite_d (fun h => ?_) fun h => ?_
  · rw [if_pos h] at hQ
    refine ite_T ?_
    refine Sx_rt ?_
    refine Ev_none ?_
    exact hQ
  rw [if_neg h] at hQ
  refine Tr_or ?_
  refine Tr_cmp ?_
  refine Ev_bin ?_
  refine Ev_item_ni rfl ?_
  refine item_b (by assumption) (by assumption) (by lia) (by lia) ?_
  refine Ev_int ?_
  refine rsh4 ?_
  refine Ev_int ?_
  refine ne_int ?_
  refine TV_bool ?_
  refine ite_ne (fun h => ?_) fun h => ?_
  · rw [if_pos h] at hQ
    refine ite_T ?_
    refine Sx_rt ?_
    refine Ev_none ?_
    exact hQ
  rw [if_neg (fun z => z h)] at hQ
  refine Tr_or_nil ?_
  refine ite_F ?_
  refine Sx_nil ?_
  refine Sx_asg (Slot1.loc rfl) ?_ rfl
  refine Ev_bin ?_
  refine Ev_bin ?_
  refine Ev_item_ni rfl ?_
  refine item_b (by assumption) (by assumption) (by lia) (by lia) ?_
  refine Ev_int ?_
  refine msk4 ?_
  refine Ev_int ?_
  refine mulL (by decide) ?_
  refine Sx_iff ?_
  refine Tr_or ?_
  refine Tr_cmp_ni rfl ?_
  refine lt_int ?_
  refine TV_bool ?_
  refine ite_d (fun h => ?_) fun h => ?_
  · rw [if_pos h] at hQ
    refine ite_T ?_
    refine Sx_rt ?_
    refine Ev_none ?_
    exact hQ
  rw [if_neg h] at hQ
  refine Tr_or ?_
  refine Tr_cmp_n rfl ?_
  refine Ev_b B_len (by assumption) ?_
  refine EvL_nm1 rfl ?_
  refine len_b (by assumption) (by assumption) ?_
  refine gt_int ?_
  refine TV_bool ?_
  refine ite_d (fun h => ?_) fun h => ?_
  · rw [if_pos h] at hQ
    refine ite_T ?_
    refine Sx_rt ?_
    refine Ev_none ?_
    exact hQ
  rw [if_neg h] at hQ
  refine Tr_or_nil ?_
  refine ite_F ?_
  refine Sx_nil ?_
  refine Sx_asg (Slot1.loc rfl) ?_ rfl
  refine Ev_f G_number_of (by assumption) ?_
  refine EvL_cons ?_
  refine Ev_cut_n rfl ?_
  refine EvO_i ?_
  refine EvO_i ?_
  refine number_cut (by assumption) (n_in (by assumption) rfl) (by assumption) (by assumption) (by assumption) ?_
  refine Sx_rt ?_
  refine Ev_tup ?_ rfl
  refine EvL_cons ?_
  refine Ev_item_ni rfl ?_
  refine item_b (by assumption) (by assumption) (by lia) (by lia) ?_
  refine EvL_nm rfl ?_
  refine EvL_cons ?_
  refine Ev_bin ?_
  refine Ev_bin_ni rfl ?_
  refine msk13 ?_
  refine Ev_int ?_
  refine mulL (by decide) ?_
  refine EvL_cons ?_
  refine Ev_cmp ?_
  refine Ev_bin_ni rfl ?_
  refine and_int ?_
  refine Ev_int ?_
  refine ne_int ?_
  refine EvL_nil ?_
  refine LTup.mk rfl ?_
  rw [bit13]
  exact hQ
end
section
variable {c : Cx} {Q : PV → Prop} {X : PX → Prop}
theorem later {A G : Prop} (k : G → A) (g : G) : A := k g
inductive InvL6 (l : List Int) (p : PV) (s0 : Option (List Hd × Int × Int)) (n : Nat) (ρ : PEnv) (σ : Ow) : Prop
  | mk (e : σ = none) (h1 : lk ρ "data" = some p) (hs : List Hd) (k a : Int) (h2 : lk ρ "kind" = some (.int k)) (h3 : lk ρ "at" = some (.int a)) (h4 : lk ρ "place" = some (.int (frag hs / 8 * 8)))
    (h5 : lk ρ "is_more" = some (.bool (decide (frag hs % 2 = 1)))) (k1 : 0 ≤ k) (a1 : 40 ≤ a) (a2 : a ≤ l.length) (n1 : 1 ≤ n)
    (hh : (frag hs / 8 * 8 = 0 ∧ l.length + 2 ≤ a + n ∧ s0 = (scan l l.length (n - 1) k a).map (pre hs)) ∨ (frag hs / 8 * 8 ≠ 0 ∧ s0 = some (hs, k, a)))
theorem look6_spec {p : PV} {l : List Int} (ht : c.Txt) (hn : 3 ≤ c.n) (hb : Buf p l) (ho : Octs l) (hl : l.length ≤ 1000) (hQ : Q (lkV (look6P l))) : CallV c (.ref 177) [p] Q X := by
  refine call1 F_look6 D_look6 ht (by lia) "data" (fun v => rfl) rfl fun N F hmu hout => ?_
  unfold look6P at hQ
  dsimp only [D_look6]
  refine Sx_iff ?_
  refine Tr_or ?_
  refine Tr_cmp ?_
  refine Ev_b B_len (by assumption) ?_
  refine EvL_nm1 rfl ?_
  refine len_b (by assumption) (by assumption) ?_
  refine Ev_int ?_
  refine lt_int ?_
  refine TV_bool ?_
  refine ite_d (fun h => ?_) fun h => ?_
  · rw [if_pos h] at hQ
    refine ite_T ?_
    refine Sx_rt ?_
    refine Ev_none ?_
    exact hQ
  rw [if_neg h] at hQ
  refine Tr_or ?_
  refine Tr_cmp ?_
  refine Ev_bin ?_
  refine Ev_item_ni rfl ?_
  refine item_b (by assumption) (by assumption) (by lia) (by lia) ?_
  refine Ev_int ?_
  refine rsh4 ?_
  refine Ev_int ?_
  refine ne_int ?_
  refine TV_bool ?_
  refine ite_ne (fun h => ?_) fun h => ?_
  · rw [if_pos h] at hQ
    refine ite_T ?_
    refine Sx_rt ?_
    refine Ev_none ?_
    exact hQ
  rw [if_neg (fun z => z h)] at hQ
  refine Tr_or_nil ?_
  refine ite_F ?_
  refine Sx_nil ?_
  refine Sx_asg (Slot1.loc rfl) ?_ rfl
  refine Ev_item_ni rfl ?_
  refine item_b (by assumption) (by assumption) (by lia) (by lia) ?_
  refine Sx_asg (Slot1.loc rfl) ?_ rfl
  refine Ev_int ?_
  refine Sx_asg (Slot1.loc rfl) ?_ rfl
  refine Ev_int ?_
  refine Sx_asg (Slot1.loc rfl) ?_ rfl
  refine Ev_bool ?_
  refine Sx_cons ?_
  have r6 := (at0_range ho 6).1
  generalize at0 l 6 = k0 at r6 hQ
  have sh : l.length + 2 ≤ (40 : Int) + (1001 : Nat) := by lia
  generalize hs0 : scan l l.length 1000 k0 40 = s0 at hQ
  have st : s0 = (scan l l.length 1000 k0 40).map (pre []) := by rw [hs0]; cases s0 <;> rfl
  clear hs0
  refine Sx_while 1001 (LoopW_inv (InvL6 l p s0) ?_ ?_ 1001 _ _
      ⟨rfl, rfl, [], k0, 40, rfl, rfl, rfl, rfl, r6, Int.le_refl _, Int.not_lt.mp ‹_›, by decide, .inl ⟨rfl, sh, st⟩⟩)
  · rintro ρ σ ⟨-, -, hs, k, a, -, -, -, -, -, -, -, h, -⟩
    exact absurd h (by decide)
  rintro n ρ σ ⟨rfl, h1, hs, k, a, h2, h3, h4, h5, k1, a1, a2, -, hh⟩
  clear sh st r6 h
  refine Tr_cmp_ni (by assumption) ?_
  refine eq_int ?_
  refine TV_bool ?_
  refine ite_eq (fun z => ?_) fun z => ?_
  · obtain ⟨-, fu, hh⟩ := hh.resolve_right fun y => y.1 z
    obtain ⟨m, rfl⟩ : ∃ m, n = m + 1 := ⟨n - 1, by lia⟩
    refine Sx_asg (Slot1.loc rfl) ?_ rfl
    refine Ev_f G_size_at ht ?_
    refine EvL_nm (by assumption) ?_
    refine EvL_nm (by assumption) ?_
    refine EvL_nm (by assumption) ?_
    refine EvL_cons ?_
    refine Ev_b B_len (by assumption) ?_
    refine EvL_nm1 (by assumption) ?_
    refine len_b (by assumption) (by assumption) ?_
    refine EvL_nil ?_
    refine size_at_spec ht (n_in (by assumption) rfl) hb hl (Int.le_trans (by decide) a1) (Int.le_refl _) ?_
    refine Sx_iff ?_
    refine Tr_or ?_
    refine Tr_cmp_ni rfl ?_
    refine lt_int ?_
    refine TV_bool ?_
    have none1 : szAt l a k l.length < 0 ∨ (k = 0 ∧ 40 < a) → Q .none := fun y => by rw [scan_none ho y hh] at hQ; exact hQ
    refine ite_d (fun y => ?_) fun y => ?_
    · refine ite_T ?_
      refine Sx_rt ?_
      refine Ev_none ?_
      exact none1 (.inl y)
    refine Tr_or ?_
    refine Tr_and ?_
    refine Tr_cmp_ni (by assumption) ?_
    refine eq_int ?_
    refine TV_bool ?_
    refine' later (G := ¬ (k = 0 ∧ 40 < a) → ?G) (fun key => ?k1) (fun x => ?k2)
    case k1 =>
      refine ite_eq (fun x => ?_) fun x => ?_
      · refine Tr_and ?_
        refine Tr_cmp_ni (by assumption) ?_
        refine gt_int ?_
        refine TV_bool ?_
        refine ite_d (fun x2 => ?_) fun x2 => ?_
        · refine Tr_and_nil ?_
          refine ite_T ?_
          refine ite_T ?_
          refine Sx_rt ?_
          refine Ev_none ?_
          exact none1 (.inr ⟨x, x2⟩)
        · refine ite_F ?_
          refine Tr_or_nil ?_
          refine ite_F ?_
          refine Sx_nil ?_
          refine Sx_iff ?_
          refine Tr_cmp_ni rfl ?_
          refine eq_int ?_
          refine TV_bool ?_
          exact key fun q => x2 q.2
      · refine ite_F ?_
        refine Tr_or_nil ?_
        refine ite_F ?_
        refine Sx_nil ?_
        refine Sx_iff ?_
        refine Tr_cmp_ni rfl ?_
        refine eq_int ?_
        refine TV_bool ?_
        exact key fun q => x q.1
    clear none1
    refine ite_eq (fun w => ?_) fun w => ?_
    · refine Sx_cons ?_
      refine Sx_break ?_
      refine Sx_rt ?_
      refine Ev_tup ?_ rfl
      refine EvL_nm (by assumption) ?_
      refine EvL_nm (by assumption) ?_
      refine EvL_nm (by assumption) ?_
      refine EvL_nm1 (by assumption) ?_
      refine LTup.mk rfl ?_
      rw [scan_end w hh] at hQ
      exact hQ
    have T := Turn.of ho k1 a1 y w
    have O := scan_on T x hh
    have t1 := T.hz
    have t2 := T.h4
    have t3 := T.h44
    clear x hh T y w
    generalize szAt l a k l.length = sz at O t1 t2 t3
    have a0 : 0 ≤ a := Int.le_trans (by decide) a1
    have b1 : 40 ≤ a + sz := by lia
    have b2 : a < l.length := by lia
    have b3 : (l.length : Int) + 2 ≤ a + sz + (m + 1 : Nat) := by lia
    have r0 := (at0_range ho a).1
    clear fu t2
    refine Sx_nil ?_
    refine Sx_iff ?_
    refine Tr_cmp_ni (by assumption) ?_
    refine eq_int ?_
    refine TV_bool ?_
    refine ite_eq (fun hk => ?_) fun hk => ?_
    · have s8 := t3 hk
      subst hk s8
      have e1 := plAt_frag hs a0 t1
      have e2 := more_frag hs a0 t1
      generalize cutL l (some (a + 1)) (some (a + 8)) = bd at e1 e2 O
      refine Sx_asg (Slot1.loc rfl) ?_ rfl
      refine Ev_f G_place_at ht ?_
      refine EvL_nm (by assumption) ?_
      refine EvL_nm1 (by assumption) ?_
      refine place_at_spec ht (n_in (by assumption) rfl) hb ho hl a0 ?_
      refine Sx_asg (Slot1.loc rfl) ?_ rfl
      refine Ev_cmp ?_
      refine Ev_bin ?_
      refine Ev_item_n (by assumption) ?_ fun _ _ => rfl
      refine Ev_bin_ni (by assumption) ?_
      refine add_int ?_
      refine item_b hb hl (Int.le_trans a0 (Int.le_add_of_nonneg_right (by decide))) (by lia) ?_
      refine Ev_int ?_
      refine msk1 ?_
      refine Ev_int ?_
      refine eq_int ?_
      refine Sx_nil ?_
      refine Sx_asg (Slot1.loc rfl) ?_ rfl
      refine Ev_item_nn (by assumption) (by assumption) ?_
      refine item_b hb hl a0 b2 ?_
      refine Sx_cons ?_
      refine Sx_aug (Slot1.loc rfl) (by assumption) ?_ (by decide)
      refine Ev_nm rfl ?_
      refine iadd_int ?_
      refine Sx_nil ?_
      rw [e1, e2]
      refine ⟨rfl, h1, hs ++ [(44, bd)], _, _, rfl, rfl, rfl, rfl, r0, b1, t1, Nat.succ_pos _, ?_⟩
      rw [e1] at O
      by_cases z2 : frag (hs ++ [(44, bd)]) / 8 * 8 = 0
      · exact .inl ⟨z2, b3, O.2 fun q => q.2 z2⟩
      · exact .inr ⟨z2, O.1 ⟨rfl, z2⟩⟩
    · have e1 := fragN (b := cutL l (some (a + 1)) (some (a + sz))) hs hk
      generalize cutL l (some (a + 1)) (some (a + sz)) = bd at e1 O
      refine Sx_nil ?_
      refine Sx_asg (Slot1.loc rfl) ?_ rfl
      refine Ev_item_nn (by assumption) (by assumption) ?_
      refine item_b hb hl a0 b2 ?_
      refine Sx_cons ?_
      refine Sx_aug (Slot1.loc rfl) (by assumption) ?_ (by decide)
      refine Ev_nm rfl ?_
      refine iadd_int ?_
      refine Sx_nil ?_
      refine ⟨rfl, h1, hs ++ [(k, bd)], _, _, rfl, rfl, by rw [e1]; exact h4, by rw [e1]; exact h5, r0, b1, t1, Nat.succ_pos _, .inl ⟨by rw [e1]; exact z, b3, O.2 fun q => hk q.1⟩⟩
  · have hh := (hh.resolve_left fun y => z y.1).2
    rw [hh] at hQ
    refine Sx_rt ?_
    refine Ev_tup ?_ rfl
    refine EvL_nm (by assumption) ?_
    refine EvL_nm (by assumption) ?_
    refine EvL_nm (by assumption) ?_
    refine EvL_nm1 (by assumption) ?_
    refine LTup.mk rfl ?_
    exact hQ
end
theorem XC_bad (P : Params) (S : Setting) : ExcC (hd.heap_1 P) S 56 28 where
  cls := ⟨_, _, _, _, rfl, rfl, rfl⟩
  call := by kernel_rfl
  typ := by kernel_rfl
  made := by kernel_rfl
  check := fun v => by kernel_rfl
  self := by kernel_rfl
  exc := by kernel_rfl
  base := by kernel_rfl
  noAttr := by kernel_rfl
  noName := by kernel_rfl
  here := by kernel_rfl
  find := by kernel_rfl
  fn := by kernel_rfl
  meta_ := by kernel_rfl
theorem SX_why (P : Params) : SetX (hd.heap_1 P) 56 "why" where
  set := by kernel_rfl
  cls := ⟨_, rfl, rfl, by kernel_rfl, rfl, fun self => by kernel_rfl⟩
  taker := by kernel_rfl
theorem SX_at (P : Params) : SetX (hd.heap_1 P) 56 "at" where
  set := by kernel_rfl
  cls := ⟨_, rfl, rfl, by kernel_rfl, rfl, fun self => by kernel_rfl⟩
  taker := by kernel_rfl
theorem GX_why (P : Params) : GetX (hd.heap_1 P) 56 "why" where
  ga := by kernel_rfl
  gh := by kernel_rfl
  base := by kernel_rfl
  self := by kernel_rfl
  dict := by kernel_rfl
  none := by kernel_rfl
  meta_ := by kernel_rfl
noncomputable def XT_bad (P : Params) : ExcT (hd.heap_1 P) 56 28 where
  fd := _
  o := _
  base := XC_bad P
  why := SX_why P
  at_ := SX_at P
  init := by kernel_rfl
  keep := by kernel_rfl
  look := rfl
  data := rfl
  code := by kernel_rfl
  body := rfl
  plain := ⟨rfl, rfl, rfl, rfl, rfl, rfl⟩
  bind := fun v0 v1 => rfl
  kself := rfl
  kwhy := rfl
  kexc := rfl
  gexc := rfl
  bexc := rfl
  pl := _
  call := fun N => rfl
structure ClsK (C : Addr) : Prop where
  get : ∀ P name, plainGet (hd.heap_1 P) C name = true
  dict : ∀ P, hasDictIn (hd.heap_1 P) C = true
  ng : ∀ P, noGet (hd.heap_1 P) none = true
  set : ∀ P, findIn (hd.heap_1 P) (.ref C) "__setattr__" = some (some (.builtin "object.__setattr__"))
  over : ∀ P, plainOver (hd.heap_1 P) C = true
  dict2 : ∀ P, (clsIn (hd.heap_1 P) C).any (·.hasDict) = true
  str : ∀ P, kin_notT (hd.heap_1 P) C "str" = true
  ha : ∀ P, findIn (hd.heap_1 P) (.ref C) "__class__" = some (some (.builtin "object.__class__"))
  hn : ∀ P, specialIn (hd.heap_1 P) (.builtin "object.__class__") "__get__" = some (some (.builtin "getset_descriptor.__get__"))
  htk : ∀ P, takesIn (hd.heap_1 P) (.builtin "object.__class__") = some true
  hm : ∀ P, mroIn (hd.heap_1 P) C (.type "object") = some true
theorem CK4 : ClsK 194 := ⟨fun P n => by kernel_rfl, fun P => by kernel_rfl, fun P => by kernel_rfl, fun P => by kernel_rfl, fun P => by kernel_rfl, fun P => by kernel_rfl, fun P => by kernel_rfl, fun P => by kernel_rfl, fun P => by kernel_rfl, fun P => by kernel_rfl, fun P => by kernel_rfl⟩
theorem CK6 : ClsK 117 := ⟨fun P n => by kernel_rfl, fun P => by kernel_rfl, fun P => by kernel_rfl, fun P => by kernel_rfl, fun P => by kernel_rfl, fun P => by kernel_rfl, fun P => by kernel_rfl, fun P => by kernel_rfl, fun P => by kernel_rfl, fun P => by kernel_rfl, fun P => by kernel_rfl⟩
theorem CKp : ClsK 264 := ⟨fun P n => by kernel_rfl, fun P => by kernel_rfl, fun P => by kernel_rfl, fun P => by kernel_rfl, fun P => by kernel_rfl, fun P => by kernel_rfl, fun P => by kernel_rfl, fun P => by kernel_rfl, fun P => by kernel_rfl, fun P => by kernel_rfl, fun P => by kernel_rfl⟩
theorem MK4 (P : Params) : MakeA (hd.heap_1 P) 194 191 := ⟨by kernel_rfl, by kernel_rfl, by kernel_rfl⟩
theorem MK6 (P : Params) : MakeA (hd.heap_1 P) 117 114 := ⟨by kernel_rfl, by kernel_rfl, by kernel_rfl⟩
theorem MKp (P : Params) : MakeA (hd.heap_1 P) 264 261 := ⟨by kernel_rfl, by kernel_rfl, by kernel_rfl⟩
noncomputable def F_init4 : Fn 191 := ⟨_, fun _ => ⟨_, rfl, rfl⟩, fun _ => by kernel_rfl, ⟨rfl, rfl, rfl, rfl, rfl, rfl⟩⟩
noncomputable def D_init4 : Bd F_init4 := ⟨_, rfl⟩
noncomputable def F_init6 : Fn 114 := ⟨_, fun _ => ⟨_, rfl, rfl⟩, fun _ => by kernel_rfl, ⟨rfl, rfl, rfl, rfl, rfl, rfl⟩⟩
noncomputable def D_init6 : Bd F_init6 := ⟨_, rfl⟩
noncomputable def F_initP : Fn 261 := ⟨_, fun _ => ⟨_, rfl, rfl⟩, fun _ => by kernel_rfl, ⟨rfl, rfl, rfl, rfl, rfl, rfl⟩⟩
noncomputable def D_initP : Bd F_initP := ⟨_, rfl⟩
theorem G_BadPacket : Glob "BadPacket" (.ref 56) := ⟨fun _ => rfl, fun _ => by kernel_rfl, by decide⟩
theorem ClsK.attr {c : Cx} {C : Addr} {name : Str} (h : ClsK C) (ht : c.Txt) (hf : ∀ P, findIn (hd.heap_1 P) (.ref C) name = some none) : Attr c C name := by
  unfold Cx.Txt at ht
  exact ⟨by rw [ht]; exact h.get _ _, by rw [ht]; exact h.dict _, none, by rw [ht]; exact ⟨hf _, h.ng _⟩⟩
theorem ClsK.setA {c : Cx} {C : Addr} {name : Str} (h : ClsK C) (ht : c.Txt) (hf : ∀ P, takerIn (hd.heap_1 P) C name = some none) : SetA c.W.K C name := by
  unfold Cx.Txt at ht
  exact ⟨by rw [ht]; exact h.set _, by rw [ht]; exact h.over _, by rw [ht]; exact hf _, by rw [ht]; exact h.dict2 _⟩
theorem ClsK.notStr {c : Cx} {C : Addr} (h : ClsK C) (ht : c.Txt) : IsNotStr c C := by
  unfold Cx.Txt at ht
  exact ⟨by rw [ht]; exact h.str _, by rw [ht]; exact h.get _ _, by rw [ht]; exact h.dict _, by rw [ht]; exact h.ha _, by rw [ht]; exact h.hn _, by rw [ht]; exact h.htk _, by rw [ht]; exact h.hm _⟩
section
variable {c : Cx} {F : Fm} {ρ : PEnv} {σ : Ow} {K : PK} {Q : PV → Prop} {X : PX → Prop}
theorem Ev_at {x name : Str} {C : Addr} {fs : List (Str × PV)} {q : PV} {xp pos : Pos} (hx : ρ.lookup x = some (.inst C fs)) (hC : ClsK C) (ht : c.Txt) (hf : ∀ P, findIn (hd.heap_1 P) (.ref C) name = some none)
    (hl : fs.lookup name = some q) (hq : notAny q = true) (h : Q q) (hd : (x == ("__debug__" : Str)) = false) (hn : (x == ("__classdict__" : Str)) = false)
    (he : eval (.Attribute (.Name x xp) name pos) c.env = (do
      let o ← eval (.Name x xp) c.env
      standAt pos.atName
      let r ← holding [o] (getAttr o name true)
      letTemporaryGo (.Name x xp) o r
      pure r)) : Ev c ρ (eval (.Attribute (.Name x xp) name pos) c.env) Q X :=
  Ev_attr (Ev_name hx ⟨hC.attr ht hf, q, hl, hq, h⟩ hd hn) he
theorem Sx_bad {p1 p2 p3 p4 : Pos} {k : Nat} {msg : Str} (ht : c.Txt) (hn : 2 ≤ c.n) (hE : K.exc ⟨56, msg⟩) (hk : c.env.kindOf "BadPacket" = some .globalImplicit) :
    Sx c F ρ σ (exec (.Raise (some (.Call (.Name "BadPacket" p1) [.Constant (.str msg) k p2] [] p3)) none p4) c.env) K :=
  Sx_raise ((show c.W.K = _ from ht) ▸ XT_bad c.W.w.params) (G_BadPacket.name ht hk) hn hE
theorem Sx_sa {x name : Str} {a C : Addr} {fs : List (Str × PV)} {xp ap pos : Pos} {e : Expr} (hC : ClsK C) (ht : c.Txt) (hf : ∀ P, takerIn (hd.heap_1 P) C name = some none) (hz : Nat.ble fs.length 100 = true) (h : Ev c ρ (eval e c.env) (fun p => K.next ρ (some (x, a, .inst C (putF name p fs)))) K.exc)
    (hs : swapsWith e (some (.Attribute (.Name x xp) name ap)) pos.line c.env = pure false) (hd : (x == ("__debug__" : Str)) = false) (hn : (x == ("__classdict__" : Str)) = false) :
    Sx c F ρ (some (x, a, .inst C fs)) (exec (.Assign [.Attribute (.Name x xp) name ap] e pos) c.env) K :=
  Sx_setattr (hC.setA ht hf) (Nat.le_of_ble_eq_true hz) h hs hd hn
theorem Sx_retF {x : Str} {a : Addr} {ow : Own} {e : Expr} {pos : Pos} (hmu : F.mu = []) (h : Ev c ((x, match ow with | .list l => .list l | .inst C fs => .inst C fs | .dict _ => .any) :: ρ) (eval e c.env) (fun p => K.ret p none) K.exc) :
    Sx c F ρ (some (x, a, ow)) (exec (.Return (some e) pos) c.env) K := Sx_freeze hmu (Sx_ret h)
theorem Sx_ifL {x : Str} {a C : Addr} {fs : List (Str × PV)} {e : Expr} {b o : List Stmt} {pos : Pos} (h : Tr c ((x, .inst C fs) :: ρ) (isTrue e c.env (eval e c.env)) (fun z => if z then Sx c F ρ (some (x, a, .inst C fs)) (execs b c.env) K else Sx c F ρ (some (x, a, .inst C fs)) (execs o c.env) K) K.exc) :
    Sx c F ρ (some (x, a, .inst C fs)) (exec (.If e b o pos) c.env) K := Sx_ifS (TrS.lend h)
theorem list4 {α : Type} {vs : List α} (h : 4 = vs.length) : ∃ a b d e, vs = [a, b, d, e] := by
  obtain _ | ⟨a, _ | ⟨b, _ | ⟨d, _ | ⟨e, _ | ⟨f, r⟩⟩⟩⟩⟩ := vs
  · cases h
  · cases h
  · cases h
  · cases h
  · exact ⟨a, b, d, e, rfl⟩
  · simp only [List.length_cons] at h
    exact absurd h (by lia)
noncomputable abbrev ip4F (s t p d : PV) (ttl ident flags place dscp ecn : Int) (options : List Int) : List (Str × PV) :=
  [("source", s), ("target", t), ("protocol", p), ("data", d), ("ttl", .int ttl), ("ident", .int ident), ("flags", .int flags), ("place", .int place), ("dscp", .int dscp), ("ecn", .int ecn), ("options", .bytes options)]
theorem new_ip4 {s t p d : PV} {Q : List (Str × PV) → Prop} (ht : c.Txt) (hn : 2 ≤ c.n) (hQ : Q (ip4F s t p d 64 0 0 0 0 0 [])) : CallN c 194 [s, t, p, d] Q := by
  have ht' := ht
  unfold Cx.Txt at ht
  obtain ⟨o, h1, h2⟩ := F_init4.look c.W.w.params
  refine call_new (names := ["source", "target", "protocol", "data"]) (self := "self") (by rw [ht]; exact MK4 _) (by rw [ht]; exact h1) h2 (by rw [ht]; exact F_init4.code _) D_init4.2 F_init4.plain hn (fun v0 vs h => ?_) rfl ?_ (by decide) fun N F vs a hmu hout => ?_
  · obtain ⟨a, b, d, e, rfl⟩ := list4 h
    rfl
  · simp only [List.forall_mem_cons]
    exact ⟨.inl rfl, .inl rfl, .inl rfl, .inl rfl, .inl rfl, fun x h => nomatch h⟩
  dsimp only [D_init4]
  refine Sx_cons ?_
  refine Sx_sa CK4 (by assumption) (fun _ => by kernel_rfl) (by kernel_rfl) ?_ rfl (by decide) (by decide)
  refine Ev_nm rfl ?_
  refine Sx_cons ?_
  refine Sx_sa CK4 (by assumption) (fun _ => by kernel_rfl) (by kernel_rfl) ?_ rfl (by decide) (by decide)
  refine Ev_nm rfl ?_
  refine Sx_cons ?_
  refine Sx_sa CK4 (by assumption) (fun _ => by kernel_rfl) (by kernel_rfl) ?_ rfl (by decide) (by decide)
  refine Ev_nm rfl ?_
  refine Sx_cons ?_
  refine Sx_sa CK4 (by assumption) (fun _ => by kernel_rfl) (by kernel_rfl) ?_ rfl (by decide) (by decide)
  refine Ev_nm rfl ?_
  refine Sx_cons ?_
  refine Sx_sa CK4 (by assumption) (fun _ => by kernel_rfl) (by kernel_rfl) ?_ rfl (by decide) (by decide)
  refine Ev_int ?_
  refine Sx_cons ?_
  refine Sx_sa CK4 (by assumption) (fun _ => by kernel_rfl) (by kernel_rfl) ?_ rfl (by decide) (by decide)
  refine Ev_int ?_
  refine Sx_cons ?_
  refine Sx_sa CK4 (by assumption) (fun _ => by kernel_rfl) (by kernel_rfl) ?_ rfl (by decide) (by decide)
  refine Ev_int ?_
  refine Sx_cons ?_
  refine Sx_sa CK4 (by assumption) (fun _ => by kernel_rfl) (by kernel_rfl) ?_ rfl (by decide) (by decide)
  refine Ev_int ?_
  refine Sx_cons ?_
  refine Sx_sa CK4 (by assumption) (fun _ => by kernel_rfl) (by kernel_rfl) ?_ rfl (by decide) (by decide)
  refine Ev_int ?_
  refine Sx_cons ?_
  refine Sx_sa CK4 (by assumption) (fun _ => by kernel_rfl) (by kernel_rfl) ?_ rfl (by decide) (by decide)
  refine Ev_int ?_
  refine Sx_cons ?_
  refine Sx_sa CK4 (by assumption) (fun _ => by kernel_rfl) (by kernel_rfl) ?_ rfl (by decide) (by decide)
  refine Ev_bytes ?_
  refine Sx_nil ?_
  exact ⟨_, _, rfl, Eq.mp (congrArg Q (by kernel_rfl)) hQ⟩
noncomputable abbrev ip6F (s t p d h : PV) (hop dscp ecn flow : Int) : List (Str × PV) :=
  [("source", s), ("target", t), ("protocol", p), ("data", d), ("heads", h), ("hop", .int hop), ("dscp", .int dscp), ("ecn", .int ecn), ("flow", .int flow)]
theorem new_ip6 {s t p d : PV} {Q : List (Str × PV) → Prop} (ht : c.Txt) (hn : 2 ≤ c.n) (hQ : Q (ip6F s t p d (.list []) 64 0 0 0)) : CallN c 117 [s, t, p, d] Q := by
  have ht' := ht
  unfold Cx.Txt at ht
  obtain ⟨o, h1, h2⟩ := F_init6.look c.W.w.params
  refine call_new (names := ["source", "target", "protocol", "data"]) (self := "self") (by rw [ht]; exact MK6 _) (by rw [ht]; exact h1) h2 (by rw [ht]; exact F_init6.code _) D_init6.2 F_init6.plain hn (fun v0 vs h => ?_) rfl ?_ (by decide) fun N F vs a hmu hout => ?_
  · obtain ⟨a, b, d, e, rfl⟩ := list4 h
    rfl
  · simp only [List.forall_mem_cons]
    exact ⟨.inl rfl, .inl rfl, .inl rfl, .inl rfl, .inl rfl, fun x h => nomatch h⟩
  dsimp only [D_init6]
  refine Sx_cons ?_
  refine Sx_sa CK6 (by assumption) (fun _ => by kernel_rfl) (by kernel_rfl) ?_ rfl (by decide) (by decide)
  refine Ev_nm rfl ?_
  refine Sx_cons ?_
  refine Sx_sa CK6 (by assumption) (fun _ => by kernel_rfl) (by kernel_rfl) ?_ rfl (by decide) (by decide)
  refine Ev_nm rfl ?_
  refine Sx_cons ?_
  refine Sx_sa CK6 (by assumption) (fun _ => by kernel_rfl) (by kernel_rfl) ?_ rfl (by decide) (by decide)
  refine Ev_nm rfl ?_
  refine Sx_cons ?_
  refine Sx_sa CK6 (by assumption) (fun _ => by kernel_rfl) (by kernel_rfl) ?_ rfl (by decide) (by decide)
  refine Ev_nm rfl ?_
  refine Sx_cons ?_
  refine Sx_sa CK6 (by assumption) (fun _ => by kernel_rfl) (by kernel_rfl) ?_ rfl (by decide) (by decide)
  refine Ev_lst ?_ rfl
  refine EvL_nil ?_
  refine LLst.mk rfl ?_
  refine Sx_cons ?_
  refine Sx_sa CK6 (by assumption) (fun _ => by kernel_rfl) (by kernel_rfl) ?_ rfl (by decide) (by decide)
  refine Ev_int ?_
  refine Sx_cons ?_
  refine Sx_sa CK6 (by assumption) (fun _ => by kernel_rfl) (by kernel_rfl) ?_ rfl (by decide) (by decide)
  refine Ev_int ?_
  refine Sx_cons ?_
  refine Sx_sa CK6 (by assumption) (fun _ => by kernel_rfl) (by kernel_rfl) ?_ rfl (by decide) (by decide)
  refine Ev_int ?_
  refine Sx_cons ?_
  refine Sx_sa CK6 (by assumption) (fun _ => by kernel_rfl) (by kernel_rfl) ?_ rfl (by decide) (by decide)
  refine Ev_int ?_
  refine Sx_nil ?_
  exact ⟨_, _, rfl, Eq.mp (congrArg Q (by kernel_rfl)) hQ⟩
end
section
variable {c : Cx} {Q : PV → Prop} {X : PX → Prop}
theorem head_of_spec {l : List Int} (ht : c.Txt) (hn : 3 ≤ c.n) (ho : Octs l) (hl : l.length ≤ 1000) (hQ : match head4 l with | .inl w => X ⟨56, w⟩ | .inr r => Q (.tuple [.int r.1, .int r.2])) : CallV c (.ref 205) [.bytes l] Q X := by
  refine call1 F_head_of D_head_of ht (by lia) "octets" (fun v => rfl) rfl fun N F hmu hout => ?_
  have hb : Buf (.bytes l) l := .inl rfl
  unfold head4 at hQ
  dsimp only [D_head_of]
  refine Sx_iff ?_
  refine Tr_cmp ?_
  refine Ev_b B_len (by assumption) ?_
  refine EvL_nm1 rfl ?_
  refine len_b (by assumption) (by assumption) ?_
  refine Ev_int ?_
  refine lt_int ?_
  refine TV_bool ?_
  refine ite_d (fun h => ?_) fun h => ?_
  · rw [if_pos h] at hQ
    refine Sx_cons ?_
    refine Sx_bad (by assumption) (n_in (by assumption) rfl) ?_ rfl
    exact hQ
  rw [if_neg h] at hQ
  refine Sx_nil ?_
  refine Sx_iff ?_
  refine Tr_cmp ?_
  refine Ev_bin ?_
  refine Ev_item_ni rfl ?_
  refine item_b (by assumption) (by assumption) (by lia) (by lia) ?_
  refine Ev_int ?_
  refine rsh4 ?_
  refine Ev_int ?_
  refine ne_int ?_
  refine TV_bool ?_
  refine ite_ne (fun h => ?_) fun h => ?_
  · rw [if_pos h] at hQ
    refine Sx_cons ?_
    refine Sx_bad (by assumption) (n_in (by assumption) rfl) ?_ rfl
    exact hQ
  rw [if_neg (fun z => z h)] at hQ
  refine Sx_nil ?_
  refine Sx_asg (Slot1.loc rfl) ?_ rfl
  refine Ev_bin ?_
  refine Ev_bin ?_
  refine Ev_item_ni rfl ?_
  refine item_b (by assumption) (by assumption) (by lia) (by lia) ?_
  refine Ev_int ?_
  refine msk4 ?_
  refine Ev_int ?_
  refine mulL (by decide) ?_
  refine Sx_iff ?_
  refine Tr_or ?_
  refine Tr_cmp_ni rfl ?_
  refine lt_int ?_
  refine TV_bool ?_
  refine ite_d (fun h => ?_) fun h => ?_
  · rw [if_pos h] at hQ
    refine ite_T ?_
    refine Sx_cons ?_
    refine Sx_bad (by assumption) (n_in (by assumption) rfl) ?_ rfl
    exact hQ
  rw [if_neg h] at hQ
  refine Tr_or ?_
  refine Tr_cmp_n rfl ?_
  refine Ev_b B_len (by assumption) ?_
  refine EvL_nm1 rfl ?_
  refine len_b (by assumption) (by assumption) ?_
  refine gt_int ?_
  refine TV_bool ?_
  refine ite_d (fun h => ?_) fun h => ?_
  · rw [if_pos h] at hQ
    refine ite_T ?_
    refine Sx_cons ?_
    refine Sx_bad (by assumption) (n_in (by assumption) rfl) ?_ rfl
    exact hQ
  rw [if_neg h] at hQ
  refine Tr_or_nil ?_
  refine ite_F ?_
  refine Sx_nil ?_
  refine Sx_asg (Slot1.loc rfl) ?_ rfl
  refine Ev_f G_number_of (by assumption) ?_
  refine EvL_cons ?_
  refine Ev_cut_n rfl ?_
  refine EvO_i ?_
  refine EvO_i ?_
  refine number_cut (by assumption) (n_in (by assumption) rfl) (by assumption) (by assumption) (by assumption) ?_
  refine Sx_iff ?_
  refine Tr_or ?_
  refine Tr_cmp_n rfl ?_
  refine Ev_nm rfl ?_
  refine lt_int ?_
  refine TV_bool ?_
  refine ite_d (fun h => ?_) fun h => ?_
  · rw [if_pos h] at hQ
    refine ite_T ?_
    refine Sx_cons ?_
    refine Sx_bad (by assumption) (n_in (by assumption) rfl) ?_ rfl
    exact hQ
  rw [if_neg h] at hQ
  refine Tr_or ?_
  refine Tr_cmp_n rfl ?_
  refine Ev_b B_len (by assumption) ?_
  refine EvL_nm1 rfl ?_
  refine len_b (by assumption) (by assumption) ?_
  refine gt_int ?_
  refine TV_bool ?_
  refine ite_d (fun h => ?_) fun h => ?_
  · rw [if_pos h] at hQ
    refine ite_T ?_
    refine Sx_cons ?_
    refine Sx_bad (by assumption) (n_in (by assumption) rfl) ?_ rfl
    exact hQ
  rw [if_neg h] at hQ
  refine Tr_or_nil ?_
  refine ite_F ?_
  refine Sx_nil ?_
  refine Sx_iff ?_
  refine Tr_cmp ?_
  refine Ev_f G_sum16 ht ?_
  refine EvL_cons ?_
  refine Ev_cut_n rfl ?_
  refine EvO_none ?_
  refine EvO_nm rfl ?_
  refine cut_bytes (by lia) ?_
  have hz : 1 ≤ (top l (at0 l 0 % 16 * 4)).length := by rw [top_nn _ (by lia), List.length_take]; lia
  refine sum16_spec ht (n_in (by assumption) rfl) (ho.cut _ _) (Nat.le_trans cutL_len hl) hz ?_
  refine Ev_int ?_
  refine ne_int ?_
  refine TV_bool ?_
  refine ite_ne (fun h => ?_) fun h => ?_
  · rw [if_pos h] at hQ
    refine Sx_cons ?_
    refine Sx_bad (by assumption) (n_in (by assumption) rfl) ?_ rfl
    exact hQ
  rw [if_neg (fun z => z h)] at hQ
  refine Sx_nil ?_
  refine Sx_rt ?_
  refine Ev_tup ?_ rfl
  refine EvL_nm rfl ?_
  refine EvL_nm1 rfl ?_
  refine LTup.mk rfl ?_
  exact hQ
noncomputable def ip4V (l : List Int) (h t : Int) : PV := .inst 194 (ip4F (.int (sub l 12 16)) (.int (sub l 16 20)) (.int (at0 l 9)) (.bytes (cutL l (some h) (some t))) (at0 l 8) (sub l 4 6) (sub l 6 8 / 8192) (sub l 6 8 % 8192 * 8) (at0 l 1 / 4) (at0 l 1 % 4) (cutL l (some 20) (some h)))
theorem head4_len {l : List Int} {r : Int × Int} (h : head4 l = .inr r) : 20 ≤ r.1 ∧ r.1 ≤ r.2 ∧ r.2 ≤ l.length ∧ r.1 ≤ 60 := by
  unfold head4 at h
  repeat' split at h
  all_goals first | (cases h; done) | (cases h; dsimp only; lia)
theorem read_ipv4_spec {l : List Int} (ht : c.Txt) (hn : 4 ≤ c.n) (ho : Octs l) (hl : l.length ≤ 1000) (hQ : match head4 l with | .inl w => X ⟨56, w⟩ | .inr r => Q (ip4V l r.1 r.2)) : CallV c (.ref 212) [.bytes l] Q X := by
  refine call1 F_read_ipv4 D_read_ipv4 ht (by lia) "octets" (fun v => rfl) rfl fun N F hmu hout => ?_
  have hb : Buf (.bytes l) l := .inl rfl
  dsimp only [D_read_ipv4]
  refine Sx_cons ?_
  refine Sx_unpack (xs := ["head", "total"]) rfl (slots_cons (Slot1.loc rfl) (slots_cons (Slot1.loc rfl) slots_nil)) ?_
  refine Ev_f G_head_of ht ?_
  refine EvL_nm1 rfl ?_
  refine head_of_spec ht (n_in (by assumption) rfl) ho hl ?_
  cases hh : head4 l with
  | inl w => rw [hh] at hQ; exact hQ
  | inr r =>
    rw [hh] at hQ
    obtain ⟨h, t⟩ := r
    obtain ⟨h1, h2, h3, -⟩ := head4_len hh
    dsimp only at h1 h2 h3 hQ
    refine ⟨_, .inl rfl, rfl, ?_⟩
    dsimp only [binds]
    refine Sx_cons ?_
    refine Sx_new (C := 194) ?hx ?hC ?hk ?_ ?ha ?hs
    case hx => exact Slot1.loc rfl
    case hC => exact G_Ip4.name ht rfl
    case hk => exact G_Ip4.keeps ht
    case ha => rfl
    case hs => rfl
    refine EvL_cons ?_
    refine Ev_f G_number_of (by assumption) ?_
    refine EvL_cons ?_
    refine Ev_cut_n rfl ?_
    refine EvO_i ?_
    refine EvO_i ?_
    refine number_cut (by assumption) (n_in (by assumption) rfl) (by assumption) (by assumption) (by assumption) ?_
    refine EvL_cons ?_
    refine Ev_f G_number_of (by assumption) ?_
    refine EvL_cons ?_
    refine Ev_cut_n rfl ?_
    refine EvO_i ?_
    refine EvO_i ?_
    refine number_cut (by assumption) (n_in (by assumption) rfl) (by assumption) (by assumption) (by assumption) ?_
    refine EvL_cons ?_
    refine Ev_item_ni rfl ?_
    refine item_b (by assumption) (by assumption) (by lia) (by lia) ?_
    refine EvL_cons ?_
    refine Ev_t B_bytes (by assumption) ?_
    refine EvL_cons ?_
    refine Ev_cut_n rfl ?_
    refine EvO_nm rfl ?_
    refine EvO_nm rfl ?_
    refine cut_bytes (Nat.le_trans hl (by decide)) ?_
    refine bytes_bytes ?_
    refine EvL_nil ?_
    refine new_ip4 ht (n_in (by assumption) rfl) fun a => ?_
    refine Sx_cons ?_
    refine Sx_sa CK4 (by assumption) (fun _ => by kernel_rfl) (by kernel_rfl) ?_ rfl (by decide) (by decide)
    refine Ev_bin ?_
    refine Ev_item_ni rfl ?_
    refine item_b (by assumption) (by assumption) (by lia) (by lia) ?_
    refine Ev_int ?_
    refine rsh2 ?_
    refine Sx_cons ?_
    refine Sx_sa CK4 (by assumption) (fun _ => by kernel_rfl) (by kernel_rfl) ?_ rfl (by decide) (by decide)
    refine Ev_bin ?_
    refine Ev_item_ni rfl ?_
    refine item_b (by assumption) (by assumption) (by lia) (by lia) ?_
    refine Ev_int ?_
    refine msk2 ?_
    refine Sx_cons ?_
    refine Sx_sa CK4 (by assumption) (fun _ => by kernel_rfl) (by kernel_rfl) ?_ rfl (by decide) (by decide)
    refine Ev_f G_number_of (by assumption) ?_
    refine EvL_cons ?_
    refine Ev_cut_n rfl ?_
    refine EvO_i ?_
    refine EvO_i ?_
    refine number_cut (by assumption) (n_in (by assumption) rfl) (by assumption) (by assumption) (by assumption) ?_
    refine Sx_asg (Slot1.locO rfl rfl) ?_ rfl
    refine Ev_f G_number_of (by assumption) ?_
    refine EvL_cons ?_
    refine Ev_cut_n rfl ?_
    refine EvO_i ?_
    refine EvO_i ?_
    refine number_cut (by assumption) (n_in (by assumption) rfl) (by assumption) (by assumption) (by assumption) ?_
    refine Sx_cons ?_
    refine Sx_sa CK4 (by assumption) (fun _ => by kernel_rfl) (by kernel_rfl) ?_ rfl (by decide) (by decide)
    refine Ev_bin_ni rfl ?_
    refine rsh13 ?_
    refine Sx_cons ?_
    refine Sx_sa CK4 (by assumption) (fun _ => by kernel_rfl) (by kernel_rfl) ?_ rfl (by decide) (by decide)
    refine Ev_bin ?_
    refine Ev_bin_ni rfl ?_
    refine msk13 ?_
    refine Ev_int ?_
    refine mulL (by decide) ?_
    refine Sx_cons ?_
    refine Sx_sa CK4 (by assumption) (fun _ => by kernel_rfl) (by kernel_rfl) ?_ rfl (by decide) (by decide)
    refine Ev_item_ni rfl ?_
    refine item_b (by assumption) (by assumption) (by lia) (by lia) ?_
    refine Sx_cons ?_
    refine Sx_sa CK4 (by assumption) (fun _ => by kernel_rfl) (by kernel_rfl) ?_ rfl (by decide) (by decide)
    refine Ev_t B_bytes (by assumption) ?_
    refine EvL_cons ?_
    refine Ev_cut_n rfl ?_
    refine EvO_i ?_
    refine EvO_nm rfl ?_
    refine cut_bytes (Nat.le_trans hl (by decide)) ?_
    refine bytes_bytes ?_
    refine Sx_freeze hmu ?_
    refine Sx_rt ?_
    refine Ev_nm rfl ?_
    exact Eq.mp (congrArg Q (by kernel_rfl)) hQ
end
section
variable {c : Cx} {Q : PV → Prop} {X : PX → Prop}
theorem pad4_spec {l : List Int} (ht : c.Txt) (hn : 1 ≤ c.n) (hl : l.length ≤ 1000) (hz : -(l.length : Int) % 4 = 0) (hQ : Q (.bytes l)) : CallV c (.ref 77) [.bytes l] Q X := by
  refine call1 F_pad4 D_pad4 ht hn "octets" (fun v => rfl) rfl fun N F hmu hout => ?_
  have hb : Buf (.bytes l) l := .inl rfl
  dsimp only [D_pad4]
  refine Sx_rt ?_
  refine Ev_bin ?_
  refine Ev_t B_bytes (by assumption) ?_
  refine EvL_nm1 rfl ?_
  refine bytes_bytes ?_
  refine Ev_bin ?_
  refine Ev_bytes ?_
  refine Ev_bin ?_
  refine Ev_neg' ?_
  rw [show octs #[0] = [0] from rfl]
  refine Ev_b B_len (by assumption) ?_
  refine EvL_nm1 rfl ?_
  refine len_b (by assumption) (by assumption) ?_
  refine AsInt.mk ?_
  refine Ev_int ?_
  refine modL4 ?_
  rw [hz]
  refine mul_bytes (by decide) (by decide) (by decide) (by decide) ?_
  refine add_bytes (Nat.le_trans hl (by decide)) ?_
  show Q (.bytes (l ++ []))
  rw [List.append_nil]
  exact hQ
section
variable {s t p ttl ident flags place dscp ecn : Int} {d opt : List Int}
noncomputable abbrev ip4I (s t p ttl ident flags place dscp ecn : Int) (d opt : List Int) : PV := .inst 194 (ip4F (.int s) (.int t) (.int p) (.bytes d) ttl ident flags place dscp ecn opt)
theorem total_of_spec (ht : c.Txt) (hn : 2 ≤ c.n) (k : Ok4 s t p ttl ident flags place dscp ecn d opt) (hQ : Q (.int (20 + (opt.length : Int) + d.length))) : CallV c (.ref 219) [ip4I s t p ttl ident flags place dscp ecn d opt] Q X := by
  refine call1 F_total_of D_total_of ht (by lia) "ip" (fun v => rfl) rfl fun N F hmu hout => ?_
  dsimp only [D_total_of]
  refine Sx_rt ?_
  refine Ev_bin ?_
  refine Ev_bin_i ?_
  refine Ev_b B_len ht ?_
  refine EvL_cons ?_
  refine Ev_f G_pad4 ht ?_
  refine EvL_cons ?_
  refine Ev_at rfl CK4 (by assumption) (fun _ => by kernel_rfl) rfl rfl ?_ (by decide) (by decide) (by with_unfolding_all rfl)
  refine EvL_nil ?_
  refine pad4_spec ht (n_in (by assumption) rfl) k.c9 k.c8 ?_
  refine EvL_nil ?_
  refine len_b (.inl rfl) k.c9 ?_
  refine add_int ?_
  refine Ev_b B_len ht ?_
  refine EvL_cons ?_
  refine Ev_at rfl CK4 (by assumption) (fun _ => by kernel_rfl) rfl rfl ?_ (by decide) (by decide) (by with_unfolding_all rfl)
  refine EvL_nil ?_
  refine len_b (.inl rfl) k.c10 ?_
  refine add_int ?_
  exact hQ
theorem check_lengths_spec (ht : c.Txt) (hn : 3 ≤ c.n) (k : Ok4 s t p ttl ident flags place dscp ecn d opt) (hQ : Q .none) : CallV c (.ref 226) [ip4I s t p ttl ident flags place dscp ecn d opt] Q X := by
  refine call1 F_check_lengths D_check_lengths ht (by lia) "ip" (fun v => rfl) rfl fun N F hmu hout => ?_
  dsimp only [D_check_lengths]
  refine Sx_iff ?_
  refine Tr_cmp ?_
  refine Ev_b B_len ht ?_
  refine EvL_cons ?_
  refine Ev_at rfl CK4 (by assumption) (fun _ => by kernel_rfl) rfl rfl ?_ (by decide) (by decide) (by with_unfolding_all rfl)
  refine EvL_nil ?_
  refine len_b (.inl rfl) k.c9 ?_
  refine Ev_int ?_
  refine gt_int ?_
  refine TV_bool ?_
  refine ite_d (fun z => absurd z k.c1) fun _ => ?_
  refine Sx_nil ?_
  refine Sx_iff ?_
  refine Tr_cmp ?_
  refine Ev_f G_total_of ht ?_
  refine EvL_nm1 rfl ?_
  refine total_of_spec ht (n_in (by assumption) rfl) k ?_
  refine Ev_int ?_
  refine gt_int ?_
  refine TV_bool ?_
  refine ite_d (fun z => absurd z k.c2) fun _ => ?_
  refine Sx_nil ?_
  refine Sx_iff ?_
  refine Tr_or ?_
  refine Tr_cmp ?_
  refine Ev_at rfl CK4 (by assumption) (fun _ => by kernel_rfl) rfl rfl ?_ (by decide) (by decide) (by with_unfolding_all rfl)
  refine Ev_int ?_
  refine gt_int ?_
  refine TV_bool ?_
  refine ite_d (fun z => absurd z k.c3) fun _ => ?_
  refine Tr_or ?_
  refine Tr_cmp ?_
  refine Ev_at rfl CK4 (by assumption) (fun _ => by kernel_rfl) rfl rfl ?_ (by decide) (by decide) (by with_unfolding_all rfl)
  refine Ev_int ?_
  refine gt_int ?_
  refine TV_bool ?_
  refine ite_d (fun z => absurd z k.c4) fun _ => ?_
  refine Tr_or ?_
  refine Tr_cmp ?_
  refine Ev_at rfl CK4 (by assumption) (fun _ => by kernel_rfl) rfl rfl ?_ (by decide) (by decide) (by with_unfolding_all rfl)
  refine Ev_int ?_
  refine gt_int ?_
  refine TV_bool ?_
  refine ite_d (fun z => absurd z k.c5) fun _ => ?_
  refine Tr_or ?_
  refine Tr_cmp ?_
  refine Ev_at rfl CK4 (by assumption) (fun _ => by kernel_rfl) rfl rfl ?_ (by decide) (by decide) (by with_unfolding_all rfl)
  refine Ev_int ?_
  refine gt_int ?_
  refine TV_bool ?_
  refine ite_d (fun z => absurd z k.c6) fun _ => ?_
  refine Tr_or ?_
  refine Tr_cmp ?_
  refine Ev_bin ?_
  refine Ev_at rfl CK4 (by assumption) (fun _ => by kernel_rfl) rfl rfl ?_ (by decide) (by decide) (by with_unfolding_all rfl)
  refine Ev_int ?_
  refine modL8 ?_
  refine Ev_int ?_
  refine ne_int ?_
  refine TV_bool ?_
  refine ite_ne (fun z => absurd k.c7 z) fun _ => ?_
  refine Tr_or_nil ?_
  refine ite_F ?_
  refine Sx_nil ?_
  refine Sx_nil ?_
  exact hQ
theorem oct1 {n : Int} (ht : c.Txt) (hn : 2 ≤ c.n) (h0 : 0 ≤ n) (h1 : n < 256 ^ 1) (hQ : Q (.bytes (dig n 1))) : CallV c (.ref 70) [.int n, .int 1] Q X := octets_of_spec (k := 1) ht hn (by decide) h0 h1 hQ
theorem oct2 {n : Int} (ht : c.Txt) (hn : 2 ≤ c.n) (h0 : 0 ≤ n) (h1 : n < 256 ^ 2) (hQ : Q (.bytes (dig n 2))) : CallV c (.ref 70) [.int n, .int 2] Q X := octets_of_spec (k := 2) ht hn (by decide) h0 h1 hQ
theorem oct4 {n : Int} (ht : c.Txt) (hn : 2 ≤ c.n) (h0 : 0 ≤ n) (h1 : n < 256 ^ 4) (hQ : Q (.bytes (dig n 4))) : CallV c (.ref 70) [.int n, .int 4] Q X := octets_of_spec (k := 4) ht hn (by decide) h0 h1 hQ
theorem oct16 {n : Int} (ht : c.Txt) (hn : 2 ≤ c.n) (h0 : 0 ≤ n) (h1 : n < 256 ^ 16) (hQ : Q (.bytes (dig n 16))) : CallV c (.ref 70) [.int n, .int 16] Q X := octets_of_spec (k := 16) ht hn (by decide) h0 h1 hQ
theorem lsh_lit {x y : Int} (j : Nat) {d : Int} (hy : y = j) (hj : j ≤ 64) (h0 : 0 ≤ x) (h1 : x < 2 ^ 8) (hd : (2 : Int) ^ j = d) (q : Q (.int (x * d))) : V2 c (binaryOp .LShift) (.int x) (.int y) Q X := by
  subst hy
  refine lshift_int (Int.natCast_nonneg j) ?_ (by rw [Int.toNat_natCast, hd]; exact q)
  have := bits_le (k := 8) h0 h1
  lia
theorem or_lit {x b : Int} (k : Nat) (d : Int) (hd : (2 : Int) ^ k = d) (h0 : 0 ≤ b) (h1 : b < 2 ^ k) : Builtin.bitOr (x * d) b = x * d + b := by subst hd; exact or_low k x b h0 h1
theorem Sx_expr {F : Fm} {ρ : PEnv} {σ : Ow} {K : PK} {e : Expr} {pos : Pos} (h : Ev c ρ (eval e c.env) (fun _ => K.next ρ σ) K.exc) (hi : interactive c.env = false) (hs : swapsWith e none pos.line c.env = pure false) : Sx c F ρ σ (exec (.Expr e pos) c.env) K := fun I s S =>
  wpAny_Expr_any (h.then S.rd (fun v s' I' p a _ r q => ⟨I', a.le, ρ, σ, S.post a, q⟩) fun _ _ x a b => ⟨x, S.exn a, b⟩) hi hs
theorem add_dig {l m : List Int} (hz : Nat.ble (l.length + m.length) (2 ^ 20) = true) (q : Q (.bytes (l ++ m))) : V2 c (binaryOp .Add) (.bytes l) (.bytes m) Q X := add_bytes (Nat.le_of_ble_eq_true hz) q
theorem write_ipv4_spec (ht : c.Txt) (hn : 4 ≤ c.n) (k : Ok4 s t p ttl ident flags place dscp ecn d opt) (hQ : Q (.bytes (w4 s t p ttl ident flags place dscp ecn d opt))) : CallV c (.ref 233) [ip4I s t p ttl ident flags place dscp ecn d opt] Q X := by
  refine call1 F_write_ipv4 D_write_ipv4 ht (by lia) "ip" (fun v => rfl) rfl fun N F hmu hout => ?_
  dsimp only [D_write_ipv4]
  refine Sx_cons ?_
  refine Sx_expr ?_ rfl rfl
  refine Ev_f G_check_lengths ht ?_
  refine EvL_nm1 rfl ?_
  refine check_lengths_spec ht (n_in (by assumption) rfl) k ?_
  refine Sx_asg (Slot1.loc rfl) ?_ rfl
  refine Ev_f G_pad4 ht ?_
  refine EvL_cons ?_
  refine Ev_at rfl CK4 (by assumption) (fun _ => by kernel_rfl) rfl rfl ?_ (by decide) (by decide) (by with_unfolding_all rfl)
  refine EvL_nil ?_
  refine pad4_spec ht (n_in (by assumption) rfl) k.c9 k.c8 ?_
  refine Sx_asg (Slot1.loc rfl) ?_ rfl
  refine Ev_bin ?_
  refine Ev_bin ?_
  refine Ev_f G_octets_of ht ?_
  refine EvL_cons ?_
  refine Ev_bin_i ?_
  refine Ev_bin ?_
  refine Ev_b B_len ht ?_
  refine EvL_nm1 rfl ?_
  refine len_b (.inl rfl) k.c9 ?_
  refine Ev_int ?_
  refine divL4 ?_
  refine add_int ?_
  refine EvL_i1 ?_
  refine oct1 ht (n_in (by assumption) rfl) k.a0 k.a1 ?_
  refine Ev_f G_octets_of ht ?_
  refine EvL_cons ?_
  refine Ev_bin ?_
  refine Ev_bin ?_
  refine Ev_at rfl CK4 (by assumption) (fun _ => by kernel_rfl) rfl rfl ?_ (by decide) (by decide) (by with_unfolding_all rfl)
  refine Ev_int ?_
  refine lsh_lit (d := 4) 2 rfl (by decide) k.d0 (Int.lt_of_le_of_lt (Int.not_lt.mp k.c3) (by decide)) rfl ?_
  refine Ev_at rfl CK4 (by assumption) (fun _ => by kernel_rfl) rfl rfl ?_ (by decide) (by decide) (by with_unfolding_all rfl)
  refine or_int ?_
  refine EvL_i1 ?_
  rw [or_lit 2 4 rfl k.e0 k.e1]
  refine oct1 ht (n_in (by assumption) rfl) k.b0 k.b1 ?_
  refine add_dig rfl ?_
  refine Ev_f G_octets_of ht ?_
  refine EvL_cons ?_
  refine Ev_f G_total_of ht ?_
  refine EvL_nm1 rfl ?_
  refine total_of_spec ht (n_in (by assumption) rfl) k ?_
  refine EvL_i1 ?_
  refine oct2 ht (n_in (by assumption) rfl) k.n0 k.n1 ?_
  refine add_dig rfl ?_
  refine Sx_cons ?_
  refine Sx_aug (Slot1.loc rfl) rfl ?_ (by decide)
  refine Ev_bin ?_
  refine Ev_f G_octets_of ht ?_
  refine EvL_cons ?_
  refine Ev_at rfl CK4 (by assumption) (fun _ => by kernel_rfl) rfl rfl ?_ (by decide) (by decide) (by with_unfolding_all rfl)
  refine EvL_i1 ?_
  refine oct2 ht (n_in (by assumption) rfl) k.i0 k.i1 ?_
  refine Ev_f G_octets_of ht ?_
  refine EvL_cons ?_
  refine Ev_bin ?_
  refine Ev_bin ?_
  refine Ev_at rfl CK4 (by assumption) (fun _ => by kernel_rfl) rfl rfl ?_ (by decide) (by decide) (by with_unfolding_all rfl)
  refine Ev_int ?_
  refine lsh_lit (d := 8192) 13 rfl (by decide) k.f0 (Int.lt_of_le_of_lt (Int.not_lt.mp k.c5) (by decide)) rfl ?_
  refine Ev_bin ?_
  refine Ev_at rfl CK4 (by assumption) (fun _ => by kernel_rfl) rfl rfl ?_ (by decide) (by decide) (by with_unfolding_all rfl)
  refine Ev_int ?_
  refine rsh3 ?_
  refine or_int ?_
  refine EvL_i1 ?_
  rw [or_lit 13 8192 rfl k.h0 k.h1]
  refine oct2 ht (n_in (by assumption) rfl) k.g0 k.g1 ?_
  refine add_dig rfl ?_
  refine iadd_bytes (Nat.le_of_ble_eq_true rfl) ?_
  refine Sx_cons ?_
  refine Sx_aug (Slot1.loc rfl) rfl ?_ (by decide)
  refine Ev_bin ?_
  refine Ev_f G_octets_of ht ?_
  refine EvL_cons ?_
  refine Ev_at rfl CK4 (by assumption) (fun _ => by kernel_rfl) rfl rfl ?_ (by decide) (by decide) (by with_unfolding_all rfl)
  refine EvL_i1 ?_
  refine oct1 ht (n_in (by assumption) rfl) k.l0 k.l1 ?_
  refine Ev_f G_octets_of ht ?_
  refine EvL_cons ?_
  refine Ev_at rfl CK4 (by assumption) (fun _ => by kernel_rfl) rfl rfl ?_ (by decide) (by decide) (by with_unfolding_all rfl)
  refine EvL_i1 ?_
  refine oct1 ht (n_in (by assumption) rfl) k.p0 k.p1 ?_
  refine add_dig rfl ?_
  refine iadd_bytes (Nat.le_of_ble_eq_true rfl) ?_
  refine Sx_asg (Slot1.loc rfl) ?_ rfl
  refine Ev_bin ?_
  refine Ev_bin ?_
  refine Ev_f G_octets_of ht ?_
  refine EvL_cons ?_
  refine Ev_at rfl CK4 (by assumption) (fun _ => by kernel_rfl) rfl rfl ?_ (by decide) (by decide) (by with_unfolding_all rfl)
  refine EvL_i1 ?_
  refine oct4 ht (n_in (by assumption) rfl) k.s0 k.s1 ?_
  refine Ev_f G_octets_of ht ?_
  refine EvL_cons ?_
  refine Ev_at rfl CK4 (by assumption) (fun _ => by kernel_rfl) rfl rfl ?_ (by decide) (by decide) (by with_unfolding_all rfl)
  refine EvL_i1 ?_
  refine oct4 ht (n_in (by assumption) rfl) k.t0 k.t1 ?_
  refine add_dig rfl ?_
  refine Ev_nm rfl ?_
  refine add_bytes (Nat.le_trans (Nat.add_le_add_left k.c9 8) (by decide)) ?_
  refine Sx_rt ?_
  refine Ev_bin ?_
  refine Ev_bin ?_
  refine Ev_bin_n rfl ?_
  refine Ev_f G_octets_of ht ?_
  refine EvL_cons ?_
  refine Ev_f G_check_of ht ?_
  refine EvL_cons ?_
  refine Ev_bin_nn rfl rfl ?_
  unfold w4 at hQ
  have q1 : (w4f p ttl ident flags place dscp ecn d opt).length = 10 := w4f_len
  have q2 : Octs (w4f p ttl ident flags place dscp ecn d opt) := w4f_octs
  have q3 := w4b_len (s := s) (t := t) k.c11
  have q4 := w4b_octs (s := s) (t := t) k.oo
  have q5 := k.c10
  clear k
  dsimp only [w4f, w4b] at q1 q2 q3 q4 hQ
  generalize dig (69 + (opt.length : Int) / 4) 1 ++ dig (dscp * 4 + ecn) 1 ++ dig (20 + (opt.length : Int) + d.length) 2 ++ (dig ident 2 ++ dig (flags * 8192 + place / 8) 2) ++ (dig ttl 1 ++ dig p 1) = fi at q1 q2 hQ ⊢
  generalize dig s 4 ++ dig t 4 ++ opt = be at q3 q4 hQ ⊢
  have z1 : fi.length + be.length ≤ 58 := by rw [q1]; exact Nat.add_le_add_left q3 10
  have q6 := q2.append q4
  have z2 : (fi ++ be).length ≤ 1000 := by rw [List.length_append]; exact Nat.le_trans z1 (by decide)
  have z3 : 1 ≤ (fi ++ be).length := by rw [List.length_append, q1, Nat.add_comm]; exact Nat.le_trans (by decide) (Nat.le_add_left 10 _)
  refine add_bytes (Nat.le_trans z1 (by decide)) ?_
  refine check_of_spec ht (n_in (by assumption) rfl) q6 z2 z3 ?_
  have f := fold_range (words_range q6).1
  generalize fold (words (fi ++ be)) = w at f hQ ⊢
  refine EvL_i1 ?_
  refine oct2 ht (n_in (by assumption) rfl) (by lia) (by lia) ?_
  refine add_bytes (by rw [q1]; exact Nat.le_of_ble_eq_true rfl) ?_
  refine Ev_nm rfl ?_
  refine add_bytes (by rw [List.length_append, q1, dig_length]; lia) ?_
  refine Ev_at rfl CK4 (by assumption) (fun _ => by kernel_rfl) rfl rfl ?_ (by decide) (by decide) (by with_unfolding_all rfl)
  refine add_bytes (by rw [List.length_append, List.length_append, q1, dig_length]; lia) ?_
  exact hQ
end
end
section
variable {c : Cx} {Q : PV → Prop} {X : PX → Prop}
inductive InvRH (l : List Int) (e : Int) (D : Addr) (s0 : Option (List Hd × Int × Int)) (n : Nat) (ρ : PEnv) (σ : Ow) : Prop
  | mk (h1 : lk ρ "octets" = some (.bytes l)) (h1' : lk ρ "end" = some (.int e)) (hs : List Hd) (k a : Int) (b : Bool) (hσ : σ = some (("heads" : Str), D, Own.list (hdsV hs))) (h2 : lk ρ "kind" = some (.int k)) (h3 : lk ρ "at" = some (.int a))
    (h4 : lk ρ "is_later" = some (.bool b)) (k1 : 0 ≤ k) (a1 : 40 ≤ a) (a2 : a ≤ e) (n1 : 1 ≤ n) (hln : hs.length + n ≤ 1001)
    (hh : (b = false ∧ e + 2 ≤ a + n ∧ s0 = (scan l e (n - 1) k a).map (pre hs)) ∨ (b = true ∧ s0 = some (hs, k, a)))
theorem read_heads_spec {l : List Int} {k0 e : Int} (ht : c.Txt) (hn : 3 ≤ c.n) (ho : Octs l) (hl : l.length ≤ 1000) (r6 : 0 ≤ k0) (h40 : 40 ≤ e) (he : e ≤ l.length)
    (hQ : match scan l e 1000 k0 40 with | none => X ⟨56, msg6⟩ ∧ X ⟨56, msg7⟩ | some r => Q (.tuple [.list (hdsV r.1), .int r.2.1, .int r.2.2])) : CallV c (.ref 149) [.bytes l, .int k0, .int e] Q X := by
  refine call3 F_read_heads D_read_heads ht (by lia) "octets" "kind" "end" (fun v u w => rfl) ⟨rfl, rfl, rfl⟩ (by decide) fun N F hmu hout => ?_
  have hb : Buf (.bytes l) l := .inl rfl
  dsimp only [D_read_heads]
  refine Sx_cons ?_
  refine Sx_newlist (Slot1.loc rfl) (fun D => ?_) rfl
  refine Sx_asg (Slot1.locO rfl rfl) ?_ rfl
  refine Ev_int ?_
  refine Sx_asg (Slot1.locO rfl rfl) ?_ rfl
  refine Ev_bool ?_
  refine Sx_cons ?_
  have sh : e + 2 ≤ (40 : Int) + (1001 : Nat) := by lia
  generalize hs0 : scan l e 1000 k0 40 = s0 at hQ
  have st : s0 = (scan l e 1000 k0 40).map (pre []) := by rw [hs0]; cases s0 <;> rfl
  clear hs0
  refine Sx_while 1001 (LoopW_inv (InvRH l e D s0) ?_ ?_ 1001 _ _
      ⟨rfl, rfl, [], k0, 40, false, rfl, rfl, rfl, rfl, r6, Int.le_refl _, h40, by decide, by decide, .inl ⟨rfl, sh, st⟩⟩)
  · rintro ρ σ ⟨-, -, hs, k, a, b, -, -, -, -, -, -, -, h, -⟩
    exact absurd h (by decide)
  rintro n ρ σ ⟨h1, h1', hs, k, a, b, rfl, h2, h3, h4, k1, a1, a2, -, hln, hh⟩
  clear sh st r6
  rcases hh with ⟨rfl, fu, hh⟩ | ⟨rfl, hh⟩
  rotate_left
  · rw [hh] at hQ
    refine Tr_not ?_
    refine Tr_name ?_
    refine Ev_nm (by assumption) ?_
    refine TV_bool ?_
    refine ite_not ?_
    refine ite_T ?_
    refine Sx_cons ?_
    refine Sx_retF (by assumption) ?_
    refine Ev_tup ?_ rfl
    refine EvL_nm rfl ?_
    refine EvL_nm (by assumption) ?_
    refine EvL_nm1 (by assumption) ?_
    refine LTup.mk rfl ?_
    exact hQ
  obtain ⟨m, rfl⟩ : ∃ m, n = m + 1 := ⟨n - 1, by lia⟩
  refine Tr_not ?_
  refine Tr_name ?_
  refine Ev_nm (by assumption) ?_
  refine TV_bool ?_
  refine ite_not ?_
  refine ite_F ?_
  refine Sx_asg (Slot1.locO rfl rfl) ?_ rfl
  refine Ev_f G_size_at ht ?_
  refine EvL_nm (by assumption) ?_
  refine EvL_nm (by assumption) ?_
  refine EvL_nm (by assumption) ?_
  refine EvL_nm1 (by assumption) ?_
  refine size_at_spec ht (n_in (by assumption) rfl) hb hl (Int.le_trans (by decide) a1) he ?_
  refine Sx_iff ?_
  refine Tr_cmp_ni rfl ?_
  refine lt_int ?_
  refine TV_bool ?_
  refine ite_d (fun y => ?_) fun y => ?_
  · rw [scan_none ho (.inl y) hh] at hQ
    refine Sx_cons ?_
    refine Sx_bad (by assumption) (n_in (by assumption) rfl) ?_ rfl
    exact hQ.1
  refine Sx_nil ?_
  refine Sx_iff ?_
  refine Tr_cmp_ni rfl ?_
  refine eq_int ?_
  refine TV_bool ?_
  refine ite_eq (fun w => ?_) fun w => ?_
  · rw [scan_end w hh] at hQ
    refine Sx_cons ?_
    refine Sx_break ?_
    refine Sx_cons ?_
    refine Sx_retF (by assumption) ?_
    refine Ev_tup ?_ rfl
    refine EvL_nm rfl ?_
    refine EvL_nm (by assumption) ?_
    refine EvL_nm1 (by assumption) ?_
    refine LTup.mk rfl ?_
    exact hQ
  refine Sx_nil ?_
  refine Sx_iff ?_
  refine Tr_and ?_
  refine Tr_cmp_ni (by assumption) ?_
  refine eq_int ?_
  refine TV_bool ?_
  refine' later (G := ¬ (k = 0 ∧ 40 < a) → ?G) (fun key => ?k1) (fun x => ?k2)
  case k1 =>
    refine ite_eq (fun x => ?_) fun x => ?_
    · refine Tr_and ?_
      refine Tr_cmp_ni (by assumption) ?_
      refine gt_int ?_
      refine TV_bool ?_
      refine ite_d (fun x2 => ?_) fun x2 => ?_
      · rw [scan_none ho (.inr ⟨x, x2⟩) hh] at hQ
        refine Tr_and_nil ?_
        refine ite_T ?_
        refine Sx_cons ?_
        refine Sx_bad (by assumption) (n_in (by assumption) rfl) ?_ rfl
        exact hQ.2
      · refine ite_F ?_
        refine Sx_nil ?_
        refine Sx_cons ?_
        exact key fun q => x2 q.2
    · refine ite_F ?_
      refine Sx_nil ?_
      refine Sx_cons ?_
      exact key fun q => x q.1
  have T := Turn.of ho k1 a1 y w
  have O := scan_on T x hh
  have t1 := T.hz
  have t2 := T.h4
  clear x hh T y w
  generalize szAt l a k e = sz at O t1 t2
  have a0 : 0 ≤ a := Int.le_trans (by decide) a1
  have b1 : 40 ≤ a + sz := by lia
  have b2 : a < l.length := by lia
  have b3 : e + 2 ≤ a + sz + (m + 1 : Nat) := by lia
  have b4 : hs.length ≤ 1000 := by lia
  have b5 : hs.length + 1 + (m + 1) ≤ 1001 := by lia
  have r0 := (at0_range ho a).1
  clear fu t2 hln
  generalize hbd : cutL l (some (a + 1)) (some (a + sz)) = bd at O
  refine Sx_append (by rw [List.length_map]; exact b4) ?_
  refine Ev_tup ?_ rfl
  refine EvL_nm (by assumption) ?_
  refine EvL_cons ?_
  refine Ev_t B_bytes (by assumption) ?_
  refine EvL_cons ?_
  refine Ev_cut_n (by assumption) ?_
  refine EvO_some ?_
  refine Ev_bin_ni (by assumption) ?_
  refine add_int ?_
  refine AsInt.mk ?_
  refine EvO_some ?_
  refine Ev_bin_nn (by assumption) rfl ?_
  refine add_int ?_
  refine AsInt.mk ?_
  refine cut_bytes (Nat.le_trans hl (by decide)) ?_
  refine bytes_bytes ?_
  rw [hbd]
  clear hbd
  refine EvL_nil ?_
  refine LTup.mk rfl ?_
  refine Sx_asg (Slot1.locO rfl rfl) ?_ rfl
  rw [hdsV_snoc hs (k, bd)]
  refine Ev_and ?_
  refine Ev_cmp_n (by assumption) ?_
  refine Ev_int ?_
  refine eq_int ?_
  refine TV_bool ?_
  refine ite_eq (fun hk => ?_) fun hk => ?_
  · refine Ev_bool1 ?_
    refine Ev_cmp ?_
    refine Ev_f G_place_at ht ?_
    refine EvL_nm (by assumption) ?_
    refine EvL_nm1 (by assumption) ?_
    refine place_at_spec ht (n_in (by assumption) rfl) hb ho hl a0 ?_
    refine Ev_int ?_
    refine ne_int ?_
    refine Sx_asg (Slot1.locO rfl rfl) ?_ rfl
    refine Ev_item_nn (by assumption) (by assumption) ?_
    refine item_b hb hl a0 b2 ?_
    refine Sx_cons ?_
    refine Sx_aug (Slot1.locO rfl rfl) (by assumption) ?_ (by decide)
    refine Ev_nm rfl ?_
    refine iadd_int ?_
    refine Sx_nil ?_
    refine ⟨h1, h1', hs ++ [(k, bd)], _, _, _, rfl, rfl, rfl, rfl, r0, b1, t1, Nat.succ_pos _, by rw [List.length_append]; exact b5, ?_⟩
    by_cases z2 : plAt l a = 0
    · exact .inl ⟨by rw [z2]; rfl, b3, O.2 fun q => q.2 z2⟩
    · exact .inr ⟨bne_iff_ne.mpr z2, O.1 ⟨hk, z2⟩⟩
  · refine Sx_asg (Slot1.locO rfl rfl) ?_ rfl
    refine Ev_item_nn (by assumption) (by assumption) ?_
    refine item_b hb hl a0 b2 ?_
    refine Sx_cons ?_
    refine Sx_aug (Slot1.locO rfl rfl) (by assumption) ?_ (by decide)
    refine Ev_nm rfl ?_
    refine iadd_int ?_
    refine Sx_nil ?_
    exact ⟨h1, h1', hs ++ [(k, bd)], _, _, _, rfl, rfl, rfl, rfl, r0, b1, t1, Nat.succ_pos _, by rw [List.length_append]; exact b5, .inl ⟨beq_eq_false_iff_ne.mpr hk, b3, O.2 fun q => hk q.1⟩⟩
end
section
variable {c : Cx} {Q : PV → Prop} {X : PX → Prop}
noncomputable def ip6V (l : List Int) (e : Int) (r : List Hd × Int × Int) : PV := .inst 117 (ip6F (.int (sub l 8 24)) (.int (sub l 24 40)) (.int r.2.1) (.bytes (cutL l (some r.2.2) (some e))) (.list (hdsV r.1)) (at0 l 7) (sub l 0 4 / 4194304 % 64) (sub l 0 4 / 1048576 % 4) (sub l 0 4 % 1048576))
theorem read_ipv6_spec {l : List Int} (ht : c.Txt) (hn : 4 ≤ c.n) (ho : Octs l) (hl : l.length ≤ 1000)
    (hQ : if (l.length : Int) < 40 then X ⟨56, msg1⟩ else if sub l 0 4 / 268435456 ≠ 6 then X ⟨56, msg2⟩ else if (l.length : Int) < 40 + sub l 4 6 then X ⟨56, msg8⟩ else
      match scan l (40 + sub l 4 6) 1000 (at0 l 6) 40 with | none => X ⟨56, msg6⟩ ∧ X ⟨56, msg7⟩ | some r => Q (ip6V l (40 + sub l 4 6) r)) : CallV c (.ref 156) [.bytes l] Q X := by
  refine call1 F_read_ipv6 D_read_ipv6 ht (by lia) "octets" (fun v => rfl) rfl fun N F hmu hout => ?_
  have hb : Buf (.bytes l) l := .inl rfl
  dsimp only [D_read_ipv6]
  refine Sx_iff ?_
  refine Tr_cmp ?_
  refine Ev_b B_len (by assumption) ?_
  refine EvL_nm1 rfl ?_
  refine len_b (by assumption) (by assumption) ?_
  refine Ev_int ?_
  refine lt_int ?_
  refine TV_bool ?_
  refine ite_d (fun h => ?_) fun h => ?_
  · rw [if_pos h] at hQ
    refine Sx_cons ?_
    refine Sx_bad (by assumption) (n_in (by assumption) rfl) ?_ rfl
    exact hQ
  rw [if_neg h] at hQ
  refine Sx_nil ?_
  refine Sx_asg (Slot1.loc rfl) ?_ rfl
  refine Ev_f G_number_of (by assumption) ?_
  refine EvL_cons ?_
  refine Ev_cut_n rfl ?_
  refine EvO_i ?_
  refine EvO_i ?_
  refine number_cut (by assumption) (n_in (by assumption) rfl) (by assumption) (by assumption) (by assumption) ?_
  refine Sx_iff ?_
  refine Tr_cmp ?_
  refine Ev_bin_ni rfl ?_
  refine rsh28 ?_
  refine Ev_int ?_
  refine ne_int ?_
  refine TV_bool ?_
  refine ite_ne (fun h => ?_) fun h => ?_
  · rw [if_pos h] at hQ
    refine Sx_cons ?_
    refine Sx_bad (by assumption) (n_in (by assumption) rfl) ?_ rfl
    exact hQ
  rw [if_neg (fun z => z h)] at hQ
  clear h
  refine Sx_nil ?_
  refine Sx_asg (Slot1.loc rfl) ?_ rfl
  refine Ev_bin_i ?_
  refine Ev_f G_number_of (by assumption) ?_
  refine EvL_cons ?_
  refine Ev_cut_n rfl ?_
  refine EvO_i ?_
  refine EvO_i ?_
  refine number_cut (by assumption) (n_in (by assumption) rfl) (by assumption) (by assumption) (by assumption) ?_
  refine add_int ?_
  refine Sx_iff ?_
  refine Tr_cmp_n rfl ?_
  refine Ev_b B_len (by assumption) ?_
  refine EvL_nm1 rfl ?_
  refine len_b (by assumption) (by assumption) ?_
  refine gt_int ?_
  refine TV_bool ?_
  have r := sub_range ho 4 6 2 (by decide) (by decide)
  refine ite_d (fun h => ?_) fun h => ?_
  · rw [if_pos h] at hQ
    refine Sx_cons ?_
    refine Sx_bad (by assumption) (n_in (by assumption) rfl) ?_ rfl
    exact hQ
  rw [if_neg h] at hQ
  have he : 40 + sub l 4 6 ≤ l.length := Int.not_lt.mp h
  have h40 : 40 ≤ 40 + sub l 4 6 := Int.le_add_of_nonneg_right r.1
  clear h r
  generalize 40 + sub l 4 6 = e at he h40 hQ ⊢
  refine Sx_nil ?_
  refine Sx_cons ?_
  refine Sx_unpack (xs := ["heads", "protocol", "at"]) rfl (slots_cons (Slot1.loc rfl) (slots_cons (Slot1.loc rfl) (slots_cons (Slot1.loc rfl) slots_nil))) ?_
  refine Ev_f G_read_heads ht ?_
  refine EvL_nm rfl ?_
  refine EvL_cons ?_
  refine Ev_item_ni rfl ?_
  refine item_b (by assumption) (by assumption) (by lia) (by lia) ?_
  refine EvL_nm1 rfl ?_
  refine read_heads_spec ht (n_in (by assumption) rfl) ho hl (at0_range ho 6).1 h40 he ?_
  cases hh : scan l e 1000 (at0 l 6) 40 with
  | none => rw [hh] at hQ; exact hQ
  | some r =>
    rw [hh] at hQ
    clear hh
    refine ⟨_, .inl rfl, rfl, ?_⟩
    dsimp only [binds]
    refine Sx_cons ?_
    refine Sx_new (C := 117) ?hx ?hC ?hk ?_ ?ha ?hs
    case hx => exact Slot1.loc rfl
    case hC => exact G_Ip6.name ht rfl
    case hk => exact G_Ip6.keeps ht
    case ha => rfl
    case hs => rfl
    refine EvL_cons ?_
    refine Ev_f G_number_of (by assumption) ?_
    refine EvL_cons ?_
    refine Ev_cut_n rfl ?_
    refine EvO_i ?_
    refine EvO_i ?_
    refine number_cut (by assumption) (n_in (by assumption) rfl) (by assumption) (by assumption) (by assumption) ?_
    refine EvL_cons ?_
    refine Ev_f G_number_of (by assumption) ?_
    refine EvL_cons ?_
    refine Ev_cut_n rfl ?_
    refine EvO_i ?_
    refine EvO_i ?_
    refine number_cut (by assumption) (n_in (by assumption) rfl) (by assumption) (by assumption) (by assumption) ?_
    refine EvL_nm rfl ?_
    refine EvL_cons ?_
    refine Ev_t B_bytes (by assumption) ?_
    refine EvL_cons ?_
    refine Ev_cut_n rfl ?_
    refine EvO_nm rfl ?_
    refine EvO_nm rfl ?_
    refine cut_bytes (Nat.le_trans hl (by decide)) ?_
    refine bytes_bytes ?_
    refine EvL_nil ?_
    refine new_ip6 ht (n_in (by assumption) rfl) fun a => ?_
    refine Sx_cons ?_
    refine Sx_sa CK6 (by assumption) (fun _ => by kernel_rfl) (by kernel_rfl) ?_ rfl (by decide) (by decide)
    refine Ev_nm rfl ?_
    refine Sx_cons ?_
    refine Sx_sa CK6 (by assumption) (fun _ => by kernel_rfl) (by kernel_rfl) ?_ rfl (by decide) (by decide)
    refine Ev_item_ni rfl ?_
    refine item_b (by assumption) (by assumption) (by lia) (by lia) ?_
    refine Sx_cons ?_
    refine Sx_sa CK6 (by assumption) (fun _ => by kernel_rfl) (by kernel_rfl) ?_ rfl (by decide) (by decide)
    refine Ev_bin ?_
    refine Ev_bin_ni rfl ?_
    refine rsh22 ?_
    refine Ev_int ?_
    refine msk6 ?_
    refine Sx_cons ?_
    refine Sx_sa CK6 (by assumption) (fun _ => by kernel_rfl) (by kernel_rfl) ?_ rfl (by decide) (by decide)
    refine Ev_bin ?_
    refine Ev_bin_ni rfl ?_
    refine rsh20 ?_
    refine Ev_int ?_
    refine msk2 ?_
    refine Sx_cons ?_
    refine Sx_sa CK6 (by assumption) (fun _ => by kernel_rfl) (by kernel_rfl) ?_ rfl (by decide) (by decide)
    refine Ev_bin_ni rfl ?_
    refine msk20 ?_
    refine Sx_cons ?_
    refine Sx_retF (by assumption) ?_
    refine Ev_nm rfl ?_
    exact Eq.mp (congrArg Q (by kernel_rfl)) hQ
end
section
variable {c : Cx} {Q : PV → Prop} {X : PX → Prop} {P hop dscp ecn flow s t : Int} {d : List Int} {hs : List Hd}
noncomputable abbrev ip6I (P hop dscp ecn flow s t : Int) (d : List Int) (hs : List Hd) : PV := .inst 117 (ip6F (.int s) (.int t) (.int P) (.bytes d) (.list (hdsV hs)) hop dscp ecn flow)
theorem laterE {α : Type} {A : Prop} {G : α → Prop} (P : α → Prop) (k : (∀ x, P x → G x) → A) (g : ∀ x, P x → G x) : A := k g
theorem B_octs0 : octs #[] = [] := rfl
theorem heads_item {h : Hd} {i : Nat} (hi : hs[i]? = some h) : (hdsV hs)[(i : Int).toNat]? = some (hdV h) := by rw [Int.toNat_natCast, List.getElem?_map, hi]; rfl
theorem write_heads_spec (ht : c.Txt) (hn : 3 ≤ c.n) (k : Ok6 P hop dscp ecn flow s t d hs) (hQ : Q (.bytes (wh P hs))) : CallV c (.ref 163) [ip6I P hop dscp ecn flow s t d hs] Q X := by
  refine call1 F_write_heads D_write_heads ht (by lia) "ip" (fun v => rfl) rfl fun N F hmu hout => ?_
  dsimp only [D_write_heads]
  refine Sx_asg (Slot1.loc rfl) ?_ rfl
  refine Ev_bytes ?_
  refine Sx_cons ?_
  rw [B_octs0]
  refine Sx_enum hmu ?hf ?_ ?ha ?hs
  case hf => exact B_enumerate.name ht rfl
  case ha => rfl
  case hs => intro v; rfl
  refine Ev_at rfl CK6 (by assumption) (fun _ => by kernel_rfl) rfl rfl ?_ (by decide) (by decide) (by with_unfolding_all rfl)
  refine ⟨_, rfl, LoopE_inv (fun i ρ => lk ρ "ip" = some (ip6I P hop dscp ecn flow s t d hs) ∧ ∃ o, lk ρ "out" = some (.bytes o) ∧ o ++ wh P (hs.drop i) = wh P hs) ⟨rfl, [], rfl, rfl⟩ (Slot1.loc rfl) (Slot1.loc rfl) ?_ ?_⟩
  · rintro i p ρ hp ⟨h1, o, h2, h3⟩
    obtain ⟨h, hi, rfl, hlt⟩ := map_get hp
    have ok := k.heads h (List.mem_of_getElem? hi)
    have hb : Buf (.bytes h.2) h.2 := .inl rfl
    have hl := ok.le
    dsimp only [hdV]
    refine Sx_cons ?_
    refine Sx_unpack (xs := ["kind", "body"]) rfl (slots_cons (Slot1.loc rfl) (slots_cons (Slot1.loc rfl) slots_nil)) ?_
    refine Ev_nm rfl ?_
    refine ⟨_, .inl rfl, rfl, ?_⟩
    dsimp only [binds]
    refine Sx_iff ?_
    refine Tr_or ?_
    refine Tr_cmp ?_
    refine Ev_b B_len (by assumption) ?_
    refine EvL_nm1 rfl ?_
    refine len_b (by assumption) (by assumption) ?_
    refine Ev_int ?_
    refine eq_int ?_
    refine TV_bool ?_
    refine ite_eq (fun z => absurd z ok.ne) fun _ => ?_
    refine Tr_or ?_
    refine Tr_cmp ?_
    refine Ev_f G_head_size ht ?_
    refine EvL_nm rfl ?_
    refine EvL_cons ?_
    refine Ev_item_ni rfl ?_
    refine item_b hb hl (Int.le_refl _) ok.pos ?_
    refine EvL_nil ?_
    refine head_size_spec ht (n_in (by assumption) rfl) ?_
    refine Ev_bin ?_
    refine Ev_b B_len (by assumption) ?_
    refine EvL_nm1 rfl ?_
    refine len_b (by assumption) (by assumption) ?_
    refine Ev_int ?_
    refine add_int ?_
    refine ne_int ?_
    refine TV_bool ?_
    refine ite_ne (fun z => absurd ok.sz z) fun _ => ?_
    rw [wh_at hi, ← List.append_assoc] at h3
    have nk := nxt_ok k.p0 k.p1 (hs := hs.drop (i + 1)) fun x hx => k.heads x (List.mem_of_mem_drop hx)
    have e : o ++ (dig (nxt P (hs.drop (i + 1))) 1 ++ h.2) = o ++ (dig (nxt P (hs.drop (i + 1))) 1 ++ h.2) := rfl
    have hz : o.length + (dig (nxt P (hs.drop (i + 1))) 1 ++ h.2).length ≤ 2 ^ 20 := by
      have := congrArg List.length h3
      rw [List.length_append, List.length_append] at this
      have := k.c5
      lia
    refine Tr_or_nil ?_
    refine ite_F ?_
    refine Sx_nil ?_
    refine Sx_asg (Slot1.loc rfl) ?_ rfl
    refine Ev_at (by assumption) CK6 (by assumption) (fun _ => by kernel_rfl) rfl rfl ?_ (by decide) (by decide) (by with_unfolding_all rfl)
    refine Sx_iff ?_
    refine Tr_cmp ?_
    refine Ev_bin_ni rfl ?_
    refine add_int ?_
    refine Ev_b B_len ht ?_
    refine EvL_cons ?_
    refine Ev_at (by assumption) CK6 (by assumption) (fun _ => by kernel_rfl) rfl rfl ?_ (by decide) (by decide) (by with_unfolding_all rfl)
    refine EvL_nil ?_
    refine len_list (by rw [List.length_map]; exact Nat.le_trans k.c7 (by decide)) ?_
    rw [List.length_map]
    refine lt_int ?_
    refine TV_bool ?_
    refine ite_d (fun lt => ?_) fun lt => ?_
    · have hi' := List.getElem?_eq_getElem (show i + 1 < hs.length by lia)
      rw [nxt_at hi'] at nk hz h3
      refine Sx_asg (Slot1.loc rfl) ?_ rfl
      refine Ev_item ?_ fun _ _ => rfl
      refine Ev_item ?_ fun _ _ => rfl
      refine Ev_at (by assumption) CK6 (by assumption) (fun _ => by kernel_rfl) rfl rfl ?_ (by decide) (by decide) (by with_unfolding_all rfl)
      refine Ev_bin_ni rfl ?_
      refine add_int ?_
      refine item_list (by lia) (by rw [List.length_map]; exact Nat.le_trans k.c7 (by decide)) (heads_item hi') ?_
      dsimp only [hdV]
      refine Ev_int ?_
      refine item_tup ⟨rfl, rfl, rfl⟩ ?_
      refine Sx_nil ?_
      refine Sx_cons ?_
      refine Sx_aug (Slot1.loc rfl) (by assumption) ?_ (by decide)
      refine Ev_bin ?_
      refine Ev_f G_octets_of ht ?_
      refine EvL_nm rfl ?_
      refine EvL_i1 ?_
      refine oct1 ht (n_in (by assumption) rfl) nk.1 nk.2 ?_
      refine Ev_nm rfl ?_
      refine add_bytes (Nat.le_trans (Nat.add_le_add_left hl 1) (by decide)) ?_
      refine iadd_bytes hz ?_
      refine Sx_nil ?_
      exact ⟨rfl, h1, _, rfl, h3⟩
    · rw [nxt_end (by lia)] at nk hz h3
      refine Sx_nil ?_
      refine Sx_cons ?_
      refine Sx_aug (Slot1.loc rfl) (by assumption) ?_ (by decide)
      refine Ev_bin ?_
      refine Ev_f G_octets_of ht ?_
      refine EvL_nm rfl ?_
      refine EvL_i1 ?_
      refine oct1 ht (n_in (by assumption) rfl) nk.1 nk.2 ?_
      refine Ev_nm rfl ?_
      refine add_bytes (Nat.le_trans (Nat.add_le_add_left hl 1) (by decide)) ?_
      refine iadd_bytes hz ?_
      refine Sx_nil ?_
      exact ⟨rfl, h1, _, rfl, h3⟩
  · rintro ρ ⟨h1, o, h2, h3⟩
    rw [List.length_map, List.drop_length] at h3
    rw [show o = wh P hs from (List.append_nil o).symm.trans h3] at h2
    refine Sx_rt ?_
    refine Ev_nm (by assumption) ?_
    exact hQ
theorem write_ipv6_spec (ht : c.Txt) (hn : 4 ≤ c.n) (k : Ok6 P hop dscp ecn flow s t d hs) (hQ : Q (.bytes (w6 P hop dscp ecn flow s t d hs))) : CallV c (.ref 170) [ip6I P hop dscp ecn flow s t d hs] Q X := by
  refine call1 F_write_ipv6 D_write_ipv6 ht (by lia) "ip" (fun v => rfl) rfl fun N F hmu hout => ?_
  dsimp only [D_write_ipv6]
  refine Sx_iff ?_
  refine Tr_or ?_
  refine Tr_cmp ?_
  refine Ev_at rfl CK6 (by assumption) (fun _ => by kernel_rfl) rfl rfl ?_ (by decide) (by decide) (by with_unfolding_all rfl)
  refine Ev_int ?_
  refine gt_int ?_
  refine TV_bool ?_
  refine ite_d (fun z => absurd z k.c1) fun _ => ?_
  refine Tr_or ?_
  refine Tr_cmp ?_
  refine Ev_at rfl CK6 (by assumption) (fun _ => by kernel_rfl) rfl rfl ?_ (by decide) (by decide) (by with_unfolding_all rfl)
  refine Ev_int ?_
  refine gt_int ?_
  refine TV_bool ?_
  refine ite_d (fun z => absurd z k.c2) fun _ => ?_
  refine Tr_or ?_
  refine Tr_cmp ?_
  refine Ev_at rfl CK6 (by assumption) (fun _ => by kernel_rfl) rfl rfl ?_ (by decide) (by decide) (by with_unfolding_all rfl)
  refine Ev_int ?_
  refine gt_int ?_
  refine TV_bool ?_
  refine ite_d (fun z => absurd z k.c3) fun _ => ?_
  refine Tr_or_nil ?_
  refine ite_F ?_
  refine Sx_nil ?_
  refine Sx_asg (Slot1.loc rfl) ?_ rfl
  refine Ev_bin ?_
  refine Ev_f G_write_heads ht ?_
  refine EvL_nm1 rfl ?_
  refine write_heads_spec ht (n_in (by assumption) rfl) k ?_
  refine Ev_at rfl CK6 (by assumption) (fun _ => by kernel_rfl) rfl rfl ?_ (by decide) (by decide) (by with_unfolding_all rfl)
  refine add_bytes (by rw [← List.length_append]; exact Nat.le_trans k.c6 (by decide)) ?_
  have nk := nxt_ok k.p0 k.p1 (hs := hs) k.heads
  unfold w6 at hQ
  have q1 := k.c4
  have q2 := k.c6
  have q3 := k.n0
  have q4 := k.n1
  generalize wh P hs ++ d = pl at q1 q2 q3 q4 hQ ⊢
  have hb : Buf (.bytes pl) pl := .inl rfl
  refine Sx_iff ?_
  refine Tr_cmp ?_
  refine Ev_b B_len (by assumption) ?_
  refine EvL_nm1 rfl ?_
  refine len_b (by assumption) (by assumption) ?_
  refine Ev_int ?_
  refine gt_int ?_
  refine TV_bool ?_
  refine ite_d (fun z => absurd z q1) fun _ => ?_
  refine Sx_nil ?_
  refine Sx_asg (Slot1.loc rfl) ?_ rfl
  refine Ev_at rfl CK6 (by assumption) (fun _ => by kernel_rfl) rfl rfl ?_ (by decide) (by decide) (by with_unfolding_all rfl)
  refine Sx_iff ?_
  refine Tr_attr ?_
  refine Ev_at rfl CK6 (by assumption) (fun _ => by kernel_rfl) rfl rfl ?_ (by decide) (by decide) (by with_unfolding_all rfl)
  refine TV_list (by rw [List.length_map]; exact Nat.le_trans k.c7 (by decide)) ?_
  rw [List.length_map]
  have o1 := orw k.d0 k.c1 k.e0 k.c2 k.f0 k.c3
  have w0 : 0 ≤ wd6 dscp ecn flow := by have := k.d0; have := k.e0; have := k.f0; show 0 ≤ 6 * 268435456 + dscp * 4194304 + ecn * 1048576 + flow; lia
  have w1 : wd6 dscp ecn flow < 256 ^ 4 := by have := k.c1; have := k.c2; have := k.c3; show 6 * 268435456 + dscp * 4194304 + ecn * 1048576 + flow < 4294967296; lia
  refine' laterE (fun ρ : PEnv => lk ρ "ip" = some (ip6I P hop dscp ecn flow s t d hs) ∧ lk ρ "payload" = some (.bytes pl) ∧ lk ρ "kind" = some (.int (nxt P hs))) (fun key => ?k1) (fun ρ hh => ?k2)
  case k1 =>
    refine ite_ne (fun nz => ?_) fun nz => ?_
    · have hi := List.getElem?_eq_getElem (show 0 < hs.length by lia)
      refine Sx_asg (Slot1.loc rfl) ?_ rfl
      refine Ev_item ?_ fun _ _ => rfl
      refine Ev_item ?_ fun _ _ => rfl
      refine Ev_at rfl CK6 (by assumption) (fun _ => by kernel_rfl) rfl rfl ?_ (by decide) (by decide) (by with_unfolding_all rfl)
      refine Ev_int ?_
      refine item_list (p := hdV hs[0]) (Int.le_refl _) (by rw [List.length_map]; exact Nat.le_trans k.c7 (by decide)) (heads_item hi) ?_
      dsimp only [hdV]
      refine Ev_int ?_
      refine item_tup ⟨rfl, rfl, rfl⟩ ?_
      refine Sx_nil ?_
      refine Sx_asg (Slot1.loc rfl) ?_ rfl
      refine Ev_bin ?_
      generalize hρ : [(("kind" : Str), PV.int (hs[0]).1), (("kind" : Str), PV.int P), (("payload" : Str), PV.bytes pl), (("ip" : Str), ip6I P hop dscp ecn flow s t d hs)] = ρ
      exact key ρ (by rw [← hρ, show nxt P hs = (hs[0]).1 from nxt_at (P := P) hi]; exact ⟨rfl, rfl, rfl⟩)
    · refine Sx_nil ?_
      refine Sx_asg (Slot1.loc rfl) ?_ rfl
      refine Ev_bin ?_
      generalize hρ : [(("kind" : Str), PV.int P), (("payload" : Str), PV.bytes pl), (("ip" : Str), ip6I P hop dscp ecn flow s t d hs)] = ρ
      exact key ρ (by rw [← hρ, show nxt P hs = P from nxt_end (P := P) (hs := hs) (i := 0) (by lia)]; exact ⟨rfl, rfl, rfl⟩)
  case k2 =>
    obtain ⟨h1, h2, h3⟩ := hh
    generalize nxt P hs = kd at nk hQ h3
    refine Ev_f G_octets_of ht ?_
    refine EvL_cons ?_
    refine Ev_bin ?_
    refine Ev_bin ?_
    refine Ev_bin ?_
    refine Ev_bin_i ?_
    refine Ev_int ?_
    refine lsh_lit (d := 268435456) 28 rfl (by decide) (by decide) (by decide) rfl ?_
    refine Ev_bin ?_
    refine Ev_at (by assumption) CK6 (by assumption) (fun _ => by kernel_rfl) rfl rfl ?_ (by decide) (by decide) (by with_unfolding_all rfl)
    refine Ev_int ?_
    refine lsh_lit (d := 4194304) 22 rfl (by decide) k.d0 (Int.lt_of_le_of_lt (Int.not_lt.mp k.c1) (by decide)) rfl ?_
    refine or_int ?_
    refine Ev_bin ?_
    refine Ev_at (by assumption) CK6 (by assumption) (fun _ => by kernel_rfl) rfl rfl ?_ (by decide) (by decide) (by with_unfolding_all rfl)
    refine Ev_int ?_
    refine lsh_lit (d := 1048576) 20 rfl (by decide) k.e0 (Int.lt_of_le_of_lt (Int.not_lt.mp k.c2) (by decide)) rfl ?_
    refine or_int ?_
    refine Ev_at (by assumption) CK6 (by assumption) (fun _ => by kernel_rfl) rfl rfl ?_ (by decide) (by decide) (by with_unfolding_all rfl)
    refine or_int ?_
    refine EvL_i1 ?_
    rw [o1]
    refine oct4 ht (n_in (by assumption) rfl) w0 w1 ?_
    refine Ev_f G_octets_of ht ?_
    refine EvL_cons ?_
    refine Ev_b B_len (by assumption) ?_
    refine EvL_nm1 (by assumption) ?_
    refine len_b (by assumption) (by assumption) ?_
    refine EvL_i1 ?_
    refine oct2 ht (n_in (by assumption) rfl) q3 q4 ?_
    refine add_dig rfl ?_
    refine Sx_cons ?_
    refine Sx_aug (Slot1.loc rfl) rfl ?_ (by decide)
    refine Ev_bin ?_
    refine Ev_f G_octets_of ht ?_
    refine EvL_nm (by assumption) ?_
    refine EvL_i1 ?_
    refine oct1 ht (n_in (by assumption) rfl) nk.1 nk.2 ?_
    refine Ev_f G_octets_of ht ?_
    refine EvL_cons ?_
    refine Ev_at (by assumption) CK6 (by assumption) (fun _ => by kernel_rfl) rfl rfl ?_ (by decide) (by decide) (by with_unfolding_all rfl)
    refine EvL_i1 ?_
    refine oct1 ht (n_in (by assumption) rfl) k.h0 k.h1 ?_
    refine add_dig rfl ?_
    refine iadd_bytes (Nat.le_of_ble_eq_true rfl) ?_
    refine Sx_rt ?_
    refine Ev_bin ?_
    refine Ev_bin ?_
    refine Ev_bin_n rfl ?_
    refine Ev_f G_octets_of ht ?_
    refine EvL_cons ?_
    refine Ev_at (by assumption) CK6 (by assumption) (fun _ => by kernel_rfl) rfl rfl ?_ (by decide) (by decide) (by with_unfolding_all rfl)
    refine EvL_i1 ?_
    refine oct16 ht (n_in (by assumption) rfl) k.s0 k.s1 ?_
    refine add_dig rfl ?_
    refine Ev_f G_octets_of ht ?_
    refine EvL_cons ?_
    refine Ev_at (by assumption) CK6 (by assumption) (fun _ => by kernel_rfl) rfl rfl ?_ (by decide) (by decide) (by with_unfolding_all rfl)
    refine EvL_i1 ?_
    refine oct16 ht (n_in (by assumption) rfl) k.t0 k.t1 ?_
    refine add_dig rfl ?_
    refine Ev_nm (by assumption) ?_
    refine add_bytes (Nat.le_trans (Nat.add_le_add_left q2 40) (by decide)) ?_
    exact hQ
end
section
variable {c : Cx} {F : Fm} {ρ : PEnv} {σ : Ow} {K : PK} {Q : PV → Prop} {X : PX → Prop}
theorem new_meta_spec (ht : c.Txt) (hn : 1 ≤ c.n) (hQ : Q .any) : CallV c (.ref 247) [] Q X := by
  refine call_txt F_new_meta D_new_meta (ρ := []) ht hn (fun I s vs _ hr => by cases hr; exact ⟨_, .of_eq rfl, .nil, rfl⟩) rfl .nil fun N F hmu hout => ?_
  dsimp only [D_new_meta]
  refine Sx_cons ?_
  refine Sx_newdict (Slot1.loc rfl) (fun D => ?_) rfl
  refine Sx_cons ?_
  refine Sx_for ?_
  refine Ev_tup ?_ rfl
  refine EvL_cons ?_
  refine Ev_str ?_
  refine EvL_cons ?_
  refine Ev_str ?_
  refine EvL_cons ?_
  refine Ev_str ?_
  refine EvL_cons ?_
  refine Ev_str ?_
  refine EvL_cons ?_
  refine Ev_str ?_
  refine EvL_cons ?_
  refine Ev_str ?_
  refine EvL_cons ?_
  refine Ev_str ?_
  refine EvL_nil ?_
  refine LTup.mk rfl ?_
  refine ⟨_, iters_tuple, Loop_inv (fun i ρ σ => i ≤ 7 ∧ σ = some (("out" : Str), D, Own.dict i)) ⟨by decide, rfl⟩ ?_ ?_⟩
  · rintro i p ρ σ hp ⟨-, rfl⟩
    have hi : i < 7 := (List.getElem?_eq_some_iff.mp hp).1
    have hs : ∃ y, p = .str y := by
      have := List.mem_of_getElem? hp
      simp only [List.mem_cons, List.not_mem_nil, or_false] at this
      rcases this with rfl | rfl | rfl | rfl | rfl | rfl | rfl <;> exact ⟨_, rfl⟩
    refine ⟨Slot1.locO rfl rfl, ?_⟩
    refine Sx_cons ?_
    refine Sx_setitem (Nat.le_trans (Nat.le_of_lt hi) (by decide)) ?_ rfl
    refine Ev_int ?_
    refine Ev_nm rfl ?_
    refine ⟨hs, ?_⟩
    refine Sx_nil ?_
    exact ⟨hi, rfl⟩
  · rintro ρ σ ⟨-, rfl⟩
    refine Sx_cons ?_
    refine Sx_setitem (by decide) ?_ rfl
    refine Ev_int ?_
    refine Ev_str ?_
    refine ⟨⟨_, rfl⟩, ?_⟩
    refine Sx_cons ?_
    refine Sx_setitem (by decide) ?_ rfl
    refine Ev_int ?_
    refine Ev_str ?_
    refine ⟨⟨_, rfl⟩, ?_⟩
    refine Sx_cons ?_
    refine Sx_retF (by assumption) ?_
    refine Ev_nm rfl ?_
    exact hQ
end
section
variable {c : Cx} {F : Fm} {ρ : PEnv} {σ : Ow} {K : PK} {Q : PV → Prop} {X : PX → Prop}
theorem EvP.of {t : Sem Value} (h : Ev c ρ t Q fun _ => False) : EvP c ρ t Q := fun I s r => wpP_of (wpAny_mono (h I s r) (fun _ _ z => z) fun _ _ ⟨_, _, z⟩ => z.elim)
theorem list3 {α : Type} {vs : List α} (h : 3 = vs.length) : ∃ a b d, vs = [a, b, d] := by
  obtain _ | ⟨a, _ | ⟨b, _ | ⟨d, _ | ⟨e, r⟩⟩⟩⟩ := vs
  · cases h
  · cases h
  · cases h
  · exact ⟨a, b, d, rfl⟩
  · simp only [List.length_cons] at h
    exact absurd h (by lia)
noncomputable abbrev pkF (l : List Int) (kind l4 off place : Int) : List (Str × PV) :=
  [("data", .barr l), ("link", .barr []), ("kind", .int kind), ("l4", .int l4), ("off", .int off), ("place", .int place), ("meta", .any)]
theorem SxP_sa {x name : Str} {a C : Addr} {fs : List (Str × PV)} {xp ap pos : Pos} {e : Expr} (hC : ClsK C) (ht : c.Txt) (hf : ∀ P, takerIn (hd.heap_1 P) C name = some none) (hz : Nat.ble fs.length 100 = true) (h : EvP c ρ (eval e c.env) (fun p => K.next ρ (some (x, a, .inst C (putF name p fs)))))
    (hs : swapsWith e (some (.Attribute (.Name x xp) name ap)) pos.line c.env = pure false) (hd : (x == ("__debug__" : Str)) = false) (hn : (x == ("__classdict__" : Str)) = false) :
    SxP c F ρ (some (x, a, .inst C fs)) (exec (.Assign [.Attribute (.Name x xp) name ap] e pos) c.env) K :=
  SxP_setattr (hC.setA ht hf) (Nat.le_of_ble_eq_true hz) h hs hd hn
theorem new_packet {l : List Int} {kind : Int} {Q : List (Str × PV) → Prop} (ht : c.Txt) (hn : 3 ≤ c.n) (hl : l.length ≤ 1000) (hQ : Q (pkF l kind (-1) (-1) 0)) : CallNP c 264 [.bytes l, .int kind, .bytes []] Q := by
  have ht' := ht
  unfold Cx.Txt at ht
  obtain ⟨o, h1, h2⟩ := F_initP.look c.W.w.params
  refine call_newP (names := ["data", "kind", "link"]) (self := "self") (by rw [ht]; exact MKp _) (by rw [ht]; exact h1) h2 (by rw [ht]; exact F_initP.code _) D_initP.2 F_initP.plain (by lia) (fun v0 vs h => ?_) rfl ?_ (by decide) fun N F vs a hmu hout => ?_
  · obtain ⟨a, b, d, rfl⟩ := list3 h
    rfl
  · simp only [List.forall_mem_cons]
    exact ⟨.inl rfl, .inl rfl, .inl rfl, .inl rfl, fun x h => nomatch h⟩
  dsimp only [D_initP]
  refine SxP_cons (SxP_sa CKp ht' (fun P => by kernel_rfl) (by kernel_rfl) ?_ rfl (by decide) (by decide))
  refine EvP_call (B_bytearray.name ht' rfl) (Keeps.type _) ?_
  refine EvL_nm1 rfl ?_
  refine callP_bytearray (Nat.le_trans hl (by decide)) ?_
  refine SxP_cons (SxP_sa CKp ht' (fun P => by kernel_rfl) (by kernel_rfl) ?_ rfl (by decide) (by decide))
  refine EvP_call (B_bytearray.name ht' rfl) (Keeps.type _) ?_
  refine EvL_nm1 rfl ?_
  refine callP_bytearray (by decide) ?_
  refine SxP.of ?_
  refine Sx_cons ?_
  refine Sx_sa CKp (by assumption) (fun _ => by kernel_rfl) (by kernel_rfl) ?_ rfl (by decide) (by decide)
  refine Ev_nm rfl ?_
  refine Sx_cons ?_
  refine Sx_sa CKp (by assumption) (fun _ => by kernel_rfl) (by kernel_rfl) ?_ rfl (by decide) (by decide)
  refine Ev_neg' ?_
  refine Ev_int ?_
  refine AsInt.mk ?_
  refine Sx_cons ?_
  refine Sx_sa CKp (by assumption) (fun _ => by kernel_rfl) (by kernel_rfl) ?_ rfl (by decide) (by decide)
  refine Ev_neg' ?_
  refine Ev_int ?_
  refine AsInt.mk ?_
  refine Sx_cons ?_
  refine Sx_sa CKp (by assumption) (fun _ => by kernel_rfl) (by kernel_rfl) ?_ rfl (by decide) (by decide)
  refine Ev_int ?_
  refine Sx_cons ?_
  refine Sx_sa CKp (by assumption) (fun _ => by kernel_rfl) (by kernel_rfl) ?_ rfl (by decide) (by decide)
  refine Ev_f G_new_meta ht' ?_
  refine EvL_nil ?_
  refine new_meta_spec ht' ?_ ?_
  · show 1 ≤ c.n - 1 - 1
    lia
  refine Sx_nil ?_
  exact ⟨_, _, rfl, Eq.mp (congrArg Q (by kernel_rfl)) hQ⟩
end
section
variable {c : Cx} {F : Fm} {ρ : PEnv} {σ : Ow} {K : PK} {Q : PV → Prop} {X : PX → Prop}
theorem noInst_lkV (o : Option (Int × Int × Int × Bool)) : noInst (lkV o) = true := by cases o <;> rfl
noncomputable def pkO (l : List Int) (kind : Int) : Option (Int × Int × Int × Bool) → List (Str × PV)
  | none => pkF l kind (-1) (-1) 0
  | some (a, b, p, _) => pkF l kind a (if p = 0 then b else -1) p
noncomputable abbrev Sees (l : List Int) (kind : Int) (o : Option (Int × Int × Int × Bool)) : Prop := (kind = 2048 ∧ o = look4P l) ∨ (kind = 34525 ∧ o = look6P l)
theorem look_spec {l : List Int} {kind : Int} {o : Option (Int × Int × Int × Bool)} {Q : List (Str × PV) → Prop} (ht : c.Txt) (hn : 4 ≤ c.n) (ho : Octs l) (hl : l.length ≤ 1000) (hk : Sees l kind o) (hb : ∀ x, o = some x → x.2.1 ≤ l.length) (hQ : Q (pkO l kind o)) :
    CallM c (.ref 275) 264 (pkF l kind (-1) (-1) 0) Q := by
  have ht' := ht
  unfold Cx.Txt at ht
  obtain ⟨ob, h1, h2⟩ := F_look.look c.W.w.params
  refine call_mut (self := "packet") (by rw [ht]; exact h1) h2 (by rw [ht]; exact F_look.code _) D_look.2 F_look.plain (by lia) (fun v => rfl) rfl fun N F a hout => ?_
  clear h1 h2
  have hbuf : Buf (.barr l) l := .inr rfl
  dsimp only [D_look]
  refine Sx_cons ?_
  refine Sx_sa CKp (by assumption) (fun _ => by kernel_rfl) (by kernel_rfl) ?_ rfl (by decide) (by decide)
  refine Ev_neg' ?_
  refine Ev_int ?_
  refine AsInt.mk ?_
  refine Sx_cons ?_
  refine Sx_sa CKp (by assumption) (fun _ => by kernel_rfl) (by kernel_rfl) ?_ rfl (by decide) (by decide)
  refine Ev_neg' ?_
  refine Ev_int ?_
  refine AsInt.mk ?_
  refine Sx_cons ?_
  refine Sx_sa CKp (by assumption) (fun _ => by kernel_rfl) (by kernel_rfl) ?_ rfl (by decide) (by decide)
  refine Ev_int ?_
  refine Sx_asg (Slot1.locO rfl rfl) ?_ rfl
  refine Ev_none ?_
  refine Sx_cons ?_
  refine Sx_ifL ?_
  refine Tr_cmp ?_
  refine Ev_at rfl CKp (by assumption) (fun _ => by kernel_rfl) rfl rfl ?_ (by decide) (by decide) (by with_unfolding_all rfl)
  refine Ev_int ?_
  refine eq_int ?_
  refine TV_bool ?_
  rw [show putF ("place" : Str) (PV.int 0) (putF ("off" : Str) (PV.int (-1)) (putF ("l4" : Str) (PV.int (-1)) (pkF l kind (-1) (-1) 0))) = pkF l kind (-1) (-1) 0 by kernel_rfl]
  refine' laterE (fun ρ : PEnv => lk ρ "found" = some (lkV o)) (fun key => ?k1) (fun ρ hf => ?k2)
  case k1 =>
    have hk2 := hk
    rcases hk2 with ⟨e1, e2⟩ | ⟨e1, e2⟩
    · refine ite_eq (fun _ => ?_) fun z => absurd e1 z
      refine Sx_cons ?_
      refine Sx_assignS (Slot1.locO rfl rfl) (EvS.lend ?_) rfl
      refine Ev_f G_look4 ht' ?_
      refine EvL_cons ?_
      refine Ev_at rfl CKp (by assumption) (fun _ => by kernel_rfl) rfl rfl ?_ (by decide) (by decide) (by with_unfolding_all rfl)
      refine EvL_nil ?_
      refine look4_spec ht' (n_in (by assumption) rfl) hbuf ho hl ⟨noInst_lkV _, ?_⟩
      rw [← e2]
      refine Sx_nil ?_
      refine Sx_cons ?_
      refine Sx_ifL ?_
      refine Tr_cmp_n rfl ?_
      refine Ev_none ?_
      generalize hρ : [(("found" : Str), lkV o), (("found" : Str), PV.none), (("packet" : Str), PV.func a)] = ρ
      exact key ρ (by rw [← hρ]; rfl)
    · refine ite_eq (fun z => absurd (z.symm.trans e1) (by decide)) fun _ => ?_
      refine Sx_cons ?_
      refine Sx_ifL ?_
      refine Tr_cmp ?_
      refine Ev_at rfl CKp (by assumption) (fun _ => by kernel_rfl) rfl rfl ?_ (by decide) (by decide) (by with_unfolding_all rfl)
      refine Ev_int ?_
      refine eq_int ?_
      refine TV_bool ?_
      refine ite_eq (fun _ => ?_) fun z => absurd e1 z
      refine Sx_cons ?_
      refine Sx_assignS (Slot1.locO rfl rfl) (EvS.lend ?_) rfl
      refine Ev_f G_look6 ht' ?_
      refine EvL_cons ?_
      refine Ev_at rfl CKp (by assumption) (fun _ => by kernel_rfl) rfl rfl ?_ (by decide) (by decide) (by with_unfolding_all rfl)
      refine EvL_nil ?_
      refine look6_spec ht' (n_in (by assumption) rfl) hbuf ho hl ⟨noInst_lkV _, ?_⟩
      rw [← e2]
      refine Sx_nil ?_
      refine Sx_nil ?_
      refine Sx_cons ?_
      refine Sx_ifL ?_
      refine Tr_cmp_n rfl ?_
      refine Ev_none ?_
      generalize hρ : [(("found" : Str), lkV o), (("found" : Str), PV.none), (("packet" : Str), PV.func a)] = ρ
      exact key ρ (by rw [← hρ]; rfl)
  case k2 =>
    clear hk
    cases o with
    | none =>
      refine is_none (b := true) rfl ?_
      refine TV_bool ?_
      refine ite_T ?_
      refine Sx_cons ?_
      refine Sx_ret0 ?_
      exact ⟨_, _, rfl, hQ⟩
    | some x =>
      obtain ⟨x1, x2, x3, x4⟩ := x
      refine is_none (b := false) rfl ?_
      dsimp only [lkV] at hf
      refine TV_bool ?_
      refine ite_F ?_
      refine Sx_nil ?_
      refine Sx_cons ?_
      refine Sx_sa CKp (by assumption) (fun _ => by kernel_rfl) (by kernel_rfl) ?_ rfl (by decide) (by decide)
      refine Ev_item_ni (by assumption) ?_
      refine item_tup ⟨rfl, rfl, rfl⟩ ?_
      refine Sx_cons ?_
      refine Sx_sa CKp (by assumption) (fun _ => by kernel_rfl) (by kernel_rfl) ?_ rfl (by decide) (by decide)
      refine Ev_item_ni (by assumption) ?_
      refine item_tup ⟨rfl, rfl, rfl⟩ ?_
      refine Sx_cons ?_
      refine Sx_ifL ?_
      refine Tr_and ?_
      refine Tr_cmp ?_
      refine Ev_item_ni (by assumption) ?_
      refine item_tup ⟨rfl, rfl, rfl⟩ ?_
      refine Ev_int ?_
      refine eq_int ?_
      refine TV_bool ?_
      rw [show putF ("place" : Str) (PV.int x3) (putF ("l4" : Str) (PV.int x1) (pkF l kind (-1) (-1) 0)) = pkF l kind x1 (-1) x3 by kernel_rfl]
      change Q (pkF l kind x1 (if x3 = 0 then x2 else -1) x3) at hQ
      refine ite_eq (fun z => ?_) fun z => ?_
      · rw [if_pos z] at hQ
        refine Tr_and ?_
        refine Tr_cmp ?_
        refine Ev_item_ni (by assumption) ?_
        refine item_tup ⟨rfl, rfl, rfl⟩ ?_
        refine Ev_b B_len ht' ?_
        refine EvL_cons ?_
        refine Ev_at rfl CKp (by assumption) (fun _ => by kernel_rfl) rfl rfl ?_ (by decide) (by decide) (by with_unfolding_all rfl)
        refine EvL_nil ?_
        refine len_b hbuf hl ?_
        refine le_int ?_
        refine TV_bool ?_
        refine ite_d (fun _ => ?_) fun y => absurd (hb _ rfl) y
        refine Tr_and_nil ?_
        refine ite_T ?_
        refine Sx_cons ?_
        refine Sx_sa CKp (by assumption) (fun _ => by kernel_rfl) (by kernel_rfl) ?_ rfl (by decide) (by decide)
        refine Ev_item_ni (by assumption) ?_
        refine item_tup ⟨rfl, rfl, rfl⟩ ?_
        refine Sx_nil ?_
        refine Sx_nil ?_
        exact ⟨_, _, rfl, Eq.mp (congrArg Q (by kernel_rfl)) hQ⟩
      · rw [if_neg z] at hQ
        refine ite_F ?_
        refine Sx_nil ?_
        refine Sx_nil ?_
        exact ⟨_, _, rfl, hQ⟩
theorem call_txtP {a : Addr} (f : Fn a) (bd : Bd f) {args : List PV} {ρ : PEnv} (ht : c.Txt) (hn : 1 ≤ c.n) (hb : Binds c f.fd args ρ) (hko : kindsOk f.fd ρ = true) (hnd : (ρ.map (·.1)).Nodup)
    (h : ∀ N F, F.mu = [] → F.outer = c.l → SxP (inside c f.fd N a) F ρ none (execs bd.1 (inside c f.fd N a).env) (PK.fn Q fun _ => False)) : CallP c (.ref a) args Q := by
  unfold Cx.Txt at ht
  obtain ⟨o, h1, h2⟩ := f.look c.W.w.params
  exact call_defP (by rw [ht]; exact h1) h2 (by rw [ht]; exact f.code _) bd.2 f.plain hn hb hko hnd h
theorem packet_of_spec {l : List Int} {kind : Int} {o : Option (Int × Int × Int × Bool)} (ht : c.Txt) (hn : 5 ≤ c.n) (ho : Octs l) (hl : l.length ≤ 1000) (hk : Sees l kind o) (hb : ∀ x, o = some x → x.2.1 ≤ l.length) (hQ : Q (.inst 264 (pkO l kind o))) :
    CallP c (.ref 283) [.bytes l, .int kind] Q := by
  refine call_txtP F_packet_of D_packet_of (ρ := [("octets", .bytes l), ("kind", .int kind), ("link", .bytes [])]) ht (by lia) (fun I s vs r hr => ?_) rfl (nodup3 (x := "octets") (y := "kind") (z := "link") (by decide)) fun N F hmu hout => ?_
  · have hin : (Mine.hd.heap_1 c.W.w.params).In s.heap := by rw [← show c.W.K = _ from ht]; exact r.inK
    exact RepAll.e2 hr fun h1 h2 => ⟨_, kp_binds hin (fun S => by rfl), .cons h1 (.cons h2 (.cons (.bytes #[] _) .nil)), rfl⟩
  dsimp only [D_packet_of]
  refine SxP_cons (SxP_new (C := 264) ?hx ?hC ?hk ?_ ?ha ?hs)
  case hx => exact Slot1.loc rfl
  case hC => exact G_Packet.name ht rfl
  case hk => exact G_Packet.keeps ht
  case ha => rfl
  case hs => rfl
  refine EvL_nm rfl ?_
  refine EvL_nm rfl ?_
  refine EvL_nm1 rfl ?_
  refine new_packet ht (n_in (by assumption) rfl) hl fun a => ?_
  refine SxP.of ?_
  refine Sx_cons ?_
  refine Sx_callM (G_look.name ht rfl) (G_look.keeps ht) rfl ?_
  refine look_spec ht (n_in (by assumption) rfl) ho hl hk hb ?_
  refine Sx_cons ?_
  refine Sx_retF (by assumption) ?_
  refine Ev_nm rfl ?_
  cases o <;> exact hQ
end
section
variable {c : Cx} {F : Fm} {ρ : PEnv} {σ : Ow} {K : PK} {Q : PV → Prop} {X : PX → Prop}
theorem law_told_spec {a : Addr} {l : List Int} (ht : c.Txt) (hn : 1 ≤ c.n) (hk : ∀ P, keepIn (hd.heap_1 P) (.ref a) = true)
    (h : ∀ N, CallV (inside c F_law_told.fd N 336) (.ref a) [.bytes l] Q fun y => y.C = 56 ∧ Q (.str y.why)) : CallV c (.ref 336) [.func a, .bytes l] Q X := by
  refine call2 F_law_told D_law_told ht hn "way" "octets" (fun v u => rfl) ⟨rfl, rfl⟩ (by decide) fun N F hmu hout => ?_
  dsimp only [D_law_told]
  refine Sx_cons ?_
  refine Sx_try (C := 56) (G_BadPacket.name ht rfl) ((show c.W.K = _ from ht) ▸ GX_why c.W.w.params) rfl ?_
  refine Ev_callv rfl ((show c.W.K = _ from ht) ▸ hk c.W.w.params) ?_
  refine EvL_nm1 rfl ?_
  exact h N
theorem eq_same {a : PV} {d : PyData} (h : flat a = some d) (hc : d.canLay0 = true) (q : Q (.bool true)) : V2 c (compareOp .Eq) a a Q X := eq_data h h (by rw [PySem.SeqAt.eqv_refl d hc]; exact q)
theorem law_is_steady_spec {a b : Option (Int × Int × Int × Bool)} {cut : Int} (ht : c.Txt) (hn : 1 ≤ c.n) (h : a = stdy b cut) (hQ : Q (.bool true)) : CallV c (.ref 355) [lkV a, lkV b, .int cut] Q X := by
  refine call3 F_law_is_steady D_law_is_steady ht hn "looked" "whole" "cut" (fun v u w => rfl) ⟨rfl, rfl, rfl⟩ (by decide) fun N F hmu hout => ?_
  subst h
  dsimp only [D_law_is_steady]
  refine Sx_rt ?_
  refine Ev_cmp_n rfl ?_
  refine Ev_ifexp ?_
  refine Tr_or ?_
  refine Tr_cmp_n rfl ?_
  refine Ev_none ?_
  cases b with
  | none =>
    refine is_none (b := true) rfl ?_
    refine TV_bool ?_
    refine ite_T ?_
    refine ite_T ?_
    refine Ev_none ?_
    refine eq_data (da := .none) (db := .none) rfl rfl ?_
    exact hQ
  | some w =>
    obtain ⟨x1, x2, x3, x4⟩ := w
    refine is_none (b := false) rfl ?_
    dsimp only [lkV]
    refine TV_bool ?_
    refine ite_F ?_
    refine Tr_or ?_
    refine Tr_cmp_n rfl ?_
    refine Ev_item_ni rfl ?_
    refine item_tup ⟨rfl, rfl, rfl⟩ ?_
    refine lt_int ?_
    refine TV_bool ?_
    unfold stdy
    refine ite_d (fun z => ?_) fun z => ?_
    · dsimp only
      rw [if_pos z]
      refine ite_T ?_
      refine Ev_none ?_
      refine eq_data (da := .none) (db := .none) rfl rfl ?_
      exact hQ
    · dsimp only
      rw [if_neg z]
      refine Tr_or_nil ?_
      refine ite_F ?_
      refine Ev_nm rfl ?_
      refine eq_same (d := .tuple [.int x1, .int x2, .int x3, .bool x4]) rfl rfl ?_
      exact hQ
theorem scs_ints : ∀ l : List Int, scs (l.map .int) = some (l.map .int)
  | [] => rfl
  | a :: l => by show (match some (PyData.int a), scs (l.map .int) with | some d, some ds => some (d :: ds) | _, _ => none) = _; rw [scs_ints l]; rfl
theorem lay_ints : ∀ l : List Int, PyData.canLayAll0 (l.map .int) = true
  | [] => rfl
  | a :: l => by show (true && PyData.canLayAll0 (l.map .int)) = true; rw [lay_ints l]; rfl
theorem flat_il (l : List Int) : flat (iL l) = some (.list (l.map .int)) := by show (scs (l.map .int)).map PyData.list = _; rw [scs_ints]; rfl
theorem eq_il {l m : List Int} (h : l = m) (q : Q (.bool true)) : V2 c (compareOp .Eq) (iL l) (iL m) Q X := by
  subst h
  exact eq_same (flat_il l) (lay_ints l) q
theorem law_is_packet_spec {l : List Int} {kind : Int} {o : Option (Int × Int × Int × Bool)} (ht : c.Txt) (hn : 6 ≤ c.n) (ho : Octs l) (hl : l.length ≤ 1000) (hk : Sees l kind o) (hb : ∀ x, o = some x → x.2.1 ≤ l.length) (hQ : Q (.bool true)) :
    CallP c (.ref 348) [.bytes l, .int kind, lkV o] Q := by
  refine call_txtP F_law_is_packet D_law_is_packet (ρ := [("octets", .bytes l), ("kind", .int kind), ("looked", lkV o)]) ht (by lia) (fun I s vs r hr => ?_) rfl (nodup3 (x := "octets") (y := "kind") (z := "looked") (by decide)) fun N F hmu hout => ?_
  · exact RepAll.e3 hr fun h1 h2 h3 => ⟨_, .of_eq rfl, .cons h1 (.cons h2 (.cons h3 .nil)), rfl⟩
  dsimp only [D_law_is_packet]
  refine SxP_cons (SxP_assign (Slot1.loc rfl) (EvP_call (G_packet_of.name ht rfl) (G_packet_of.keeps ht) ?_))
  refine EvL_nm rfl ?_
  refine EvL_nm1 rfl ?_
  refine packet_of_spec ht (n_in (by assumption) rfl) ho hl hk hb ?_
  refine SxP.of ?_
  refine Sx_iff ?_
  refine Tr_cmp_n rfl ?_
  refine Ev_none ?_
  clear hk hb
  cases o with
  | none =>
    refine is_none (b := true) rfl ?_
    refine TV_bool ?_
    refine ite_T ?_
    refine Sx_rt ?_
    refine Ev_cmp ?_
    refine Ev_tup ?_ rfl
    refine EvL_cons ?_
    refine Ev_at rfl CKp (by assumption) (fun _ => by kernel_rfl) rfl rfl ?_ (by decide) (by decide) (by with_unfolding_all rfl)
    refine EvL_cons ?_
    refine Ev_at rfl CKp (by assumption) (fun _ => by kernel_rfl) rfl rfl ?_ (by decide) (by decide) (by with_unfolding_all rfl)
    refine EvL_cons ?_
    refine Ev_at rfl CKp (by assumption) (fun _ => by kernel_rfl) rfl rfl ?_ (by decide) (by decide) (by with_unfolding_all rfl)
    refine EvL_nil ?_
    refine LTup.mk rfl ?_
    refine Ev_tup ?_ rfl
    refine EvL_cons ?_
    refine Ev_neg' ?_
    refine Ev_int ?_
    refine AsInt.mk ?_
    refine EvL_i ?_
    refine EvL_cons ?_
    refine Ev_neg' ?_
    refine Ev_int ?_
    refine AsInt.mk ?_
    refine EvL_nil ?_
    refine LTup.mk rfl ?_
    refine eq_same (d := .tuple [.int (-1), .int 0, .int (-1)]) rfl rfl ?_
    exact hQ
  | some x =>
    obtain ⟨x1, x2, x3, x4⟩ := x
    refine is_none (b := false) rfl ?_
    dsimp only [lkV, pkO]
    refine TV_bool ?_
    refine ite_F ?_
    refine Sx_nil ?_
    refine Sx_rt ?_
    refine Ev_cmp ?_
    refine Ev_tup ?_ rfl
    refine EvL_cons ?_
    refine Ev_at rfl CKp (by assumption) (fun _ => by kernel_rfl) rfl rfl ?_ (by decide) (by decide) (by with_unfolding_all rfl)
    refine EvL_cons ?_
    refine Ev_at rfl CKp (by assumption) (fun _ => by kernel_rfl) rfl rfl ?_ (by decide) (by decide) (by with_unfolding_all rfl)
    refine EvL_cons ?_
    refine Ev_at rfl CKp (by assumption) (fun _ => by kernel_rfl) rfl rfl ?_ (by decide) (by decide) (by with_unfolding_all rfl)
    refine EvL_nil ?_
    refine LTup.mk rfl ?_
    refine Ev_tup ?_ rfl
    refine EvL_cons ?_
    refine Ev_item_ni rfl ?_
    refine item_tup ⟨rfl, rfl, rfl⟩ ?_
    refine EvL_cons ?_
    refine Ev_item_ni rfl ?_
    refine item_tup ⟨rfl, rfl, rfl⟩ ?_
    refine EvL_cons ?_
    refine Ev_ifexp ?_
    refine Tr_cmp ?_
    refine Ev_item_ni rfl ?_
    refine item_tup ⟨rfl, rfl, rfl⟩ ?_
    refine Ev_int ?_
    refine eq_int ?_
    refine TV_bool ?_
    refine ite_eq (fun z => ?_) fun z => ?_
    · rw [if_pos z]
      refine Ev_item_ni rfl ?_
      refine item_tup ⟨rfl, rfl, rfl⟩ ?_
      refine EvL_nil ?_
      refine LTup.mk rfl ?_
      refine eq_same (d := .tuple [.int x1, .int x3, .int x2]) rfl rfl ?_
      exact hQ
    · rw [if_neg z]
      refine Ev_neg' ?_
      refine Ev_int ?_
      refine AsInt.mk ?_
      refine EvL_nil ?_
      refine LTup.mk rfl ?_
      refine eq_same (d := .tuple [.int x1, .int x3, .int (-1)]) rfl rfl ?_
      exact hQ
end
theorem EQ4 (P : Params) : EqC (hd.heap_1 P) 194 := ⟨by kernel_rfl, by kernel_rfl, by kernel_rfl⟩
theorem EQ4.of {c : Cx} (ht : c.Txt) : EqC c.W.K 194 := by unfold Cx.Txt at ht; rw [ht]; exact EQ4 _
section
variable {c : Cx} {F : Fm} {ρ : PEnv} {σ : Ow} {K : PK} {Q : PV → Prop} {X : PX → Prop}
noncomputable def told4 (l : List Int) : PV := match head4 l with
  | .inl w => .str w
  | .inr r => ip4V l r.1 r.2
theorem told4_spec {l : List Int} (ht : c.Txt) (hn : 5 ≤ c.n) (ho : Octs l) (hl : l.length ≤ 1000) (hQ : Q (told4 l)) : CallV c (.ref 336) [.func 212, .bytes l] Q X := by
  refine law_told_spec ht (by lia) (fun P => by kernel_rfl) fun N => ?_
  refine read_ipv4_spec ht (n_in (by assumption) rfl) ho hl ?_
  unfold told4 at hQ
  cases h : head4 l with
  | inl w => rw [h] at hQ; exact ⟨rfl, hQ⟩
  | inr r => rw [h] at hQ; exact hQ
theorem in_lit {x : PV} {l : List PV} {dx : PyData} {ds : List PyData} (b : Bool) (hx : flat x = some dx) (hl : scs l = some ds) (hb : (ds.any fun y => PyData.eqv y dx) = b) (q : Q (.bool b)) : V2 c (compareOp .In) x (.list l) Q X := in_list hx hl (by rw [hb]; exact q)
theorem eq_lit {x y : Str} (b : Bool) (hb : (x == y) = b) (q : Q (.bool b)) : V2 c (compareOp .Eq) (.str x) (.str y) Q X := eq_str (by rw [hb]; exact q)
theorem eq_b {x y : Bool} (b : Bool) (hb : (x == y) = b) (q : Q (.bool b)) : V2 c (compareOp .Eq) (.bool x) (.bool y) Q X := eq_bool (by rw [hb]; exact q)
theorem ne_b {x y : Bool} (b : Bool) (hb : (x != y) = b) (q : Q (.bool b)) : V2 c (compareOp .NotEq) (.bool x) (.bool y) Q X := ne_bool (by rw [hb]; exact q)
theorem ne_same {a : PV} {d : PyData} (h : flat a = some d) (hc : d.canLay0 = true) (q : Q (.bool false)) : V2 c (compareOp .NotEq) a a Q X := ne_data h h (by rw [PySem.SeqAt.eqv_refl d hc]; exact q)
theorem eqv_ints : ∀ l m : List Int, PyData.eqvAll (l.map .int) (m.map .int) = decide (l = m)
  | [], [] => rfl
  | [], _ :: _ => rfl
  | _ :: _, [] => rfl
  | a :: l, b :: m => by
    show (a == b && PyData.eqvAll (l.map .int) (m.map .int)) = _
    rw [eqv_ints l m]
    by_cases h : a = b
    · subst h; simp
    · simp [h]
theorem eq_ints {l m : List Int} (q : Q (.bool (decide (l = m)))) : V2 c (compareOp .Eq) (iL l) (iL m) Q X :=
  eq_data (flat_il l) (flat_il m) (by rw [show PyData.eqv (.list (l.map .int)) (.list (m.map .int)) = _ from eqv_ints l m]; exact q)
theorem lkV_some {x y z : Int} {b : Bool} : lkV (some (x, y, z, b)) = .tuple [.int x, .int y, .int z, .bool b] := rfl
theorem Ev_to {t : Sem Value} {p : PV} (h : Ev c ρ t (fun q => q = p) X) (k : Q p) : Ev c ρ t Q X := h.mono (fun _ e => e ▸ k) fun _ x => x
noncomputable abbrev bads3 : List PV := [.str msg1, .str msg2, .str msg3]
theorem in_told {v : PV} (hE : EqC c.W.K 194) (hv : (∃ w, v = .str w ∧ inBad w false) ∨ ∃ fs, v = .inst 194 fs) (q : Q (.bool false)) : V2 c (compareOp .In) v (.list bads3) Q X := by
  rcases hv with ⟨w, rfl, hw⟩ | ⟨fs, rfl⟩
  · exact in_lit (dx := .str w) (ds := [.str msg1, .str msg2, .str msg3]) false hw.1 (by kernel_rfl) hw.2 q
  · refine in_inst hE (fun p hp => ?_) q
    rcases hp with _ | ⟨_, _ | ⟨_, _ | ⟨_, h⟩⟩⟩ <;> first | exact ⟨_, rfl⟩ | cases h
theorem some4v {l : List Int} {cut h : Int} (ho : Octs l) (h0 : 0 ≤ cut) (hc : cut ≤ l.length) (c20 : ¬ cut < 20) (h2 : at0 l 0 / 16 = 4) (hE : h = at0 l 0 % 16 * 4) (h3 : ¬ h < 20) (h4 : ¬ cut < h) :
    ((∃ w, told4 (top l cut) = .str w ∧ inBad w false) ∨ ∃ fs, told4 (top l cut) = .inst 194 fs) ∧
    ((¬ h ≤ sub l 2 4 ∧ told4 (top l cut) = .str msg4) ∨ (h ≤ sub l 2 4 ∧ ¬ sub l 2 4 ≤ cut ∧ told4 (top l cut) = .str msg4) ∨
    (h ≤ sub l 2 4 ∧ sub l 2 4 ≤ cut ∧ words (top l h) % 65535 ≠ 0 ∧ told4 (top l cut) = .str msg5) ∨
    (h ≤ sub l 2 4 ∧ sub l 2 4 ≤ cut ∧ words (top l h) % 65535 = 0 ∧ told4 (top l cut) = ip4V (top l cut) h (sub l 2 4) ∧ Good4 (top l cut) h (sub l 2 4))) := by
  unfold told4
  rcases some4 ho h0 hc c20 h2 hE h3 h4 with ⟨x, e⟩ | ⟨x, y, e⟩ | ⟨x, y, z, e⟩ | ⟨x, y, z, e⟩
  · rw [e]; exact ⟨.inl ⟨_, rfl, by kernel_rfl, by kernel_rfl⟩, .inl ⟨x, rfl⟩⟩
  · rw [e]; exact ⟨.inl ⟨_, rfl, by kernel_rfl, by kernel_rfl⟩, .inr (.inl ⟨x, y, rfl⟩)⟩
  · rw [e]; exact ⟨.inl ⟨_, rfl, by kernel_rfl, by kernel_rfl⟩, .inr (.inr (.inl ⟨x, y, z, rfl⟩))⟩
  · have g := Good4.of e
    rw [e]; exact ⟨.inr ⟨_, rfl⟩, .inr (.inr (.inr ⟨x, y, z, rfl, g⟩))⟩
theorem law_four_right_spec {l : List Int} {cut : Int} (ht : c.Txt) (hn : 7 ≤ c.n) (ho : Octs l) (hl : l.length ≤ 1000) (h0 : 0 ≤ cut) (hc : cut ≤ l.length) (hQ : Q (.bool true)) :
    CallP c (.ref 362) [iL l, lkV (look4P l), .int cut] Q := by
  refine call_txtP F_law_four_right D_law_four_right (ρ := [("octets", iL l), ("whole", lkV (look4P l)), ("cut", .int cut)]) ht (by lia) (fun I s vs r hr => ?_) rfl (nodup3 (x := "octets") (y := "whole") (z := "cut") (by decide)) fun N F hmu hout => ?_
  · exact RepAll.e3 hr fun h1 h2 h3 => ⟨_, .of_eq rfl, .cons h1 (.cons h2 (.cons h3 .nil)), rfl⟩
  dsimp only [D_law_four_right]
  have oL := ho.cut none (some cut)
  have lL : (top l cut).length ≤ 1000 := Nat.le_trans cutL_len hl
  refine SxP_cons (SxP.of ?_)
  refine Sx_assign (Slot1.loc rfl) ?_ rfl
  refine Ev_t B_bytes (by assumption) ?_
  refine EvL_cons ?_
  refine Ev_cut_n rfl ?_
  refine EvO_none ?_
  refine EvO_nm rfl ?_
  refine cut_ints (Nat.le_trans hl (by decide)) ?_
  refine bytes_ints oL (Nat.le_trans lL (by decide)) ?_
  have st4 := stdy4 h0 hc
  have le4 := look4_le (l := top l cut)
  refine SxP_cons (SxP.of ?_)
  refine Sx_swap2 (x := "looked") (y := "told") (Slot1.loc rfl) (Slot1.loc rfl) ?_ rfl rfl
  refine Ev_f G_look4 ht ?_
  refine EvL_nm1 rfl ?_
  refine look4_spec ht (n_in (by assumption) rfl) (.inl rfl) oL lL ?_
  refine Ev_f G_law_told ht ?_
  refine EvL_cons (Ev_func (G_read_ipv4.name ht rfl) ?_)
  refine EvL_nm1 rfl ?_
  refine told4_spec ht (n_in (by assumption) rfl) oL lL ?_
  refine SxP_cons (SxP_if (TrP_or (TrP_not (TrP_call (EvP.of ?_)))))
  refine Ev_f G_law_is_steady ht ?_
  refine EvL_nm rfl ?_
  refine EvL_nm rfl ?_
  refine EvL_nm1 rfl ?_
  refine law_is_steady_spec ht (n_in (by assumption) rfl) st4 ?_
  refine TV_bool ?_
  refine ite_not ?_
  refine ite_T ?_
  refine TrP_or (TrP_not (TrP_call (EvP_call (G_law_is_packet.name ht rfl) (G_law_is_packet.keeps ht) ?_)))
  refine EvL_nm rfl ?_
  refine EvL_i ?_
  refine EvL_nm1 rfl ?_
  refine law_is_packet_spec ht (n_in (by assumption) rfl) oL lL (.inl ⟨rfl, rfl⟩) le4 ?_
  refine TV_bool ?_
  refine ite_not ?_
  refine ite_T ?_
  refine TrP.of ?_
  refine Tr_or_nil ?_
  refine ite_F ?_
  refine SxP.of ?_
  refine Sx_nil ?_
  refine SxP.of ?_
  refine Sx_iff ?_
  refine Tr_cmp ?_
  refine Ev_cmp_n rfl ?_
  refine Ev_none ?_
  have eL := top_len (l := l) h0 hc
  clear st4 le4
  rcases look4_cases (top l cut) with hnone | ⟨h1, h2, h3, h4⟩
  · obtain ⟨w, hw, hi, hw1, hw2⟩ := none4 h0 hc hnone
    rw [hnone, show told4 (top l cut) = .str w by unfold told4; rw [hw]]
    clear hw hnone
    refine is_none (b := true) rfl ?_
    refine Ev_cmp_n rfl ?_
    refine Ev_lst ?_ rfl
    refine EvL_cons ?_
    refine Ev_str ?_
    refine EvL_cons ?_
    refine Ev_str ?_
    refine EvL_cons ?_
    refine Ev_str ?_
    refine EvL_nil ?_
    refine LLst.mk rfl ?_
    refine in_lit (dx := .str w) (ds := [.str msg1, .str msg2, .str msg3]) true hi.1 (by kernel_rfl) hi.2 ?_
    refine ne_b false rfl ?_
    refine TV_bool ?_
    refine ite_F ?_
    refine Sx_nil ?_
    refine Sx_iff ?_
    refine Tr_cmp_n rfl ?_
    refine Ev_none ?_
    refine is_none (b := true) rfl ?_
    refine TV_bool ?_
    refine ite_T ?_
    refine Sx_rt ?_
    refine Ev_and ?_
    refine Ev_cmp ?_
    refine Ev_cmp_n rfl ?_
    refine Ev_str ?_
    refine eq_lit (decide (cut < 20)) hw1 ?_
    refine Ev_cmp_n rfl ?_
    refine Ev_int ?_
    refine lt_int ?_
    refine eq_b true (beq_self_eq_true _) ?_
    refine TV_bool ?_
    refine ite_T ?_
    refine Ev_bool1 (Ev_or ?_)
    refine Ev_cmp_n rfl ?_
    refine Ev_int ?_
    refine lt_int ?_
    refine TV_bool ?_
    refine ite_d (fun z => ?_) fun z => ?_
    · rw [decide_eq_true z]
      exact hQ
    · skip
      refine Ev_bool1 ?_
      refine Ev_cmp ?_
      refine Ev_cmp_n rfl ?_
      refine Ev_str ?_
      refine eq_lit _ (hw2 z) ?_
      refine Ev_cmp ?_
      refine Ev_bin ?_
      refine Ev_item_ni rfl ?_
      refine item_ints (Int.le_refl 0) (Nat.le_trans hl (by decide)) (at0_some (Int.le_refl 0) (by lia)) ?_
      refine Ev_int ?_
      refine divL16 ?_
      refine Ev_int ?_
      refine ne_int ?_
      refine eq_b true (beq_self_eq_true _) ?_
      exact hQ
  · have c20 : ¬ cut < 20 := by rw [← eL]; exact h1
    have e0 : at0 (top l cut) 0 = at0 l 0 := at0_top hc (i := 0) (by decide) (by lia)
    have e9 : at0 (top l cut) 9 = at0 l 9 := at0_top hc (i := 9) (by decide) (by lia)
    have e6 := sub_top (l := l) hc (a := 6) (b := 8) (by decide) (by decide) (by lia)
    rw [look4_some h1 h2 h3 h4, e0, e9, e6]
    rw [e0] at h2 h3 h4
    rw [eL] at h4
    obtain ⟨h, hE⟩ : ∃ h, h = at0 l 0 % 16 * 4 := ⟨_, rfl⟩
    rw [← hE] at h3 h4 ⊢
    rw [lkV_some]
    obtain ⟨hin, hv⟩ := some4v ho h0 hc c20 h2 hE h3 h4
    generalize told4 (top l cut) = v at hin hv ⊢
    refine is_none (b := false) rfl ?_
    refine Ev_cmp_n rfl ?_
    refine Ev_lst ?_ rfl
    refine EvL_cons ?_
    refine Ev_str ?_
    refine EvL_cons ?_
    refine Ev_str ?_
    refine EvL_cons ?_
    refine Ev_str ?_
    refine EvL_nil ?_
    refine LLst.mk rfl ?_
    refine in_told (EQ4.of ht) hin ?_
    clear hin
    refine ne_b false rfl ?_
    refine TV_bool ?_
    refine ite_F ?_
    refine Sx_nil ?_
    refine Sx_iff ?_
    refine Tr_cmp_n rfl ?_
    refine Ev_none ?_
    refine is_none (b := false) rfl ?_
    refine TV_bool ?_
    refine ite_F ?_
    refine Sx_nil ?_
    refine Sx_cons ?_
    refine Sx_swap2 (x := "total") (y := "head") (Slot1.loc rfl) (Slot1.loc rfl) ?_ rfl rfl
    refine Ev_f G_law_number ht ?_
    refine EvL_cons ?_
    refine Ev_cut_n rfl ?_
    refine EvO_i ?_
    refine EvO_i ?_
    refine cut_ints (Nat.le_trans hl (by decide)) ?_
    refine EvL_nil ?_
    refine law_number_spec ht (n_in (by assumption) rfl) (Nat.le_trans (cutL_le l (by decide) (by decide)) (by decide)) (ho.cut _ _) ?_
    rw [show num (cutL l (some 2) (some 4)) = sub l 2 4 from rfl]
    refine Ev_item_ni rfl ?_
    refine item_tup ⟨rfl, rfl, rfl⟩ ?_
    refine Sx_iff ?_
    refine Tr_not ?_
    refine Tr_chain2 ?_
    refine Ev_nm rfl ?_
    refine Ev_nm rfl ?_
    refine le_int ?_
    refine TV_bool ?_
    rcases hv with ⟨k1, rfl⟩ | ⟨k1, k2, rfl⟩ | ⟨k1, k2, k3, rfl⟩ | ⟨k1, k2, k3, rfl, g⟩
    · refine ite_dF (k1) ?_
      refine ite_not ?_
      refine ite_F ?_
      refine Sx_rt ?_
      refine Ev_cmp_n rfl ?_
      refine Ev_str ?_
      refine eq_lit true (by kernel_rfl) ?_
      exact hQ
    · refine ite_dT (k1) ?_
      refine Ev_nm rfl ?_
      refine le_int ?_
      refine TV_bool ?_
      refine ite_not ?_
      refine ite_dF (k2) ?_
      refine Sx_rt ?_
      refine Ev_cmp_n rfl ?_
      refine Ev_str ?_
      refine eq_lit true (by kernel_rfl) ?_
      exact hQ
    · refine ite_dT (k1) ?_
      refine Ev_nm rfl ?_
      refine le_int ?_
      refine TV_bool ?_
      refine ite_not ?_
      refine ite_dT (k2) ?_
      refine Sx_nil ?_
      refine Sx_iff ?_
      refine Tr_cmp ?_
      refine Ev_bin ?_
      refine Ev_f G_law_words ht ?_
      refine EvL_cons ?_
      refine Ev_cut_n rfl ?_
      refine EvO_none ?_
      refine EvO_nm rfl ?_
      refine cut_ints (Nat.le_trans hl (by decide)) ?_
      refine EvL_nil ?_
      refine law_words_spec ht (n_in (by assumption) rfl) (Nat.le_trans cutL_len (Nat.le_trans hl (by decide))) (ho.cut _ _) ?_
      refine Ev_int ?_
      refine modL65535 ?_
      refine Ev_int ?_
      refine ne_int ?_
      refine TV_bool ?_
      refine ite_nT k3 ?_
      refine Sx_rt ?_
      refine Ev_cmp_n rfl ?_
      refine Ev_str ?_
      refine eq_lit true (by kernel_rfl) ?_
      exact hQ
    · refine ite_dT (k1) ?_
      refine Ev_nm rfl ?_
      refine le_int ?_
      refine TV_bool ?_
      refine ite_not ?_
      refine ite_dT (k2) ?_
      refine Sx_nil ?_
      refine Sx_iff ?_
      refine Tr_cmp ?_
      refine Ev_bin ?_
      refine Ev_f G_law_words ht ?_
      refine EvL_cons ?_
      refine Ev_cut_n rfl ?_
      refine EvO_none ?_
      refine EvO_nm rfl ?_
      refine cut_ints (Nat.le_trans hl (by decide)) ?_
      refine EvL_nil ?_
      refine law_words_spec ht (n_in (by assumption) rfl) (Nat.le_trans cutL_len (Nat.le_trans hl (by decide))) (ho.cut _ _) ?_
      refine Ev_int ?_
      refine modL65535 ?_
      refine Ev_int ?_
      refine ne_int ?_
      refine TV_bool ?_
      refine ite_nF k3 ?_
      refine Sx_nil ?_
      refine Sx_iff ?_
      refine Tr_or ?_
      refine Tr_call ?_
      refine Ev_b B_isinstance ht ?_
      refine EvL_nm rfl ?_
      refine EvL_cons ?_
      refine Ev_type (B_str.name ht rfl) ?_
      refine EvL_nil ?_
      refine isinst_not (CK4.notStr ht) ?_
      refine TV_bool ?_
      refine ite_F ?_
      refine Tr_or ?_
      refine Tr_cmp ?_
      refine Ev_tup ?_ rfl
      refine EvL_cons ?_
      refine Ev_at rfl CK4 (by assumption) (fun _ => by kernel_rfl) rfl rfl ?_ (by decide) (by decide) (by with_unfolding_all rfl)
      refine EvL_cons ?_
      refine Ev_bin_i ?_
      refine Ev_b B_len ht ?_
      refine EvL_cons ?_
      refine Ev_at rfl CK4 (by assumption) (fun _ => by kernel_rfl) rfl rfl ?_ (by decide) (by decide) (by with_unfolding_all rfl)
      refine EvL_nil ?_
      refine len_b (.inl rfl) (Nat.le_trans cutL_len (Nat.le_trans lL (by decide))) ?_
      refine add_int ?_
      refine EvL_cons ?_
      refine Ev_at rfl CK4 (by assumption) (fun _ => by kernel_rfl) rfl rfl ?_ (by decide) (by decide) (by with_unfolding_all rfl)
      refine EvL_cons ?_
      refine Ev_cmp ?_
      refine Ev_bin ?_
      refine Ev_at rfl CK4 (by assumption) (fun _ => by kernel_rfl) rfl rfl ?_ (by decide) (by decide) (by with_unfolding_all rfl)
      refine Ev_int ?_
      refine modL2 ?_
      refine Ev_int ?_
      refine eq_int ?_
      refine EvL_nil ?_
      refine LTup.mk rfl ?_
      refine Ev_nm rfl ?_
      rw [e9, e6, g.len_opt]
      refine ne_same (d := .tuple [.int (at0 l 9), .int h, .int (sub l 6 8 % 8192 * 8), .bool (decide (sub l 6 8 / 8192 % 2 = 1))]) rfl rfl ?_
      refine TV_bool ?_
      refine ite_F ?_
      refine Tr_or_nil ?_
      refine ite_F ?_
      refine Sx_nil ?_
      refine Sx_asg (Slot1.loc rfl) ?_ rfl
      refine Ev_to (p := iL (chk4 l)) (Ev_ifexp ?_) ?_
      · refine Tr_cmp ?_
        refine Ev_cut_n rfl ?_
        refine EvO_i ?_
        refine EvO_i ?_
        refine cut_ints (Nat.le_trans hl (by decide)) ?_
        refine Ev_lst ?_ rfl
        refine EvL_i ?_
        refine EvL_i1 ?_
        refine LLst.mk rfl ?_
        refine eq_ints (m := [255, 255]) ?_
        refine TV_bool ?_
        refine ite_d (fun z => ?_) fun z => ?_
        · refine Ev_lst ?_ rfl
          refine EvL_i ?_
          refine EvL_i1 ?_
          refine LLst.mk rfl ?_
          unfold chk4
          rw [if_pos z]; rfl
        · refine Ev_cut_n rfl ?_
          refine EvO_i ?_
          refine EvO_i ?_
          refine cut_ints (Nat.le_trans hl (by decide)) ?_
          unfold chk4
          rw [if_neg z]
      refine Sx_rt ?_
      refine Ev_cmp ?_
      refine Ev_t B_list ht ?_
      refine EvL_cons (Ev_f G_write_ipv4 ht ?_)
      refine EvL_nm1 rfl ?_
      refine write_ipv4_spec ht (n_in (by assumption) rfl) (g.ok oL lL) ?_
      rw [g.written oL, w4_to (by lia) hc (by lia) k2]
      refine EvL_nil ?_
      have lw := w4_le (l := l) (t := sub l 2 4) hl
      refine list_bytes (Nat.le_trans lw.2 (by decide)) ?_
      refine Ev_bin ?_
      refine Ev_bin ?_
      refine Ev_cut_n rfl ?_
      refine EvO_none ?_
      refine EvO_i ?_
      refine cut_ints (Nat.le_trans hl (by decide)) ?_
      refine Ev_nm rfl ?_
      refine add_ints (by rw [← List.length_append]; exact Nat.le_trans lw.1 (by decide)) ?_
      refine Ev_cut_n rfl ?_
      refine EvO_i ?_
      refine EvO_nm rfl ?_
      refine cut_ints (Nat.le_trans hl (by decide)) ?_
      refine add_ints (by rw [← List.length_append]; exact Nat.le_trans lw.2 (by decide)) ?_
      refine eq_il rfl ?_
      exact hQ
end
section
variable {c : Cx} {F : Fm} {ρ : PEnv} {σ : Ow} {K : PK} {Q : PV → Prop} {X : PX → Prop}
noncomputable def T6 (l : List Int) (v : PV) : Prop :=
  if (l.length : Int) < 40 then v = .str msg1 else if sub l 0 4 / 268435456 ≠ 6 then v = .str msg2 else if (l.length : Int) < 40 + sub l 4 6 then v = .str msg8 else
  match scan l (40 + sub l 4 6) 1000 (at0 l 6) 40 with | none => v = .str msg6 ∨ v = .str msg7 | some r => v = ip6V l (40 + sub l 4 6) r
theorem told6_spec {l : List Int} (ht : c.Txt) (hn : 5 ≤ c.n) (ho : Octs l) (hl : l.length ≤ 1000) (hQ : ∀ v, T6 l v → Q v) : CallV c (.ref 336) [.func 156, .bytes l] Q X := by
  refine law_told_spec ht (by lia) (fun P => by kernel_rfl) fun N => ?_
  refine read_ipv6_spec ht (n_in (by assumption) rfl) ho hl ?_
  unfold T6 at hQ
  by_cases h1 : (l.length : Int) < 40
  · rw [if_pos h1]; simp only [if_pos h1] at hQ; exact ⟨rfl, hQ _ rfl⟩
  rw [if_neg h1]; simp only [if_neg h1] at hQ
  by_cases h2 : sub l 0 4 / 268435456 ≠ 6
  · rw [if_pos h2]; simp only [if_pos h2] at hQ; exact ⟨rfl, hQ _ rfl⟩
  rw [if_neg h2]; simp only [if_neg h2] at hQ
  by_cases h3 : (l.length : Int) < 40 + sub l 4 6
  · rw [if_pos h3]; simp only [if_pos h3] at hQ; exact ⟨rfl, hQ _ rfl⟩
  rw [if_neg h3]; simp only [if_neg h3] at hQ
  cases h : scan l (40 + sub l 4 6) 1000 (at0 l 6) 40 with
  | none => simp only [h] at hQ; exact ⟨⟨rfl, hQ _ (.inl rfl)⟩, ⟨rfl, hQ _ (.inr rfl)⟩⟩
  | some r => simp only [h] at hQ; exact hQ _ rfl
theorem six_cases {l : List Int} {cut : Int} {v : PV} (ho : Octs l) (hl : l.length ≤ 1000) (h0 : 0 ≤ cut) (hc : cut ≤ l.length) (h : T6 (top l cut) v) :
    (cut < 40 ∧ v = .str msg1) ∨ (¬ cut < 40 ∧ ((at0 l 0 / 16 ≠ 6 ∧ v = .str msg2 ∧ look6P (top l cut) = none) ∨
    (at0 l 0 / 16 = 6 ∧ ((40 + sub l 4 6 > cut ∧ v = .str msg8) ∨
    (¬ 40 + sub l 4 6 > cut ∧ ((look6P (top l (40 + sub l 4 6)) = none ∧ (v = .str msg6 ∨ v = .str msg7)) ∨
    ∃ r, look6P (top l (40 + sub l 4 6)) = some (r.2.1, r.2.2, frag r.1 / 8 * 8, decide (frag r.1 % 2 = 1)) ∧ v = ip6V (top l cut) (40 + sub l 4 6) r ∧ Good6 (top l cut) (40 + sub l 4 6) r)))))) := by
  have eL := top_len (l := l) h0 hc
  unfold T6 at h
  rw [eL] at h
  by_cases h1 : cut < 40
  · rw [if_pos h1] at h; exact .inl ⟨h1, h⟩
  rw [if_neg h1] at h
  have e0 : at0 (top l cut) 0 = at0 l 0 := at0_top hc (i := 0) (by decide) (by lia)
  have e6 : at0 (top l cut) 6 = at0 l 6 := at0_top hc (i := 6) (by decide) (by lia)
  have e4 : sub (top l cut) 4 6 = sub l 4 6 := sub_top hc (by decide) (by decide) (by lia)
  have ev := ver6 (l := top l cut) (ho.cut none (some cut)) (show 4 ≤ ((top l cut).length : Int) by lia)
  have r4 := sub_range ho 4 6 2 (by decide) (by decide)
  have ev' := ev
  rw [e0] at ev'
  rw [ev', e4, e6] at h
  by_cases h2 : at0 l 0 / 16 = 6
  · rw [if_neg (fun z => z h2)] at h
    by_cases h3 : cut < 40 + sub l 4 6
    · rw [if_pos h3] at h; exact .inr ⟨h1, .inr ⟨h2, .inl ⟨h3, h⟩⟩⟩
    rw [if_neg h3, scan_top ho hc (by lia) 1000 _ _ (at0_range ho 6).1 (by decide)] at h
    have hn := near6 ho h2 (e := 40 + sub l 4 6) (by lia) (by lia)
    cases hs : scan l (40 + sub l 4 6) 1000 (at0 l 6) 40 with
    | none => rw [hs] at h hn; exact .inr ⟨h1, .inr ⟨h2, .inr ⟨h3, .inl ⟨hn, h⟩⟩⟩⟩
    | some r =>
      rw [hs] at h hn
      refine .inr ⟨h1, .inr ⟨h2, .inr ⟨h3, .inr ⟨r, hn, h, ?_⟩⟩⟩⟩
      refine ⟨by rw [ev', h2], by rw [e4], by lia, ?_⟩
      have hT := scan_top ho hc (e := 40 + sub l 4 6) (by lia) 1000 (at0 l 6) 40 (at0_range ho 6).1 (by decide)
      rw [hs] at hT
      rw [e6]
      exact Found.of (l := top l cut) (ho.cut none (some cut)) (Nat.le_trans cutL_len hl) (by lia) 1000 _ _ r (at0_range ho 6).1 (at0_range ho 6).2 (by decide) (by lia) hT
  · rw [if_pos h2] at h
    refine .inr ⟨h1, .inl ⟨h2, h, ?_⟩⟩
    rcases look6_cases (top l cut) with ⟨z, _⟩ | ⟨_, z, _⟩
    · exact z
    · rw [e0] at z; exact absurd z h2
theorem law_number_b {l : List Int} (ht : c.Txt) (hn : 2 ≤ c.n) (hl : l.length ≤ 64) (ho : Octs l) (hQ : Q (.int (num l))) : CallV c (.ref 300) [.bytes l] Q X := by
  refine call1 F_law_number D_law_number ht (by lia) "octets" (fun v => rfl) rfl fun N F hmu hout => ?_
  have hb : Buf (.bytes l) l := .inl rfl
  have hl' : l.length ≤ 1000 := Nat.le_trans hl (by decide)
  dsimp only [D_law_number]
  refine Sx_rt ?_
  refine Ev_b B_sum ht ?_
  refine EvL_cons ?_
  refine Ev_compR (ρc := [("octets", .bytes l)]) _ (.of rfl rfl rfl ⟨⟨rfl, rfl, rfl, .inl rfl, rfl⟩, trivial⟩) ?_
  refine Ev_t B_range ht ?_
  refine EvL_cons ?_
  refine Ev_b B_len (by assumption) ?_
  refine EvL_nm1 rfl ?_
  refine len_b (by assumption) (by assumption) ?_
  refine EvL_nil ?_
  refine range_1 ?_
  refine ⟨_, fun k => .int (at0 l k * 256 ^ (l.length - 1 - k)), rfl, by lia, by lia, ?_, ?_⟩
  · intro cl S C i hi
    have r1 := at0_range ho (i : Int)
    refine Ev_bin ?_
    refine Ev_item_nn rfl rfl ?_
    refine item_b (by assumption) (by assumption) (by lia) (by lia) ?_
    refine Ev_bin_i ?_
    refine Ev_bin ?_
    refine Ev_bin ?_
    refine Ev_b B_len (by assumption) ?_
    refine EvL_nm1 rfl ?_
    refine len_b (by assumption) (by assumption) ?_
    refine Ev_int ?_
    refine sub_int ?_
    refine Ev_nm rfl ?_
    refine sub_int ?_
    refine pow_int (by lia) (by decide) (by rw [show Builtin.Int.intBits 256 = 9 by decide +kernel]; lia) ?_
    refine mul_int (.of_left (by have := bits_le (k := 8) r1.1 (by lia); lia)) ?_
    rw [show ((l.length : Int) - 1 - (i : Int)).toNat = l.length - 1 - i by lia]
  · refine EvL_nil ?_
    rw [Int.toNat_natCast, map_int]
    refine sum_ints ?_
    rw [num_sum]; exact hQ
end
section
variable {c : Cx} {F : Fm} {ρ : PEnv} {σ : Ow} {K : PK} {Q : PV → Prop} {X : PX → Prop}
noncomputable abbrev hdf (g : Hd → Option PV) : PV → Option PV := fun p => match p with | .tuple [.int a, .bytes b] => g (a, b) | _ => none
section
variable {scope : Scope} {ρc : PEnv} {elt iter : Expr} {ifs : List Expr} {p1 p2 tp pos cpos yp : Pos} {k : Nat} {y : Str} {hs : List Hd}
theorem heads_item2 {cl : List (Str × Addr)} {p : PV} {g : Hd → Option PV} (hi : ∀ h ∈ hs, ∀ C, CompCase (c.comp scope cl C) (("kind", .int h.1) :: ("body", .bytes h.2) :: ρc) elt (g h) ifs) (hp : p ∈ hdsV hs) :
    CompItem c scope cl ["kind", "body"] ρc (.Tuple [.Name "kind" p1, .Name "body" p2] k tp) elt ifs (hdf g) p := by
  obtain ⟨h, hm, rfl⟩ := List.mem_map.mp hp
  exact ⟨_, .inr ⟨_, _, _, _, rfl, rfl, by decide, rfl, rfl, rfl⟩, fun C => hi h hm C⟩
theorem Sx_assignH (hx : Slot1 c none y) (cl : List (Str × Addr)) (hc : CompSc c scope cl ["kind", "body"] ρ ρc) (g : Hd → Option PV) (hz : hs.length ≤ 1000)
    (h : Ev c ρ (eval iter c.env) (fun p => p = .list (hdsV hs)) K.exc)
    (hi : ∀ cl, CompSc c scope cl ["kind", "body"] ρ ρc → ∀ h ∈ hs, ∀ C, CompCase (c.comp scope cl C) (("kind", .int h.1) :: ("body", .bytes h.2) :: ρc) elt (g h) ifs)
    (q : K.next ((y, .list (hs.filterMap g)) :: ρ) none)
    (hsw : swapsWith (.ListComp elt [⟨.Tuple [.Name "kind" p1, .Name "body" p2] k tp, iter, ifs, 0⟩] scope cpos) (some (.Name y yp)) pos.line c.env = pure true)
    (hs : ∀ v, foldedSetIterable iter c.env v = pure v := by intro _; rfl) : Sx c F ρ none (exec (.Assign [.Name y yp] (.ListComp elt [⟨.Tuple [.Name "kind" p1, .Name "body" p2] k tp, iter, ifs, 0⟩] scope cpos) pos) c.env) K := by
  refine Sx_assignC hx cl hc (h.mono (fun p e => ?_) fun _ z => z) hsw hs
  subst e
  exact ⟨_, hdf g, iters_list, by rw [List.length_map]; lia, fun cl S p hp => heads_item2 (hi cl S) hp, by rw [List.filterMap_map]; exact q⟩
theorem Ev_compH (cl : List (Str × Addr)) (hc : CompSc c scope cl ["kind", "body"] ρ ρc) (g : Hd → Option PV) (hz : hs.length ≤ 1000)
    (h : Ev c ρ (eval iter c.env) (fun p => p = .list (hdsV hs)) X)
    (hi : ∀ cl, CompSc c scope cl ["kind", "body"] ρ ρc → ∀ h ∈ hs, ∀ C, CompCase (c.comp scope cl C) (("kind", .int h.1) :: ("body", .bytes h.2) :: ρc) elt (g h) ifs)
    (q : Q (.list (hs.filterMap g)))
    (hs : ∀ v, foldedSetIterable iter c.env v = pure v := by intro _; rfl) : Ev c ρ (eval (.ListComp elt [⟨.Tuple [.Name "kind" p1, .Name "body" p2] k tp, iter, ifs, 0⟩] scope pos) c.env) Q X := by
  refine Ev_comp (fun _ _ _ => ⟨cl, hc⟩) (h.mono (fun p e => ?_) fun _ z => z) hs
  subst e
  exact ⟨_, hdf g, iters_list, by rw [List.length_map]; lia, fun cl S p hp => heads_item2 (hi cl S) hp, by rw [List.filterMap_map]; exact q⟩
end
theorem sum_fm (hs : List Hd) : (hs.filterMap fun h => some (PV.int ((h.2.length : Int) + 1))) = (hs.map fun h => (h.2.length : Int) + 1).map .int := by
  rw [List.filterMap_eq_map', List.map_map]; rfl
theorem pcs_fm : ∀ hs : List Hd, (hs.filterMap fun h => if h.1 = 44 then some (PV.bytes h.2) else none) = (pcs hs).map .bytes
  | [] => rfl
  | h :: hs => by
    rw [List.filterMap_cons, pcs_fm hs]
    by_cases z : h.1 = 44
    · simp only [if_pos z]; rw [show pcs (h :: hs) = h.2 :: pcs hs by show List.map _ (List.filter _ (h :: hs)) = _; rw [List.filter_cons_of_pos (by rw [z]; rfl)]; rfl]; rfl
    · simp only [if_neg z]; rw [show pcs (h :: hs) = pcs hs by show List.map _ (List.filter _ (h :: hs)) = _; rw [List.filter_cons_of_neg (by rw [beq_iff_eq]; exact z)]]
theorem law_six_right_spec {l : List Int} {cut : Int} (ht : c.Txt) (hn : 7 ≤ c.n) (ho : Octs l) (hl : l.length ≤ 1000) (h0 : 0 ≤ cut) (hc : cut ≤ l.length) (hQ : Q (.bool true)) :
    CallP c (.ref 367) [iL l, lkV (look6P l), .int cut] Q := by
  refine call_txtP F_law_six_right D_law_six_right (ρ := [("octets", iL l), ("whole", lkV (look6P l)), ("cut", .int cut)]) ht (by lia) (fun I s vs r hr => ?_) rfl (nodup3 (x := "octets") (y := "whole") (z := "cut") (by decide)) fun N F hmu hout => ?_
  · exact RepAll.e3 hr fun h1 h2 h3 => ⟨_, .of_eq rfl, .cons h1 (.cons h2 (.cons h3 .nil)), rfl⟩
  dsimp only [D_law_six_right]
  have oL := ho.cut none (some cut)
  have lL : (top l cut).length ≤ 1000 := Nat.le_trans cutL_len hl
  refine SxP_cons (SxP.of ?_)
  refine Sx_assign (Slot1.loc rfl) ?_ rfl
  refine Ev_t B_bytes (by assumption) ?_
  refine EvL_cons ?_
  refine Ev_cut_n rfl ?_
  refine EvO_none ?_
  refine EvO_nm rfl ?_
  refine cut_ints (Nat.le_trans hl (by decide)) ?_
  refine bytes_ints oL (Nat.le_trans lL (by decide)) ?_
  have st6 := stdy6 ho hl h0 hc
  have le6 := look6_le (l := top l cut) oL lL
  refine SxP_cons (SxP.of ?_)
  refine Sx_swap2 (x := "looked") (y := "told") (Slot1.loc rfl) (Slot1.loc rfl) ?_ rfl rfl
  refine Ev_f G_look6 ht ?_
  refine EvL_nm1 rfl ?_
  refine look6_spec ht (n_in (by assumption) rfl) (.inl rfl) oL lL ?_
  refine Ev_f G_law_told ht ?_
  refine EvL_cons (Ev_func (G_read_ipv6.name ht rfl) ?_)
  refine EvL_nm1 rfl ?_
  refine told6_spec ht (n_in (by assumption) rfl) oL lL fun v hv => ?_
  refine SxP_cons (SxP_if (TrP_or (TrP_not (TrP_call (EvP.of ?_)))))
  refine Ev_f G_law_is_steady ht ?_
  refine EvL_nm rfl ?_
  refine EvL_nm rfl ?_
  refine EvL_nm1 rfl ?_
  refine law_is_steady_spec ht (n_in (by assumption) rfl) st6 ?_
  refine TV_bool ?_
  refine ite_not ?_
  refine ite_T ?_
  refine TrP_or (TrP_not (TrP_call (EvP_call (G_law_is_packet.name ht rfl) (G_law_is_packet.keeps ht) ?_)))
  refine EvL_nm rfl ?_
  refine EvL_i ?_
  refine EvL_nm1 rfl ?_
  refine law_is_packet_spec ht (n_in (by assumption) rfl) oL lL (.inr ⟨rfl, rfl⟩) le6 ?_
  refine TV_bool ?_
  refine ite_not ?_
  refine ite_T ?_
  refine TrP.of ?_
  refine Tr_or_nil ?_
  refine ite_F ?_
  refine SxP.of ?_
  refine Sx_nil ?_
  refine SxP.of ?_
  clear st6 le6
  replace hv := six_cases ho hl h0 hc hv
  refine Sx_iff ?_
  refine Tr_cmp_ni rfl ?_
  refine lt_int ?_
  refine TV_bool ?_
  rcases hv with ⟨h1, rfl⟩ | ⟨h1, hv⟩
  · refine ite_dT (h1) ?_
    refine Sx_rt ?_
    refine Ev_cmp_n rfl ?_
    refine Ev_str ?_
    refine eq_lit true (by kernel_rfl) ?_
    exact hQ
  refine ite_dF (h1) ?_
  refine Sx_nil ?_
  refine Sx_iff ?_
  refine Tr_cmp ?_
  refine Ev_bin ?_
  refine Ev_item_ni rfl ?_
  refine item_ints (Int.le_refl 0) (Nat.le_trans hl (by decide)) (at0_some (Int.le_refl 0) (by lia)) ?_
  refine Ev_int ?_
  refine divL16 ?_
  refine Ev_int ?_
  refine ne_int ?_
  refine TV_bool ?_
  rcases hv with ⟨h2, rfl, hv⟩ | ⟨h2, hv⟩
  · refine ite_nT h2 ?_
    refine Sx_rt ?_
    refine Ev_and ?_
    refine Ev_cmp_n rfl ?_
    refine Ev_str ?_
    refine eq_lit true (by kernel_rfl) ?_
    refine TV_bool ?_
    refine ite_T ?_
    refine Ev_bool1 ?_
    refine Ev_cmp_n rfl ?_
    refine Ev_none ?_
    rw [hv]
    refine is_none (b := true) rfl ?_
    exact hQ
  refine ite_nF h2 ?_
  refine Sx_nil ?_
  refine Sx_asg (Slot1.loc rfl) ?_ rfl
  refine Ev_bin_i ?_
  refine Ev_f G_law_number ht ?_
  refine EvL_cons ?_
  refine Ev_cut_n rfl ?_
  refine EvO_i ?_
  refine EvO_i ?_
  refine cut_ints (Nat.le_trans hl (by decide)) ?_
  refine EvL_nil ?_
  refine law_number_spec ht (n_in (by assumption) rfl) (Nat.le_trans (cutL_le l (by decide) (by decide)) (by decide)) (ho.cut _ _) ?_
  refine add_int ?_
  refine Sx_iff ?_
  refine Tr_cmp_n rfl ?_
  refine Ev_nm rfl ?_
  refine gt_int ?_
  refine TV_bool ?_
  rw [show num (cutL l (some 4) (some 6)) = sub l 4 6 from rfl]
  rcases hv with ⟨h3, rfl⟩ | ⟨h3, hv⟩
  · refine ite_dT (h3) ?_
    refine Sx_rt ?_
    refine Ev_cmp_n rfl ?_
    refine Ev_str ?_
    refine eq_lit true (by kernel_rfl) ?_
    exact hQ
  have r4 := (sub_range ho 4 6 2 (by decide) (by decide)).1
  have e40 : 40 ≤ 40 + sub l 4 6 := by lia
  have eL := top_len (l := l) h0 hc
  rw [decide_eq_false h3]
  generalize 40 + sub l 4 6 = e at h3 hv e40 ⊢
  have oE := ho.cut none (some e)
  have lE : (top l e).length ≤ 1000 := Nat.le_trans cutL_len hl
  refine ite_F ?_
  refine Sx_nil ?_
  refine Sx_asg (Slot1.loc rfl) ?_ rfl
  refine Ev_f G_look6 ht ?_
  refine EvL_cons ?_
  refine Ev_t B_bytes (by assumption) ?_
  refine EvL_cons ?_
  refine Ev_cut_n rfl ?_
  refine EvO_none ?_
  refine EvO_nm rfl ?_
  refine cut_ints (Nat.le_trans hl (by decide)) ?_
  refine bytes_ints oE (Nat.le_trans lE (by decide)) ?_
  refine EvL_nil ?_
  refine look6_spec ht (n_in (by assumption) rfl) (.inl rfl) oE lE ?_
  refine Sx_iff ?_
  refine Tr_cmp_n rfl ?_
  refine Ev_none ?_
  rcases hv with ⟨hv, hw⟩ | ⟨r, hv, rfl, g⟩
  · rw [hv]
    refine is_none (b := true) rfl ?_
    refine TV_bool ?_
    refine ite_T ?_
    refine Sx_rt ?_
    refine Ev_cmp_n rfl ?_
    refine Ev_lst ?_ rfl
    refine EvL_cons ?_
    refine Ev_str ?_
    refine EvL_cons ?_
    refine Ev_str ?_
    refine EvL_nil ?_
    refine LLst.mk rfl ?_
    have hi : flat v = some (match v with | .str w => .str w | _ => .none) ∧ ([PyData.str msg6, .str msg7].any fun y => PyData.eqv y (match v with | .str w => .str w | _ => .none)) = true := by
      rcases hw with rfl | rfl
      · exact ⟨by kernel_rfl, by kernel_rfl⟩
      · exact ⟨by kernel_rfl, by kernel_rfl⟩
    refine in_lit (ds := [.str msg6, .str msg7]) true hi.1 (by kernel_rfl) hi.2 ?_
    exact hQ
  rw [hv, lkV_some]
  refine is_none (b := false) rfl ?_
  refine TV_bool ?_
  refine ite_F ?_
  refine Sx_nil ?_
  refine Sx_iff ?_
  refine Tr_call ?_
  refine Ev_b B_isinstance ht ?_
  refine EvL_nm rfl ?_
  refine EvL_cons ?_
  refine Ev_type (B_str.name ht rfl) ?_
  refine EvL_nil ?_
  refine isinst_not (CK6.notStr ht) ?_
  refine TV_bool ?_
  refine ite_F ?_
  refine Sx_nil ?_
  refine Sx_cons ?_
  have hz := (g.ok oL lL).c7
  refine Sx_assignH (ρc := []) (Slot1.loc rfl) _ (.of rfl rfl rfl trivial) (fun h => if h.1 = 44 then some (.bytes h.2) else none) hz ?_ ?_ ?_ rfl
  · refine Ev_at rfl CK6 (by assumption) (fun _ => by kernel_rfl) rfl rfl ?_ (by decide) (by decide) (by with_unfolding_all rfl)
    rfl
  · intro cl S h hm C
    refine ⟨?_, fun q hq => ?_⟩
    · refine Tr_cmp_ni rfl ?_
      refine eq_int ?_
      refine TV_bool ?_
      by_cases z : h.1 = 44
      · rw [if_pos z]; exact beq_iff_eq.mpr z
      · rw [if_neg z]; exact beq_eq_false_iff_ne.mpr z
    · by_cases z : h.1 = 44
      · rw [if_pos z] at hq
        cases hq
        refine Ev_nm rfl ?_
        rfl
      · rw [if_neg z] at hq; cases hq
  rw [pcs_fm]
  refine Sx_asg (Slot1.loc rfl) ?_ rfl
  refine Ev_to (p := .int (frag r.1)) (Ev_ifexp ?_) ?_
  · refine Tr_cmp_n rfl ?_
    refine Ev_lst ?_ rfl
    refine EvL_nil ?_
    refine LLst.mk rfl ?_
    refine ne_nil ?_
    refine TV_bool ?_
    cases hb : (pcs r.1).getLast? with
    | none =>
      have hp : pcs r.1 = [] := List.getLast?_eq_none_iff.mp hb
      refine ite_dF ((fun z => z (by rw [hp]; rfl))) ?_
      refine Ev_int ?_
      rw [frag_last, hb]
    | some b =>
      have hm := List.mem_of_getLast? hb
      obtain ⟨h, hh, rfl⟩ := List.mem_map.mp hm
      have hh := (List.mem_filter.mp hh).1
      have ob := g.F.oc h hh
      have lb := (g.F.hd h hh).le
      have hp : 0 < (pcs r.1).length := List.length_pos_of_mem hm
      have hlen : (pcs r.1).length ≤ 1000 := by rw [List.length_map]; exact Nat.le_trans (List.length_filter_le _ _) hz
      refine ite_dT ((show List.map PV.bytes (pcs r.1) ≠ [] from fun z => by rw [List.map_eq_nil_iff.mp z] at hp; exact absurd hp (by decide))) ?_
      refine Ev_f G_law_number ht ?_
      refine EvL_cons ?_
      refine Ev_cut ?_
      refine Ev_item_n rfl ?_ fun _ _ => rfl
      refine Ev_neg' ?_
      refine Ev_int ?_
      refine AsInt.mk ?_
      refine item_list_neg (p := .bytes h.2) (by decide) (by rw [List.length_map]; lia) (by rw [List.length_map]; lia) ?_ ?_
      · rw [List.length_map, show (-1 + ((pcs r.1).length : Int)).toNat = (pcs r.1).length - 1 by lia, List.getElem?_map, ← List.getLast?_eq_getElem?, hb]; rfl
      refine EvO_i ?_
      refine EvO_i ?_
      refine cut_bytes (Nat.le_trans lb (by decide)) ?_
      refine EvL_nil ?_
      refine law_number_b ht (n_in (by assumption) rfl) (Nat.le_trans (cutL_le _ (by decide) (by decide)) (by decide)) (ob.cut _ _) ?_
      rw [frag_last, hb]
  refine Sx_asg (Slot1.loc rfl) ?_ rfl
  refine Ev_bin_i ?_
  refine Ev_b B_sum ht (EvL_cons ?_)
  refine Ev_compH (ρc := []) _ (.of rfl rfl rfl trivial) (fun h => some (.int ((h.2.length : Int) + 1))) hz ?_ ?_ ?_
  · refine Ev_at rfl CK6 (by assumption) (fun _ => by kernel_rfl) rfl rfl ?_ (by decide) (by decide) (by with_unfolding_all rfl)
    rfl
  · intro cl S h hm C
    have lb := (g.F.hd h hm).le
    refine ⟨_, rfl, ?_⟩
    refine Ev_bin ?_
    refine Ev_b B_len ht ?_
    refine EvL_nm1 rfl ?_
    refine len_b (.inl rfl) lb ?_
    refine Ev_int ?_
    refine add_int ?_
    rfl
  rw [sum_fm]
  refine EvL_nil ?_
  refine sum_ints ?_
  rw [g.F.sum]
  refine add_int ?_
  refine Sx_iff ?_
  refine Tr_cmp ?_
  refine Ev_tup ?_ rfl
  refine EvL_cons ?_
  refine Ev_at rfl CK6 (by assumption) (fun _ => by kernel_rfl) rfl rfl ?_ (by decide) (by decide) (by with_unfolding_all rfl)
  refine EvL_nm rfl ?_
  refine EvL_cons ?_
  refine Ev_bin ?_
  refine Ev_bin_ni rfl ?_
  refine divL8 ?_
  refine Ev_int ?_
  refine mulL (by decide) ?_
  refine EvL_cons ?_
  refine Ev_cmp ?_
  refine Ev_bin_ni rfl ?_
  refine modL2 ?_
  refine Ev_int ?_
  refine eq_int ?_
  refine EvL_nil ?_
  refine LTup.mk rfl ?_
  refine Ev_nm rfl ?_
  rw [show 40 + (r.2.2 - 40) = r.2.2 by lia]
  refine ne_same (d := .tuple [.int r.2.1, .int r.2.2, .int (frag r.1 / 8 * 8), .bool (decide (frag r.1 % 2 = 1))]) rfl rfl ?_
  refine TV_bool ?_
  refine ite_F ?_
  refine Sx_nil ?_
  refine Sx_rt ?_
  refine Ev_cmp ?_
  refine Ev_t B_list ht ?_
  refine EvL_cons (Ev_f G_write_ipv6 ht ?_)
  refine EvL_nm1 rfl ?_
  refine write_ipv6_spec ht (n_in (by assumption) rfl) (g.ok oL lL) ?_
  rw [g.written oL, top_top (by lia) (by lia)]
  refine EvL_nil ?_
  refine list_bytes (Nat.le_trans lE (by decide)) ?_
  refine Ev_cut_n rfl ?_
  refine EvO_none ?_
  refine EvO_nm rfl ?_
  refine cut_ints (Nat.le_trans hl (by decide)) ?_
  refine eq_il rfl ?_
  exact hQ
end
section
variable {c : Cx} {F : Fm} {ρ : PEnv} {σ : Ow} {K : PK} {Q : PV → Prop} {X : PX → Prop}
inductive InvCu (l sc : List Int) (place : Int) (i : Nat) (ρ : PEnv) (σ : Ow) : Prop
  | mk (e : σ = none) (cu : List Int) (n1 : cu.length = 9 + 3 * i) (q1 : lk ρ "cuts" = some (iL cu)) (q2 : lk ρ "octets" = some (iL l)) (q3 : lk ρ "script" = some (iL sc)) (q4 : lk ρ "place" = some (.int place))
theorem law_cuts_spec {l ends sc : List Int} {place : Int} (ht : c.Txt) (hn : 3 ≤ c.n) (hl : l.length ≤ 1000) (he : ends.length ≤ 2) (hs : sc.length ≤ 64) (hp : 0 ≤ place)
    (hQ : ∀ m : List Int, m.length ≤ 64 → (∀ x ∈ m, 0 ≤ x ∧ x ≤ l.length) → Q (iL m)) : CallV c (.ref 341) [iL l, iL ends, iL sc, .int place] Q X := by
  refine call4 F_law_cuts D_law_cuts ht (by lia) "octets" "ends" "script" "place" (fun v u w z => rfl) ⟨rfl, rfl, rfl, rfl⟩ (by decide) fun N F hmu hout => ?_
  dsimp only [D_law_cuts]
  refine Sx_asg (Slot1.loc rfl) ?_ rfl
  refine Ev_lst ?_ rfl
  refine EvL_i ?_
  refine EvL_i ?_
  refine EvL_i ?_
  refine EvL_i ?_
  refine EvL_i ?_
  refine EvL_i ?_
  refine EvL_i ?_
  refine EvL_cons ?_
  refine Ev_bin ?_
  refine Ev_b B_len (by assumption) ?_
  refine EvL_nm1 rfl ?_
  refine len_ints (by lia) ?_
  refine Ev_int ?_
  refine sub_int ?_
  refine EvL_cons ?_
  refine Ev_b B_len (by assumption) ?_
  refine EvL_nm1 rfl ?_
  refine len_ints (by lia) ?_
  refine EvL_nil ?_
  refine LLst.mk rfl ?_
  refine Sx_cons ?_
  refine Sx_for ?_
  refine Ev_nm rfl ?_
  refine ⟨_, iters_list, ?_⟩
  refine Loop_inv (InvCu l sc place)
    ⟨rfl, [0, 1, 19, 20, 39, 40, 41, (l.length : Int) - 1, l.length], rfl, rfl, rfl, rfl, rfl⟩ ?_ ?_
  · rintro i p ρ σ hp ⟨rfl, cu, n1, q1, q2, q3, q4⟩
    obtain ⟨x, rfl, hi⟩ : ∃ x : Int, p = .int x ∧ i < ends.length := by
      rw [List.getElem?_map] at hp
      cases e : ends[i]? with
      | none => rw [e] at hp; cases hp
      | some x => rw [e] at hp; cases hp; exact ⟨x, rfl, (List.getElem?_eq_some_iff.mp e).1⟩
    refine ⟨Slot1.loc rfl, ?_⟩
    refine Sx_asg (Slot1.loc rfl) ?_ rfl
    refine Ev_bin_n (by assumption) ?_
    refine Ev_lst ?_ rfl
    refine EvL_cons ?_
    refine Ev_bin_ni rfl ?_
    refine sub_int ?_
    refine EvL_nm rfl ?_
    refine EvL_cons ?_
    refine Ev_bin_ni rfl ?_
    refine add_int ?_
    refine EvL_nil ?_
    refine LLst.mk rfl ?_
    refine add_ints (m := [x - 1, x, x + 1]) (by simp; lia) ?_
    refine Sx_nil ?_
    exact ⟨rfl, cu ++ [x - 1, x, x + 1], by simp; lia, rfl, by assumption, by assumption, by assumption⟩
  · rintro ρ σ ⟨rfl, cu, n1, q1, q2, q3, q4⟩
    rw [List.length_map] at n1
    refine Sx_asg (Slot1.loc rfl) ?_ rfl
    refine Ev_bin_n (by assumption) ?_
    refine Ev_compR (ρc := [("octets", iL l), ("place", .int place), ("script", iL sc)]) _ (.of rfl rfl rfl ⟨⟨q2, rfl, rfl, .inl rfl, rfl⟩, ⟨q4, rfl, rfl, .inl rfl, rfl⟩, ⟨q3, rfl, rfl, .inl rfl, rfl⟩, trivial⟩) ?_
    refine Ev_t B_range ht ?_
    refine EvL_i1 ?_
    refine range_1 ?_
    refine ⟨_, fun k => .int (at0 sc (place + k) % ((l.length : Int) + 1)), rfl, by decide, by decide, ?_, ?_⟩
    · intro cl S C i hi
      refine Ev_bin ?_
      refine Ev_f G_law_digit ht ?_
      refine EvL_nm rfl ?_
      refine EvL_cons ?_
      refine Ev_bin_nn rfl rfl ?_
      refine add_int ?_
      refine EvL_nil ?_
      refine law_digit_spec ht (n_comp (n_in (by assumption) rfl)) (by lia) (by lia) ?_
      refine Ev_bin ?_
      refine Ev_b B_len (by assumption) ?_
      refine EvL_nm1 rfl ?_
      refine len_ints (by lia) ?_
      refine Ev_int ?_
      refine add_int ?_
      refine mod_int (by lia) ?_
      rw [fmod_pos _ (by lia)]
    · rw [map_int]
      refine add_ints (by rw [List.length_map, List.length_range, n1]; show 9 + 3 * ends.length + 3 ≤ _; lia) ?_
      have n2 : (cu ++ (List.range (Int.toNat 3)).map fun (k : Nat) => at0 sc (place + k) % ((l.length : Int) + 1)).length < 64 := by
        rw [List.length_append, List.length_map, List.length_range, n1]; show 9 + 3 * ends.length + 3 < 64; lia
      generalize (cu ++ (List.range (Int.toNat 3)).map fun (k : Nat) => at0 sc (place + k) % ((l.length : Int) + 1)) = cu2 at n2 ⊢
      refine Sx_rt ?_
      refine Ev_comp (xs := ["cut"]) (ρc := [("octets", iL l)]) (fun _ _ _ => ⟨_, .of rfl rfl rfl ⟨⟨q2, rfl, rfl, .inl rfl, rfl⟩, trivial⟩⟩) ?_
      refine Ev_sortset (B_sorted.name ht rfl) (B_set.name ht rfl) ?_
      refine Ev_nm rfl ?_
      refine ⟨cu2, rfl, n2, fun m hm => ⟨_, fun p => match p with | .int x => if 0 ≤ x ∧ x ≤ (l.length : Int) then some (.int x) else none | _ => none, iters_list, by rw [List.length_map]; lia, ?_, ?_⟩⟩
      · intro cl S p hp
        obtain ⟨x, _, rfl⟩ := List.mem_map.mp hp
        refine ⟨[("cut", .int x)], .inl ⟨_, _, rfl, rfl, rfl⟩, fun C => ⟨?_, fun q hq => ?_⟩⟩
        · refine Tr_chain2 ?_
          refine Ev_int ?_
          refine Ev_nm rfl ?_
          refine le_int ?_
          refine TV_bool ?_
          refine ite_d (fun z => ?_) fun z => ?_
          · refine Ev_b B_len (by assumption) ?_
            refine EvL_nm1 rfl ?_
            refine len_ints (by lia) ?_
            refine le_int ?_
            refine TV_bool ?_
            show _ = (if 0 ≤ x ∧ x ≤ (l.length : Int) then some (PV.int x) else none).isSome
            by_cases y : x ≤ (l.length : Int)
            · rw [if_pos ⟨z, y⟩, decide_eq_true y]; rfl
            · rw [if_neg (fun w => y w.2), decide_eq_false y]; rfl
          · show _ = (if 0 ≤ x ∧ x ≤ (l.length : Int) then some (PV.int x) else none).isSome
            rw [if_neg (fun w => z w.1)]; rfl
        · replace hq : (if 0 ≤ x ∧ x ≤ (l.length : Int) then some (PV.int x) else none) = some q := hq
          by_cases w : 0 ≤ x ∧ x ≤ (l.length : Int)
          · rw [if_pos w] at hq
            cases hq
            refine Ev_nm rfl ?_
            rfl
          · rw [if_neg w] at hq; cases hq
      · have e : (List.filterMap (fun p => match p with | PV.int x => if 0 ≤ x ∧ x ≤ (l.length : Int) then some (PV.int x) else none | _ => none) (m.map PV.int)) = (m.filter fun x => decide (0 ≤ x ∧ x ≤ (l.length : Int))).map .int := by
          clear hm
          induction m with
          | nil => rfl
          | cons x m ih =>
            rw [List.map_cons, List.filterMap_cons]
            by_cases w : 0 ≤ x ∧ x ≤ (l.length : Int)
            · rw [List.filter_cons_of_pos (by exact decide_eq_true w), List.map_cons, ← ih]; simp only [if_pos w]
            · rw [List.filter_cons_of_neg (by rw [decide_eq_false w]; exact Bool.false_ne_true), ← ih]; simp only [if_neg w]
        rw [e]
        refine hQ _ (Nat.le_trans (List.length_filter_le _ _) (by lia)) fun x hx => ?_
        exact of_decide_eq_true (List.mem_filter.mp hx).2
end
section
variable {c : Cx} {F : Fm} {ρ : PEnv} {σ : Ow} {K : PK} {Q : PV → Prop} {X : PX → Prop}
theorem Ev_one {t : Sem Value} (h : Ev c ρ t (fun q => ∃ m : List Int, q = iL m ∧ m.length ≤ 1) X) (k : ∀ m : List Int, m.length ≤ 1 → Q (iL m)) : Ev c ρ t Q X := h.mono (fun q ⟨m, e, hm⟩ => e ▸ k m hm) fun _ x => x
inductive InvM1 (l1 l2 sc : List Int) (i : Nat) (ρ : PEnv) (σ : Ow) : Prop
  | mk (e : σ = none) (q1 : lk ρ "four" = some (iL l1)) (q2 : lk ρ "whole" = some (lkV (look4P l1))) (q3 : lk ρ "six" = some (iL l2)) (q4 : lk ρ "script" = some (iL sc))
inductive InvM2 (l2 : List Int) (i : Nat) (ρ : PEnv) (σ : Ow) : Prop
  | mk (e : σ = none) (q1 : lk ρ "six" = some (iL l2)) (q2 : lk ρ "whole" = some (lkV (look6P l2)))
theorem law_spec {sc : List Int} (ht : c.Txt) (hn : 9 ≤ c.n) (hs : Script sc) (hl : sc.length ≤ 64) (hQ : Q (.bool true)) : CallP c (.ref 374) [iL sc] Q := by
  refine call_txtP F_law_main D_law_main (ρ := [("script", iL sc)]) ht (by lia) (fun I s vs r hr => ?_) rfl (List.nodup_cons.mpr ⟨by simp, List.nodup_nil⟩) fun N F hmu hout => ?_
  · exact RepAll.e1 hr fun h1 => ⟨_, .of_eq rfl, .cons h1 .nil, rfl⟩
  dsimp only [D_law_main]
  refine SxP_cons (SxP.of ?_)
  refine Sx_swap2 (x := "four") (y := "six") (Slot1.loc rfl) (Slot1.loc rfl) ?_ rfl rfl
  refine Ev_f G_law_four ht ?_
  refine EvL_nm1 rfl ?_
  refine law_four_spec ht (n_in (by assumption) rfl) hs fun l1 o1 m1 n1 => ?_
  refine Ev_f G_law_six ht ?_
  refine EvL_nm1 rfl ?_
  refine law_six_spec ht (n_in (by assumption) rfl) hs fun l2 o2 m2 n2 => ?_
  refine SxP_cons (SxP.of ?_)
  refine Sx_assign (Slot1.loc rfl) ?_ rfl
  refine Ev_f G_look4 ht ?_
  refine EvL_cons ?_
  refine Ev_t B_bytes (by assumption) ?_
  refine EvL_nm1 rfl ?_
  refine bytes_ints o1 (by lia) ?_
  refine EvL_nil ?_
  refine look4_spec ht (n_in (by assumption) rfl) (.inl rfl) o1 (by lia) ?_
  refine SxP_cons (SxP.of ?_)
  refine Sx_assign (Slot1.loc rfl) ?_ rfl
  refine Ev_bin ?_
  refine Ev_lst ?_ rfl
  refine EvL_cons ?_
  refine Ev_f G_law_number ht ?_
  refine EvL_cons ?_
  refine Ev_cut_n rfl ?_
  refine EvO_i ?_
  refine EvO_i ?_
  refine cut_ints (by lia) ?_
  refine EvL_nil ?_
  refine law_number_spec ht (n_in (by assumption) rfl) (Nat.le_trans (cutL_le l1 (by decide) (by decide)) (by decide)) (o1.cut _ _) ?_
  refine EvL_nil ?_
  refine LLst.mk rfl ?_
  refine Ev_one (Ev_ifexp ?_) fun e1 he1 => ?_
  · refine Tr_cmp_n rfl ?_
    refine Ev_none ?_
    cases look4P l1 with
    | none =>
      refine is_none (b := true) rfl ?_
      refine TV_bool ?_
      refine ite_T ?_
      refine Ev_lst ?_ rfl
      refine EvL_nil ?_
      refine LLst.mk rfl ?_
      exact ⟨[], rfl, by decide⟩
    | some x =>
      obtain ⟨x1, x2, x3, x4⟩ := x
      rw [lkV_some]
      refine is_none (b := false) rfl ?_
      refine TV_bool ?_
      refine ite_F ?_
      refine Ev_lst ?_ rfl
      refine EvL_cons ?_
      refine Ev_item_ni rfl ?_
      refine item_tup ⟨rfl, rfl, rfl⟩ ?_
      refine EvL_nil ?_
      refine LLst.mk rfl ?_
      exact ⟨[x2], rfl, Nat.le_refl 1⟩
  refine add_ints (l := [num (cutL l1 (some 2) (some 4))]) (by simp; lia) ?_
  refine SxP_cons (SxP_for ?_)
  refine Ev_f G_law_cuts ht ?_
  refine EvL_nm rfl ?_
  refine EvL_nm rfl ?_
  refine EvL_nm rfl ?_
  refine EvL_i1 ?_
  refine law_cuts_spec (ends := [num (cutL l1 (some 2) (some 4))] ++ e1) ht (n_in (by assumption) rfl) (by lia) (by simp; lia) hl (by decide) fun m hm hb => ?_
  refine ⟨_, iters_list, ?_⟩
  refine LoopP_inv (InvM1 l1 l2 sc) ⟨rfl, rfl, rfl, rfl, rfl⟩ ?_ ?_
  · rintro i p ρ σ hp ⟨rfl, q1, q2, q3, q4⟩
    obtain ⟨x, rfl, hx⟩ : ∃ x : Int, p = .int x ∧ x ∈ m := by
      rw [List.getElem?_map] at hp
      cases e : m[i]? with
      | none => rw [e] at hp; cases hp
      | some x => rw [e] at hp; cases hp; exact ⟨x, rfl, List.mem_of_getElem? e⟩
    refine ⟨Slot1.loc rfl, ?_⟩
    refine SxP_cons (SxP_if (TrP_not (TrP_call (EvP_call (G_law_four_right.name ht rfl) (G_law_four_right.keeps ht) ?_))))
    refine EvL_nm (by assumption) ?_
    refine EvL_nm (by assumption) ?_
    refine EvL_nm1 rfl ?_
    refine law_four_right_spec ht (n_in (by assumption) rfl) o1 (by lia) (hb x hx).1 (hb x hx).2 ?_
    refine TV_bool ?_
    refine ite_not ?_
    refine ite_T ?_
    refine SxP.of ?_
    refine Sx_nil ?_
    refine SxP.of ?_
    refine Sx_nil ?_
    exact ⟨rfl, by assumption, by assumption, by assumption, by assumption⟩
  rintro ρ σ ⟨rfl, -, -, q3, q4⟩
  refine SxP_cons (SxP.of ?_)
  refine Sx_assign (Slot1.loc rfl) ?_ rfl
  refine Ev_f G_look6 ht ?_
  refine EvL_cons ?_
  refine Ev_t B_bytes (by assumption) ?_
  refine EvL_nm1 (by assumption) ?_
  refine bytes_ints o2 (by lia) ?_
  refine EvL_nil ?_
  refine look6_spec ht (n_in (by assumption) rfl) (.inl rfl) o2 (by lia) ?_
  refine SxP_cons (SxP.of ?_)
  refine Sx_assign (Slot1.loc rfl) ?_ rfl
  refine Ev_bin ?_
  refine Ev_lst ?_ rfl
  refine EvL_cons ?_
  refine Ev_bin_i ?_
  refine Ev_f G_law_number ht ?_
  refine EvL_cons ?_
  refine Ev_cut_n (by assumption) ?_
  refine EvO_i ?_
  refine EvO_i ?_
  refine cut_ints (by lia) ?_
  refine EvL_nil ?_
  refine law_number_spec ht (n_in (by assumption) rfl) (Nat.le_trans (cutL_le l2 (by decide) (by decide)) (by decide)) (o2.cut _ _) ?_
  refine add_int ?_
  refine EvL_nil ?_
  refine LLst.mk rfl ?_
  refine Ev_one (Ev_ifexp ?_) fun e2 he2 => ?_
  · refine Tr_cmp_n rfl ?_
    refine Ev_none ?_
    cases look6P l2 with
    | none =>
      refine is_none (b := true) rfl ?_
      refine TV_bool ?_
      refine ite_T ?_
      refine Ev_lst ?_ rfl
      refine EvL_nil ?_
      refine LLst.mk rfl ?_
      exact ⟨[], rfl, by decide⟩
    | some x =>
      obtain ⟨x1, x2, x3, x4⟩ := x
      rw [lkV_some]
      refine is_none (b := false) rfl ?_
      refine TV_bool ?_
      refine ite_F ?_
      refine Ev_lst ?_ rfl
      refine EvL_cons ?_
      refine Ev_item_ni rfl ?_
      refine item_tup ⟨rfl, rfl, rfl⟩ ?_
      refine EvL_nil ?_
      refine LLst.mk rfl ?_
      exact ⟨[x2], rfl, Nat.le_refl 1⟩
  refine add_ints (l := [40 + num (cutL l2 (some 4) (some 6))]) (by simp; lia) ?_
  refine SxP_cons (SxP_for ?_)
  refine Ev_f G_law_cuts ht ?_
  refine EvL_nm (by assumption) ?_
  refine EvL_nm rfl ?_
  refine EvL_nm (by assumption) ?_
  refine EvL_i1 ?_
  refine law_cuts_spec (ends := [40 + num (cutL l2 (some 4) (some 6))] ++ e2) ht (n_in (by assumption) rfl) (by lia) (by simp; lia) hl (by decide) fun m hm hb => ?_
  refine ⟨_, iters_list, ?_⟩
  refine LoopP_inv (InvM2 l2) ⟨rfl, by assumption, rfl⟩ ?_ ?_
  · rintro i p ρ σ hp ⟨rfl, q1, q2⟩
    obtain ⟨x, rfl, hx⟩ : ∃ x : Int, p = .int x ∧ x ∈ m := by
      rw [List.getElem?_map] at hp
      cases e : m[i]? with
      | none => rw [e] at hp; cases hp
      | some x => rw [e] at hp; cases hp; exact ⟨x, rfl, List.mem_of_getElem? e⟩
    refine ⟨Slot1.loc rfl, ?_⟩
    refine SxP_cons (SxP_if (TrP_not (TrP_call (EvP_call (G_law_six_right.name ht rfl) (G_law_six_right.keeps ht) ?_))))
    refine EvL_nm (by assumption) ?_
    refine EvL_nm (by assumption) ?_
    refine EvL_nm1 rfl ?_
    refine law_six_right_spec ht (n_in (by assumption) rfl) o2 (by lia) (hb x hx).1 (hb x hx).2 ?_
    refine TV_bool ?_
    refine ite_not ?_
    refine ite_T ?_
    refine SxP.of ?_
    refine Sx_nil ?_
    refine SxP.of ?_
    refine Sx_nil ?_
    exact ⟨rfl, by assumption, by assumption⟩
  rintro ρ σ ⟨rfl, -, -⟩
  refine SxP.of ?_
  refine Sx_rt ?_
  refine Ev_bool ?_
  exact hQ
end
end
section
open PySem PySem.W PySem.Calls PyProof.Rows
theorem fin : PySem.Challenge.rw_pq1085_01.Holds := by
  refine Mine.hd fun w s₀ s₁ mg mb G Y a o pm cd doc dV kV ho hdd hc hD hm hg args vals as hp hl hr hw ha => ?_
  have Y2 : (Mine.hd.heap_1 w.params).In s₁.heap := Y
  have T := G.T
  have hm2 : mg (Str.ofString "law") = some (.ref a) := hm
  clear G hdd hD hc ho hm Y hw ha
  have W : ∃ W : Wd, W.w = w ∧ W.B = s₁.heap ∧ W.K = Mine.hd.heap_1 W.w.params ∧ W.prog = PySem.Challenge.rw_pq1085_01.row.prog ∧ W.mg = mg := ⟨⟨_, w, _, s₁.heap, Y2, T.nolimit, mg, mb, T.g, T.b, T.builtins⟩, rfl, rfl, rfl, rfl, rfl⟩
  obtain ⟨W, rfl, hB, hK, hP, rfl⟩ := W
  clear T Y2
  have ht : (topCx W).Txt := hK
  have e := W.glob (show nsIn W.K mainGlobals "law" = some (some (.ref 374)) by rw [hK]; exact G_law_main.e _)
  rw [hm2] at e
  cases e
  exact law_end (L := PySem.Challenge.rw_pq1085_01) W hB hg hP rfl rfl (fun sc h1 h2 => law_spec ht (Nat.le_refl 9) ⟨h1, h2⟩ (Nat.le_succ_of_le h1) rfl) hp hl hr
end
end
end Mine
set_option maxHeartbeats 8000000 in
theorem PySem.Challenge.cw_pq1085_01_holds : PySem.Challenge.rw_pq1085_01.Holds :=
  Mine.fin
