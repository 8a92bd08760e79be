import PyProof.Rows.All
import Wide.All
import OpenK.AllK
import Wide.FinOn
import KE.KIntText
import KE.KLam
import Lean
import PySem.Challenge.RW_pb0443_01
set_option Elab.async false
set_option linter.unusedVariables false
set_option linter.unusedSimpArgs false
set_option maxRecDepth 100000
set_option exponentiation.threshold 500
section
open PySem PySem.W PyProof.Rows
set_option maxHeartbeats 8000000
namespace Mi
local macro_rules | `(tactic| o_head $_) => `(tactic| contradiction)
theorem h0 : False → PySem.Challenge.rw_pb0443_01.row.Holds := by
 intro hF
 k_head
end Mi
end
set_option genSizeOf false
set_option genInjectivity false
namespace Mi
section
open PySem PySem.W PyProof.Rows PySem.Calls
section
open PySem PySem.W PyProof.Rows
inductive V where
 | none
 | bool (b : Bool)
 | int (i : Int)
 | str (l : List Nat)
 | tup (l : List V)
 | lst (l : List V)
 | ins (C : Addr) (fs : List (Str × V))
 | obj (i : Nat)
 | val (r : Value)
 | fn (i : Nat) (cl : List (String × Nat))
inductive AO where
 | lst (l : List V)
 | ins (C : Addr) (fs : List (Str × V))
 | cell (v : V)
 | cell0
structure St where
 loc : List (String × V)
 hp : List AO
inductive Res (α : Type) where
 | ok (a : α) (σ : St)
 | ex (C : Addr) (m : V) (σ : St)
 | bad
inductive Fl where
 | next
 | ret (v : V)
noncomputable def Res.bind {α β : Type} (r : Res α) (k : α → St → Res β) : Res β := match r with
 | .ok a σ => k a σ
 | .ex C m σ => .ex C m σ
 | .bad => .bad
structure U where
 prog : Program
 w : World
 K : Frag
 p : Program
 loose : List Str
 mg : Str → Option Value
 mb : Str → Option Value
 B : Heap
 os : OsState
 pl : Addr → Bool
 lam : Nat → Expr × Scope
 tq : Addr → Str
 tbs : List Addr
noncomputable abbrev U.M (u : U) : Model := model u.prog u.w
structure U.Ok (u : U) : Prop where
 X : u.K.In u.B
 T : TopRead u.p u.loose u.mg u.mb u.B
 bm : ∃ bm ob, u.mg "__builtins__" = some (.ref bm) ∧ bm ≠ builtinsNs ∧ u.B.get? bm = some ob ∧ ob.cls = .type "module" ∧ ob.dict = some builtinsNs ∧ ob.data = .plain
structure Cx where
 env : Env
 A : Around
 fenvs : List Env
 room : Nat
structure Cx.Ok (c : Cx) : Prop where
 kind : c.env.scope.kind = .function
 glob : c.env.globals = mainGlobals
 blt : c.env.builtins = builtinsNs
 frames : c.A.frames = some c.fenvs
 handled : c.A.handled = .none
 depth : c.A.depth + c.room < recursionLimit
 units : c.A.units + 10 * c.room < cLine
 one : 1 ≤ c.room
structure Wd where
 m : Str → Option Value
 fz : List (Addr × Obj)
 hp : List (Addr × List (Addr × Obj))
 tb : List (Addr × Obj)
 fr : List (Addr × Obj)
noncomputable def Wd.mu (W : Wd) : List (Addr × Obj) := W.hp.flatMap (·.2) ++ W.tb ++ W.fr
noncomputable def Wd.led (W : Wd) : List (Addr × Obj) := W.fz ++ W.mu
noncomputable def Wd.adr (W : Wd) : List Addr := W.hp.map (·.1)
noncomputable def Has (u : U) (W : Wd) (a : Addr) (o : Obj) : Prop := (a, o) ∈ W.fz ∨ u.B.get? a = some o
noncomputable def CodeOf (u : U) (W : Wd) (cv : Value) (q : Str) : Prop := ∃ c oc vs t, cv = .ref c ∧ Has u W c oc ∧ oc.data = .fields vs ∧ vs[1]? = some (.str q t)
theorem CodeOf.mk_ {u : U} {W : Wd} {cv : Value} {q : Str} {P : Prop} (h : CodeOf u W cv q) (k : ∀ c oc vs t, cv = .ref c → Has u W c oc → oc.data = .fields vs → vs[1]? = some (.str q t) → P) : P :=
 let ⟨c, oc, vs, t, a, b, d, e⟩ := h; k c oc vs t a b d e
structure FnOk (u : U) (W : Wd) (fd : FuncData) (i : Nat) : Prop where
 body : fd.body = .expr (u.lam i).1
 scope : fd.scope = (u.lam i).2
 glob : fd.globals = mainGlobals
 blt : fd.builtins = builtinsNs
 args : bindArgs fd ⟨[], []⟩ = pure []
 code : CodeOf u W fd.code fd.qualname
inductive Tri : List Value → Prop where
 | nil : Tri []
 | cons {a b : Int} {t t' : Tok} {w : Value} {r : List Value} : Tri r → Tri (.int a t :: .int b t' :: w :: r)
theorem Tri.ok {l : List Value} (h : Tri l) : TriplesOk l := by
 induction h with
 | nil => exact trivial
 | cons _ ih => exact ih
theorem cps {G : Prop} (h : ∀ P : Prop, (G → P) → P) : G := h G id
noncomputable def TbOk (u : U) (W : Wd) (p : Addr × Obj) : Prop := ∃ ps, p.2 = tabObj ps ∧ Tri ps.toList ∧ ∀ pos cv, codeAmong pos ps.toList = some cv → CodeOf u W cv (u.tq p.1)
mutual
inductive Rep (u : U) (W : Wd) : Value → V → Prop where
 | none : Rep u W .none .none
 | bool (b : Bool) : Rep u W (.bool b) (.bool b)
 | int (i : Int) (t : Tok) : Rep u W (.int i t) (.int i)
 | str (l : List Nat) (t : Tok) : Rep u W (.str ⟨l.toArray⟩ t) (.str l)
 | tup {a : Addr} {o : Obj} {vs : List Value} {n : Nat} {l : List V} : Has u W a o → o.cls = .type "tuple" → o.data = .seq vs.toArray n → Reps u W vs l → Rep u W (.ref a) (.tup l)
 | lst {a : Addr} {o : Obj} {vs : List Value} {n : Nat} {l : List V} : Has u W a o → o.cls = .type "list" → o.data = .seq vs.toArray n → Reps u W vs l → Rep u W (.ref a) (.lst l)
 | ins {x dx C : Addr} {ox : Obj} {es : List DictEntry} {n : Nat} {fs : List (Str × V)} : Has u W x ox → ox = ⟨.ref C, some dx, .plain, #[]⟩ → Has u W dx (dictOf es n) → RepF u W es fs → Rep u W (.ref x) (.ins C fs)
 | obj {a : Addr} {i : Nat} : W.adr[i]? = some a → Rep u W (.ref a) (.obj i)
 | val (r : Value) : Rep u W r (.val r)
 | fn {f : Addr} {o : Obj} {fd : FuncData} {i : Nat} {cl : List (String × Nat)} : Has u W f o → o.data = .func fd → FnOk u W fd i → (∀ n k, (n, k) ∈ cl → ∃ a, W.adr[k]? = some a ∧ fd.closure.lookup (Str.ofString n) = some a) → Rep u W (.ref f) (.fn i cl)
inductive Reps (u : U) (W : Wd) : List Value → List V → Prop where
 | nil : Reps u W [] []
 | cons {r : Value} {v : V} {rs : List Value} {vs : List V} : Rep u W r v → Reps u W rs vs → Reps u W (r :: rs) (v :: vs)
inductive RepF (u : U) (W : Wd) : List DictEntry → List (Str × V) → Prop where
 | nil : RepF u W [] []
 | cons {h : Int} {k : Str} {t : Tok} {r : Value} {v : V} {es : List DictEntry} {fs : List (Str × V)} : Rep u W r v → RepF u W es fs → RepF u W (⟨h, .str k t, r⟩ :: es) ((k, v) :: fs)
end
inductive RepO (u : U) (W : Wd) : Addr → List (Addr × Obj) → AO → Prop where
 | lst {a : Addr} {vs : List Value} {n : Nat} {l : List V} : Reps u W vs l → RepO u W a [(a, { cls := .type "list", data := .seq vs.toArray n })] (.lst l)
 | ins {x dx C : Addr} {es : List DictEntry} {n : Nat} {fs : List (Str × V)} : RepF u W es fs → RepO u W x [(x, ⟨.ref C, some dx, .plain, #[]⟩), (dx, dictOf es n)] (.ins C fs)
 | cell {a : Addr} {o : Obj} {r : Value} {v : V} : o.data = .cell (some r) → Rep u W r v → RepO u W a [(a, o)] (.cell v)
 | cell0 {a : Addr} {o : Obj} : o.data = .cell none → RepO u W a [(a, o)] .cell0
inductive Hps (u : U) (W : Wd) : List (Addr × List (Addr × Obj)) → List AO → Prop where
 | nil : Hps u W [] []
 | cons {a : Addr} {os : List (Addr × Obj)} {x : AO} {hs : List (Addr × List (Addr × Obj))} {xs : List AO} : RepO u W a os x → Hps u W hs xs → Hps u W ((a, os) :: hs) (x :: xs)
structure Ev (W W' : Wd) : Prop where
 fz : ∀ p ∈ W.fz, p ∈ W'.fz
 hp : W.adr <+: W'.adr
 tb : W'.tb.map (·.1) = W.tb.map (·.1)
 fr : TI.SameUp W.fr W'.fr
theorem Ev.refl (W : Wd) : Ev W W := ⟨fun _ h => h, List.prefix_refl _, rfl, TI.SameUp.refl _⟩
theorem Ev.trans {W₁ W₂ W₃ : Wd} (a : Ev W₁ W₂) (b : Ev W₂ W₃) : Ev W₁ W₃ :=
 ⟨fun p h => b.fz p (a.fz p h), a.hp.trans b.hp, b.tb.trans a.tb, a.fr.trans b.fr⟩
theorem Ev.get {W W' : Wd} (e : Ev W W') {i : Nat} {a : Addr} (h : W.adr[i]? = some a) : W'.adr[i]? = some a := by
 obtain ⟨t, ht⟩ := e.hp
 rw [← ht, List.getElem?_append_left (List.getElem?_eq_some_iff.mp h).1]; exact h
noncomputable def q2n (o : Obj) : Prop := o.cls ≠ .type "tuple" ∧ o.cls ≠ .type "list" ∧ o.cls ≠ .type "dict" ∧ (∀ C, o.cls ≠ .ref C) ∧ (∀ fd, o.data ≠ .func fd) ∧ ∀ vs q t, o.data = .fields vs → vs[1]? ≠ some (.str q t)
theorem nd_tup {o : Obj} (h : o.cls = .type "tuple") : ¬ q2n o := fun n => n.1 h
theorem nd_lst {o : Obj} (h : o.cls = .type "list") : ¬ q2n o := fun n => n.2.1 h
theorem nd_dict {es : List DictEntry} {n : Nat} : ¬ q2n (dictOf es n) := fun h => h.2.2.1 rfl
theorem nd_ins {o : Obj} {C : Addr} (h : o.cls = .ref C) : ¬ q2n o := fun n => n.2.2.2.1 C h
theorem nd_fn {o : Obj} {fd : FuncData} (h : o.data = .func fd) : ¬ q2n o := fun n => n.2.2.2.2.1 fd h
theorem nd_code {o : Obj} {vs : Array Value} {q : Str} {t : Tok} (h : o.data = .fields vs) (h2 : vs[1]? = some (.str q t)) : ¬ q2n o := fun n => n.2.2.2.2.2 vs q t h h2
structure Sub (W W' : Wd) : Prop where
 fz : ∀ p ∈ W.fz, ¬ q2n p.2 → p ∈ W'.fz
 ad : ∀ (i : Nat) (a : Addr), W.adr[i]? = some a → W'.adr[i]? = some a
theorem Ev.sub {W W' : Wd} (e : Ev W W') : Sub W W' := ⟨fun p h _ => e.fz p h, fun _ _ h => e.get h⟩
section
variable {u : U} {W W' : Wd}
theorem Has.sub {a : Addr} {o : Obj} (e : Sub W W') (n : ¬ q2n o) (h : Has u W a o) : Has u W' a o := h.imp (fun h => e.fz _ h n) id
theorem CodeOf.fz {cv : Value} {q : Str} (e : ∀ p ∈ W.fz, ¬ q2n p.2 → p ∈ W'.fz) (h : CodeOf u W cv q) : CodeOf u W' cv q := h.mk_ fun c oc vs t a b d f => ⟨c, oc, vs, t, a, b.imp (fun h => e _ h (nd_code d f)) id, d, f⟩
theorem FnOk.fz {fd : FuncData} {i : Nat} (e : ∀ p ∈ W.fz, ¬ q2n p.2 → p ∈ W'.fz) (h : FnOk u W fd i) : FnOk u W' fd i := ⟨h.body, h.scope, h.glob, h.blt, h.args, h.code.fz e⟩
theorem CodeOf.sub {cv : Value} {q : Str} (e : Sub W W') (h : CodeOf u W cv q) : CodeOf u W' cv q := h.fz e.fz
theorem FnOk.sub {fd : FuncData} {i : Nat} (e : Sub W W') (h : FnOk u W fd i) : FnOk u W' fd i := h.fz e.fz
theorem TbOk.sub {p : Addr × Obj} (e : Sub W W') (h : TbOk u W p) : TbOk u W' p := h.elim fun ps h => ⟨ps, h.1, h.2.1, fun pos cv q => (h.2.2 pos cv q).sub e⟩
theorem TbOk.fz {p : Addr × Obj} (e : ∀ p ∈ W.fz, ¬ q2n p.2 → p ∈ W'.fz) (h : TbOk u W p) : TbOk u W' p := h.elim fun ps h => ⟨ps, h.1, h.2.1, fun pos cv q => (h.2.2 pos cv q).fz e⟩
theorem Rep.sub (e : Sub W W') {r : Value} {v : V} (h : Rep u W r v) : Rep u W' r v :=
 Rep.rec (motive_1 := fun r v _ => Rep u W' r v) (motive_2 := fun r v _ => Reps u W' r v) (motive_3 := fun r v _ => RepF u W' r v) .none .bool .int .str
   (fun h c d _ r => .tup (h.sub e (nd_tup c)) c d r) (fun h c d _ r => .lst (h.sub e (nd_lst c)) c d r) (fun h c h' _ r => .ins (h.sub e (nd_ins (congrArg Obj.cls c))) c (h'.sub e nd_dict) r)
   (fun h => .obj (e.ad _ _ h)) .val (fun h d k q => .fn (h.sub e (nd_fn d)) d (k.sub e) fun n j hm => (q n j hm).imp fun a h => ⟨e.ad _ _ h.1, h.2⟩) .nil (fun _ _ a b => .cons a b) .nil (fun _ _ a b => .cons a b) h
theorem Reps.sub (e : Sub W W') {r : List Value} {v : List V} (h : Reps u W r v) : Reps u W' r v := by
 induction v generalizing r with
 | nil => cases h; exact .nil
 | cons v l ih => cases h with | cons a b => exact .cons (a.sub e) (ih b)
theorem RepF.sub (e : Sub W W') {r : List DictEntry} {v : List (Str × V)} (h : RepF u W r v) : RepF u W' r v := by
 induction v generalizing r with
 | nil => cases h; exact .nil
 | cons v l ih => cases h with | cons a b => exact .cons (a.sub e) (ih b)
theorem RepO.sub (e : Sub W W') {a : Addr} {os : List (Addr × Obj)} {x : AO} (h : RepO u W a os x) : RepO u W' a os x :=
 RepO.casesOn h (fun r => .lst (r.sub e)) (fun r => .ins (r.sub e)) (fun h r => .cell h (r.sub e)) (fun h => .cell0 h)
theorem Hps.sub (e : Sub W W') {hs : List (Addr × List (Addr × Obj))} {xs : List AO} (h : Hps u W hs xs) : Hps u W' hs xs :=
 Hps.rec .nil (fun a _ b => .cons (a.sub e) b) h
theorem Rep.ev (e : Ev W W') {r : Value} {v : V} (h : Rep u W r v) : Rep u W' r v := h.sub e.sub
theorem Reps.ev (e : Ev W W') {r : List Value} {v : List V} (h : Reps u W r v) : Reps u W' r v := h.sub e.sub
theorem RepO.ev (e : Ev W W') {a : Addr} {os : List (Addr × Obj)} {x : AO} (h : RepO u W a os x) : RepO u W' a os x := h.sub e.sub
theorem Hps.ev (e : Ev W W') {hs : List (Addr × List (Addr × Obj))} {xs : List AO} (h : Hps u W hs xs) : Hps u W' hs xs := h.sub e.sub
end
noncomputable def St.get (σ : St) (x : String) : Option V := σ.loc.lookup x
noncomputable def setL (x : String) (v : V) : List (String × V) → List (String × V)
 | [] => [(x, v)]
 | p :: r => if p.1 == x then (x, v) :: r else p :: setL x v r
noncomputable def St.set (σ : St) (x : String) (v : V) : St := { σ with loc := setL x v σ.loc }
noncomputable def NameOk (u : U) (c : Cx) (W : Wd) (x : Str) (v : V) : Prop :=
 (c.env.kindOf x = some .local → ∃ r, W.m x = some r ∧ Rep u W r v) ∧
 (c.env.kindOf x = some .cell ∨ c.env.kindOf x = some .free → ∃ k a, v = .obj k ∧ W.adr[k]? = some a ∧ c.env.cells.lookup x = some a)
noncomputable def LocOk (u : U) (c : Cx) (W : Wd) (σ : St) : Prop := ∀ x v, σ.get x = some v → NameOk u c W (Str.ofString x) v
structure Apart (W : Wd) : Prop where
 nd : (W.mu.map (·.1)).Nodup
 fz : ∀ p ∈ W.fz, p.1 ∉ W.mu.map (·.1)
structure Inv (u : U) (c : Cx) (W : Wd) (σ : St) (s : Shared) : Prop where
 F : Fr u.B c.env.locals s.heap W.m
 N : News u.B c.env.locals s.heap W.led
 ap : Apart W
 loc : LocOk u c W σ
 hp : Hps u W W.hp σ.hp
 tb : ∀ p ∈ W.tb, TbOk u W p
 frs : ∀ e ∈ c.fenvs, e.scope.kind ≠ .module ∧ ∃ L, e.frame = some L ∧ (L = c.env.locals ∨ L ∈ W.fr.map (·.1))
 dic : ∀ p ∈ W.fr, ∃ es n, p.2.data = .dict es n
 gens : s.gens = #[] ∧ W.tb.map (·.1) = u.tbs
 os : s.os = u.os
inductive Trc (u : U) (c : Cx) (W : Wd) (h : Heap) (tr : Bool) (ea : Addr) (vs : Array Value) : Prop where
 | inl (a : tr = false) (b : vs[1]? = some .none)
 | inr (T : Addr) (oT : Obj) (ts : Array Value) (q : vs[1]? = some (.ref T)) (ne : T ≠ ea) (get : h.get? T = some oT) (data : oT.data = .fields ts) (sz : 3 < ts.size) (new : u.B.get? T = none) (loc : T ≠ c.env.locals) (out : T ∉ W.led.map (·.1))
inductive Msg (u : U) (W : Wd) (oe : Obj) (m : V) : Prop where
 | mk (de : Addr) (e : Int) (t : Tok) (n : Nat) (r : Value) (d : oe.dict = some de) (fz : (de, dictOf [⟨e, .str "message" t, r⟩] n) ∈ W.fz) (rep : Rep u W r m)
inductive Exc (u : U) (c : Cx) (W : Wd) (h : Heap) (tr : Bool) (ea C : Addr) (m : V) : Prop where
 | mk (oe : Obj) (vs : Array Value) (get : h.get? ea = some oe) (cls : oe.cls = .ref C) (data : oe.data = .fields vs) (trc : Trc u c W h tr ea vs) (pl : u.pl C = true → vs[2]? = some .none) (msg : Msg u W oe m)
     (new : u.B.get? ea = none) (out : ea ∉ W.led.map (·.1)) (ne : ea ≠ c.env.locals)
theorem Exc.out {u : U} {c : Cx} {W : Wd} {h : Heap} {tr : Bool} {ea C : Addr} {m : V} (x : Exc u c W h tr ea C m) : ea ∉ W.led.map (·.1) := by cases x; assumption
inductive Raised (u : U) (c : Cx) (W : Wd) (σ : St) (tr : Bool) (e : Value) (C : Addr) (m : V) (s : Shared) : Prop where
 | mk (i : Inv u c W σ s) (ea : Addr) (h : e = .ref ea) (x : Exc u c W s.heap tr ea C m)
theorem Trc.weak {u : U} {c : Cx} {W : Wd} {h : Heap} {tr : Bool} {ea : Addr} {vs : Array Value} (x : Trc u c W h tr ea vs) : Trc u c W h false ea vs := x.casesOn (fun _ b => .inl rfl b) .inr
theorem Exc.weak {u : U} {c : Cx} {W : Wd} {h : Heap} {tr : Bool} {ea C : Addr} {m : V} (x : Exc u c W h tr ea C m) : Exc u c W h false ea C m := x.casesOn fun oe vs h1 h2 h3 h4 => .mk oe vs h1 h2 h3 h4.weak
theorem Raised.weak {u : U} {c : Cx} {W : Wd} {σ : St} {tr : Bool} {e : Value} {C : Addr} {m : V} {s : Shared} (h : Raised u c W σ tr e C m s) : Raised u c W σ false e C m s := h.casesOn fun i ea q x => ⟨i, ea, q, x.weak⟩
theorem nn {α : Type} {a : α} {P : Prop} (h : Option.none = some a) : P := by cases h
inductive Got {α β : Type} (u : U) (c : Cx) (rep : Wd → α → β → Prop) (W : Wd) (σ : St) (b : β) (v : α) (s : Shared) : Prop where
 | mk (W' : Wd) (e : Ev W W') (i : Inv u c W' σ s) (r : rep W' v b)
theorem Got.k {α β : Type} {u : U} {c : Cx} {rep : Wd → α → β → Prop} {W : Wd} {σ : St} {b : β} {v : α} {s : Shared} {P : Prop} (h : Got u c rep W σ b v s) (f : ∀ W', Ev W W' → Inv u c W' σ s → rep W' v b → P) : P := h.casesOn f
inductive Threw (u : U) (c : Cx) (W : Wd) (σ : St) (tr : Bool) (C : Addr) (m : V) (x : Value) (s : Shared) : Prop where
 | mk (W' : Wd) (e : Ev W W') (r : Raised u c W' σ tr x C m s)
theorem Threw.k {u : U} {c : Cx} {W : Wd} {σ : St} {tr : Bool} {C : Addr} {m : V} {x : Value} {s : Shared} {P : Prop} (h : Threw u c W σ tr C m x s) (f : ∀ W', Ev W W' → Raised u c W' σ tr x C m s → P) : P := h.casesOn f
noncomputable def No {α : Type} (_ : α) (_ : Shared) : Prop := False
noncomputable def Sim {α β : Type} (u : U) (c : Cx) (rep : Wd → α → β → Prop) (t : Sem α) (r : Res β) (W : Wd) (s : Shared) : Prop :=
 match r with
 | .ok b σ' => wpAny u.M c.A t (Got u c rep W σ' b) No s
 | .ex C m σ' => wpAny u.M c.A t No (Threw u c W σ' false C m) s
 | .bad => True
theorem Sim.ev {α β : Type} {u : U} {c : Cx} {rep : Wd → α → β → Prop} {t : Sem α} {r : Res β} {W W' : Wd} {s : Shared} (e : Ev W W') (h : Sim u c rep t r W' s) : Sim u c rep t r W s := by
 cases r with
 | ok b σ' => exact wpAny_mono h (fun v s' ⟨W'', e', i, r⟩ => ⟨W'', e.trans e', i, r⟩) fun _ _ x => x
 | ex C m σ' => exact wpAny_mono h (fun _ _ x => x) fun _ _ h_ => h_.k fun W'' e' r => ⟨W'', e.trans e', r⟩
 | bad => trivial
theorem Sim.bind {α β γ δ : Type} {u : U} {c : Cx} {rep : Wd → α → β → Prop} {rep' : Wd → γ → δ → Prop} {t : Sem α} {k : α → Sem γ} {r : Res β} {g : β → St → Res δ} {W : Wd} {s : Shared}
   (h : Sim u c rep t r W s)
   (hk : ∀ v b σ' W' s', r = .ok b σ' → Ev W W' → Inv u c W' σ' s' → rep W' v b → Sim u c rep' (k v) (g b σ') W' s') : Sim u c rep' (t >>= k) (r.bind g) W s := by
 cases r with
 | ok b σ' =>
   have key : ∀ v s', Got u c rep W σ' b v s' → Sim u c rep' (k v) (g b σ') W s' := fun v s' ⟨W', e, i, r⟩ => (hk v b σ' W' s' rfl e i r).ev e
   show Sim u c rep' (t >>= k) (g b σ') W s
   revert key
   cases g b σ' with
   | ok d σ'' => exact fun key => wpAny_bind (wpAny_mono h key fun _ _ x => x.elim)
   | ex C m σ'' => exact fun key => wpAny_bind (wpAny_mono h key fun _ _ x => x.elim)
   | bad => exact fun _ => trivial
 | ex C m σ' => exact wpAny_bind (wpAny_mono h (fun _ _ x => x.elim) fun _ _ x => x)
 | bad => trivial
theorem Sim.bindOk {α β γ δ : Type} {u : U} {c : Cx} {rep : Wd → α → β → Prop} {rep' : Wd → γ → δ → Prop} {t : Sem α} {k : α → Sem γ} {b : β} {σ' : St} {r : Res δ} {W : Wd} {s : Shared}
   (h : Sim u c rep t (.ok b σ') W s) (hk : ∀ v W' s', Ev W W' → Inv u c W' σ' s' → rep W' v b → Sim u c rep' (k v) r W' s') : Sim u c rep' (t >>= k) r W s :=
 h.bind (g := fun _ _ => r) fun v b' σ'' W' s' q e i h' => by cases q; exact hk v W' s' e i h'
theorem Sim.pure {α β : Type} {u : U} {c : Cx} {rep : Wd → α → β → Prop} {a : α} {b : β} {σ : St} {W : Wd} {s : Shared} (i : Inv u c W σ s) (h : rep W a b) : Sim u c rep (Pure.pure a) (.ok b σ) W s :=
 wpAny_pure ⟨W, .refl W, i, h⟩
theorem Sim.congr {α β : Type} {u : U} {c : Cx} {rep : Wd → α → β → Prop} {t t' : Sem α} {r : Res β} {W : Wd} {s : Shared}
   (ht : ∀ (Q : α → Shared → Prop) (E : Value → Shared → Prop), wpAny u.M c.A t Q E s → wpAny u.M c.A t' Q E s) (h : Sim u c rep t r W s) : Sim u c rep t' r W s := by
 cases r with
 | ok b σ' => exact ht _ _ h
 | ex C m σ' => exact ht _ _ h
 | bad => trivial
theorem Sim.standAt {β γ : Type} {u : U} {c : Cx} {rep : Wd → γ → β → Prop} {pos : Pos} {k : Unit → Sem γ} {r : Res β} {W : Wd} {s : Shared} (h : Sim u c rep (k ()) r W s) : Sim u c rep (PySem.standAt pos >>= k) r W s :=
 h.congr fun _ _ x => wpAny_bind (wpAny_standAt x)
theorem Sim.holding {α β : Type} {u : U} {c : Cx} {rep : Wd → α → β → Prop} {vs : List Value} {t : Sem α} {r : Res β} {W : Wd} {s : Shared} (h : Sim u c rep t r W s) : Sim u c rep (PySem.holding vs t) r W s :=
 h.congr fun _ _ x => wpAny_holding x
theorem Sim.operate {β : Type} {u : U} {c : Cx} {rep : Wd → Value → β → Prop} {vs : List Value} {t : Sem Value} {r : Res β} {W : Wd} {s : Shared} (h : Sim u c rep t r W s) : Sim u c rep (PySem.operate vs t) r W s :=
 h.congr fun _ _ x => wpAny_operateT x
theorem Sim.use {α β : Type} {u : U} {c : Cx} {rep : Wd → α → β → Prop} {t : Sem α} {r : Res β} {W : Wd} {s : Shared} {Q : α → Shared → Prop} {E : Value → Shared → Prop} (h : Sim u c rep t r W s)
   (hok : ∀ b σ', r = .ok b σ' → ∀ v s', Got u c rep W σ' b v s' → Q v s') (hex : ∀ C m σ', r = .ex C m σ' → ∀ e s', Threw u c W σ' false C m e s' → E e s') (nb : r ≠ .bad) : wpAny u.M c.A t Q E s := by
 cases r with
 | ok b σ' => exact wpAny_mono h (hok b σ' rfl) fun _ _ x => x.elim
 | ex C m σ' => exact wpAny_mono h (fun _ _ x => x.elim) (hex C m σ' rfl)
 | bad => exact absurd rfl nb
theorem q8k {α β : Type} {u : U} {c : Cx} {rep : Wd → α → β → Prop} {t : Sem α} {b : β} {σ : St} {W : Wd} {s : Shared} {Q : α → Shared → Prop} {E : Value → Shared → Prop} (h : wpAny u.M c.A t (Got u c rep W σ b) No s)
 (k : ∀ W' v s', Ev W W' → Inv u c W' σ s' → rep W' v b → Q v s') : wpAny u.M c.A t Q E s := wpAny_mono h (fun v s' g => g.k fun W' e i r => k W' v s' e i r) fun _ _ x => x.elim
noncomputable def SE (u : U) (c : Cx) (e : Expr) (f : St → Res V) : Prop := ∀ W σ s, Inv u c W σ s → Sim u c (Rep u) (eval e c.env) (f σ) W s
noncomputable def ST (u : U) (c : Cx) (e : Expr) (f : St → Res Bool) : Prop := ∀ W σ s, Inv u c W σ s → Sim u c (fun _ a b => a = b) (isTrue e c.env (eval e c.env)) (f σ) W s
noncomputable def SEs (u : U) (c : Cx) (es : List Expr) (f : St → Res (List V)) : Prop := ∀ pos W σ s, Inv u c W σ s → Sim u c (Reps u) (spliced (backTo pos (starEach es c.env))) (f σ) W s
inductive q2m (u : U) (W : Wd) : Flow → Fl → Prop where
 | next : q2m u W .next .next
 | ret {r : Value} {v : V} : Rep u W r v → q2m u W (.ret r) (.ret v)
noncomputable def SX (u : U) (c : Cx) (st : Stmt) (f : St → Res Fl) : Prop := ∀ W σ s, Inv u c W σ s → Sim u c (q2m u) (exec st c.env) (f σ) W s
noncomputable def SB (u : U) (c : Cx) (b : List Stmt) (f : St → Res Fl) : Prop := ∀ W σ s, Inv u c W σ s → Sim u c (q2m u) (execs b c.env) (f σ) W s
end
section
variable {u : U} {c : Cx} {W : Wd} {σ : St} {s : Shared}
theorem Inv.toks (i : Inv u c W σ s) (tk : Nat) : Inv u c W σ { s with toks := tk } :=
 ⟨i.F, i.N, i.ap, i.loc, i.hp, i.tb, i.frs, i.dic, i.gens, i.os⟩
theorem Has.get (i : Inv u c W σ s) {a : Addr} {o : Obj} (h : Has u W a o) : s.heap.get? a = some o := by
 rcases h with h | h
 · exact (i.N _ (List.mem_append_left _ h)).1
 · exact i.F.keep _ _ h
theorem Sim.value {α β : Type} {rep : Wd → α → β → Prop} {t : Sem α} {b : β} (i : Inv u c W σ s)
   (h : ∀ Q : α → Shared → Prop, (∀ r tk, rep W r b → Q r { s with toks := tk }) → wpAny u.M c.A t Q (fun _ _ => False) s) : Sim u c rep t (.ok b σ) W s :=
 h _ fun _ tk hr => ⟨W, .refl W, i.toks tk, hr⟩
noncomputable def ores {α : Type} (o : Option α) (σ : St) : Res α := match o with | some a => .ok a σ | none => .bad
theorem Sim.ores {α β : Type} {rep : Wd → α → β → Prop} {t : Sem α} {o : Option β} (h : ∀ v, o = some v → Sim u c rep t (.ok v σ) W s) : Sim u c rep t (Mi.ores o σ) W s := by
 cases o with
 | none => trivial
 | some v => exact h v rfl
noncomputable def q0a (s : String) : List Nat := s.toList.map Char.toNat
theorem q1u (s : String) : Str.ofString s = ⟨(q0a s).toArray⟩ := Str.ofString_eq_toList s
theorem se_int {k : Nat} {n : Int} {p : Pos} : SE u c (.Constant (.int n) k p) (fun σ => .ok (.int n) σ) := fun W σ s i =>
 Sim.value i fun Q h => wpAny_Constant_int (h _ _ (.int n _))
theorem se_str {k : Nat} {x : String} {p : Pos} : SE u c (.Constant (.str (Str.ofString x)) k p) (fun σ => .ok (.str (q0a x)) σ) := fun W σ s i =>
 Sim.value i fun Q h => wpAny_Constant_str (h _ _ (by rw [q1u]; exact .str _ _))
theorem se_none {k : Nat} {p : Pos} : SE u c (.Constant .none k p) (fun σ => .ok .none σ) := fun W σ s i =>
 Sim.value i fun Q h => wpAny_Constant_none (h _ _ .none)
theorem se_bool {k : Nat} {b : Bool} {p : Pos} : SE u c (.Constant (.bool b) k p) (fun σ => .ok (.bool b) σ) := fun W σ s i =>
 Sim.value i fun Q h => wpAny_Constant_bool (h _ _ (.bool b))
section
variable {α β : Type} {x : α} {v : V}
noncomputable def oI (v : V) (k : Int → Option α) : Option α := V.casesOn v none (fun _ => none) k (fun _ => none) (fun _ => none) (fun _ => none) (fun _ _ => none) (fun _ => none) (fun _ => none) (fun _ _ => none)
noncomputable def oS (v : V) (k : List Nat → Option α) : Option α := V.casesOn v none (fun _ => none) (fun _ => none) k (fun _ => none) (fun _ => none) (fun _ _ => none) (fun _ => none) (fun _ => none) (fun _ _ => none)
noncomputable def oT (v : V) (k : List V → Option α) : Option α := V.casesOn v none (fun _ => none) (fun _ => none) (fun _ => none) k (fun _ => none) (fun _ _ => none) (fun _ => none) (fun _ => none) (fun _ _ => none)
noncomputable def oL (v : V) (k : List V → Option α) : Option α := V.casesOn v none (fun _ => none) (fun _ => none) (fun _ => none) (fun _ => none) k (fun _ _ => none) (fun _ => none) (fun _ => none) (fun _ _ => none)
noncomputable def oO (v : V) (k : Nat → Option α) : Option α := V.casesOn v none (fun _ => none) (fun _ => none) (fun _ => none) (fun _ => none) (fun _ => none) (fun _ _ => none) k (fun _ => none) (fun _ _ => none)
noncomputable def o1 (l : List β) (k : β → Option α) : Option α := List.casesOn l none fun a r => List.casesOn r (k a) fun _ _ => none
noncomputable def o2 (l : List β) (k : β → β → Option α) : Option α := List.casesOn l none fun a r => o1 r fun b => k a b
noncomputable def o3 (l : List β) (k : β → β → β → Option α) : Option α := List.casesOn l none fun a r => o2 r fun b d => k a b d
noncomputable def oIf (p : Prop) [Decidable p] (k : Option α) : Option α := if p then k else none
noncomputable def oQ (v : V) (k : Int → Int → Option α) : Option α := oT v fun l => o2 l fun a b => oI a fun a => oI b fun b => k a b
theorem oI_s {k : Int → Option α} (h : oI v k = some x) : ∃ i, v = .int i ∧ k i = some x := by cases v with | int i => exact ⟨i, rfl, h⟩ | _ => exact nn h
theorem oS_s {k : List Nat → Option α} (h : oS v k = some x) : ∃ i, v = .str i ∧ k i = some x := by cases v with | str i => exact ⟨i, rfl, h⟩ | _ => exact nn h
theorem oT_s {k : List V → Option α} (h : oT v k = some x) : ∃ i, v = .tup i ∧ k i = some x := by cases v with | tup i => exact ⟨i, rfl, h⟩ | _ => exact nn h
theorem oL_s {k : List V → Option α} (h : oL v k = some x) : ∃ i, v = .lst i ∧ k i = some x := by cases v with | lst i => exact ⟨i, rfl, h⟩ | _ => exact nn h
theorem oO_s {k : Nat → Option α} (h : oO v k = some x) : ∃ i, v = .obj i ∧ k i = some x := by cases v with | obj i => exact ⟨i, rfl, h⟩ | _ => exact nn h
theorem o1_s {l : List β} {k : β → Option α} (h : o1 l k = some x) : ∃ a, l = [a] ∧ k a = some x := by
 cases l with
 | nil => exact nn h
 | cons a l => cases l with
   | nil => exact ⟨a, rfl, h⟩
   | cons b l => exact nn h
theorem o2_s {l : List β} {k : β → β → Option α} (h : o2 l k = some x) : ∃ a b, l = [a, b] ∧ k a b = some x := by
 cases l with
 | nil => exact nn h
 | cons a l => obtain ⟨b, rfl, h⟩ := o1_s h; exact ⟨a, b, rfl, h⟩
theorem o3_s {l : List β} {k : β → β → β → Option α} (h : o3 l k = some x) : ∃ a b d, l = [a, b, d] ∧ k a b d = some x := by
 cases l with
 | nil => exact nn h
 | cons a l => obtain ⟨b, d, rfl, h⟩ := o2_s h; exact ⟨a, b, d, rfl, h⟩
theorem q0h {p : Prop} [Decidable p] {k : Option α} (h : oIf p k = some x) : p ∧ k = some x := if q : p then ⟨q, (if_pos q).symm.trans h⟩ else nn ((if_neg q).symm.trans h)
theorem q0l {p : Prop} [Decidable p] {k : Option α} (h : p) : oIf p k = k := if_pos h
theorem oQ_s {k : Int → Int → Option α} (h : oQ v k = some x) : ∃ a b, v = .tup [.int a, .int b] ∧ k a b = some x := by
 obtain ⟨l, rfl, h⟩ := oT_s h
 obtain ⟨a, b, rfl, h⟩ := o2_s h
 obtain ⟨a, rfl, h⟩ := oI_s h
 obtain ⟨b, rfl, h⟩ := oI_s h
 exact ⟨a, b, rfl, h⟩
theorem or_s {a b : Option α} (h : a.or b = some x) : a = some x ∨ b = some x := by cases a with | some y => exact .inl h | none => exact .inr h
theorem bd_s {a : Option β} {k : β → Option α} (h : a.bind k = some x) : ∃ y, a = some y ∧ k y = some x := by cases a with | some y => exact ⟨y, rfl, h⟩ | none => exact nn h
theorem q3p {a : Option β} {k : β → α} (h : a.map k = some x) : ∃ y, a = some y ∧ k y = x := by cases a with | some y => exact ⟨y, rfl, Option.some.inj h⟩ | none => exact nn h
end
section
variable {r : Value}
inductive IsInt (i : Int) : Value → Prop where | mk (t : Tok) : IsInt i (.int i t)
inductive IsStr (l : List Nat) : Value → Prop where | mk (t : Tok) : IsStr l (.str ⟨l.toArray⟩ t)
inductive IsSeq (u : U) (W : Wd) (n : String) (l : List V) : Value → Prop where
 | mk {a : Addr} {o : Obj} {vs : List Value} {k : Nat} (h : Has u W a o) (c : o.cls = .type n) (d : o.data = .seq vs.toArray k) (r : Reps u W vs l) : IsSeq u W n l (.ref a)
inductive IsObj (W : Wd) (i : Nat) : Value → Prop where | mk {a : Addr} (h : W.adr[i]? = some a) : IsObj W i (.ref a)
inductive IsIns (u : U) (W : Wd) (C : Addr) (fs : List (Str × V)) : Value → Prop where
 | mk {x dx : Addr} {es : List DictEntry} {n : Nat} (h : Has u W x ⟨.ref C, some dx, .plain, #[]⟩) (h' : Has u W dx (dictOf es n)) (r : RepF u W es fs) : IsIns u W C fs (.ref x)
inductive IsFn (u : U) (W : Wd) (i : Nat) (cl : List (String × Nat)) : Value → Prop where
 | mk {f : Addr} {o : Obj} {fd : FuncData} (h : Has u W f o) (d : o.data = .func fd) (k : FnOk u W fd i) (q : ∀ n k, (n, k) ∈ cl → ∃ a, W.adr[k]? = some a ∧ fd.closure.lookup (Str.ofString n) = some a) : IsFn u W i cl (.ref f)
noncomputable def RepV (u : U) (W : Wd) (r : Value) (v : V) : Prop := V.casesOn v (r = .none) (fun b => r = .bool b) (fun i => IsInt i r) (fun l => IsStr l r) (fun l => IsSeq u W "tuple" l r) (fun l => IsSeq u W "list" l r) (fun C fs => IsIns u W C fs r) (fun i => IsObj W i r) (fun x => r = x) (fun i cl => IsFn u W i cl r)
theorem Rep.view {v : V} (h : Rep u W r v) : RepV u W r v := by
 cases h with
 | none => exact rfl
 | bool => exact rfl
 | int i t => exact .mk t
 | str l t => exact .mk t
 | tup a b c d => exact .mk a b c d
 | lst a b c d => exact .mk a b c d
 | ins a b c d => subst b; exact .mk a c d
 | obj a => exact .mk a
 | val => exact rfl
 | fn a b c d => exact .mk a b c d
theorem Rep.nn (h : Rep u W r .none) : r = .none := h.view
theorem Rep.bl {b : Bool} (h : Rep u W r (.bool b)) : r = .bool b := h.view
theorem Rep.it {i : Int} (h : Rep u W r (.int i)) : IsInt i r := h.view
theorem Rep.sr {l : List Nat} (h : Rep u W r (.str l)) : IsStr l r := h.view
theorem Rep.tp {l : List V} (h : Rep u W r (.tup l)) : IsSeq u W "tuple" l r := h.view
theorem Rep.ls {l : List V} (h : Rep u W r (.lst l)) : IsSeq u W "list" l r := h.view
theorem Rep.is {C : Addr} {fs : List (Str × V)} (h : Rep u W r (.ins C fs)) : IsIns u W C fs r := h.view
theorem Rep.ob {i : Nat} (h : Rep u W r (.obj i)) : IsObj W i r := h.view
theorem Rep.vl {x : Value} (h : Rep u W r (.val x)) : r = x := h.view
inductive IsCons (u : U) (W : Wd) (v : V) (l : List V) : List Value → Prop where | mk {r : Value} {rs : List Value} (h : Rep u W r v) (t : Reps u W rs l) : IsCons u W v l (r :: rs)
noncomputable def RepsV (u : U) (W : Wd) (rs : List Value) (l : List V) : Prop := List.casesOn l (rs = []) fun v l => IsCons u W v l rs
theorem Reps.view {rs : List Value} {l : List V} (h : Reps u W rs l) : RepsV u W rs l := by
 cases h with
 | nil => exact rfl
 | cons a b => exact .mk a b
theorem Reps.nl {rs : List Value} (h : Reps u W rs []) : rs = [] := h.view
theorem Reps.cs {rs : List Value} {v : V} {l : List V} (h : Reps u W rs (v :: l)) : IsCons u W v l rs := h.view
end
theorem q0u {W : Wd} {p : Addr × Obj} (h : p ∈ W.fz) : p ∈ W.led := List.mem_append_left _ h
theorem q0k {W : Wd} {p : Addr × Obj} (h : p ∈ W.mu) : p ∈ W.led := List.mem_append_right _ h
theorem q1t {W : Wd} {p : Addr × Obj} (h : p ∈ W.hp.flatMap (·.2)) : p ∈ W.mu := List.mem_append_left _ (List.mem_append_left _ h)
theorem q2e {W : Wd} {p : Addr × Obj} (h : p ∈ W.tb) : p ∈ W.mu := List.mem_append_left _ (List.mem_append_right _ h)
theorem q4m {W : Wd} {p : Addr × Obj} (h : p ∈ W.fr) : p ∈ W.mu := List.mem_append_right _ h
theorem q1b {W : Wd} {p : Addr × Obj} (h : p ∈ W.fr) : p ∈ W.led := q0k (q4m h)
theorem q4n {W : Wd} {p : Addr × Obj} {P : Prop} (h : p ∈ W.led) (h1 : p ∈ W.fz → P) (h2 : p ∈ W.hp.flatMap (·.2) → P) (h3 : p ∈ W.tb → P) (h4 : p ∈ W.fr → P) : P :=
 (List.mem_append.mp h).elim h1 fun h => (List.mem_append.mp h).elim (fun h => (List.mem_append.mp h).elim h2 h3) h4
theorem Hps.at {hs : List (Addr × List (Addr × Obj))} {xs : List AO} (H : Hps u W hs xs) {k : Nat} {x : AO} (h : xs[k]? = some x) :
   ∃ a os, hs[k]? = some (a, os) ∧ RepO u W a os x := by
 induction H generalizing k with
 | nil => exact nn h
 | cons h1 h2 ih =>
   cases k with
   | zero => exact ⟨_, _, rfl, Option.some.inj h ▸ h1⟩
   | succ k => exact ih h
theorem mem_mu {W : Wd} {k : Nat} {a : Addr} {os : List (Addr × Obj)} (h : W.hp[k]? = some (a, os)) {p : Addr × Obj} (hp : p ∈ os) : p ∈ W.mu := q1t (List.mem_flatMap.mpr ⟨_, List.mem_of_getElem? h, hp⟩)
theorem q2t {W : Wd} {k : Nat} {a : Addr} {os : List (Addr × Obj)} (h : W.hp[k]? = some (a, os)) {p : Addr × Obj} (hp : p ∈ os) : p ∈ W.led := q0k (mem_mu h hp)
theorem Inv.obj (i : Inv u c W σ s) {k : Nat} {a : Addr} {x : AO} (ha : W.adr[k]? = some a) (hx : σ.hp[k]? = some x) : ∃ os, W.hp[k]? = some (a, os) ∧ RepO u W a os x := by
 obtain ⟨a', os, q1, q2⟩ := i.hp.at hx
 have e : W.adr[k]? = some a' := by unfold Wd.adr; rw [List.getElem?_map, q1]; rfl
 cases Option.some.inj (e.symm.trans ha)
 exact ⟨os, q1, q2⟩
noncomputable def clO (x : AO) : Option V := AO.casesOn x (fun _ => none) (fun _ _ => none) some none
theorem clO_s {x : AO} {v : V} (h : clO x = some v) : x = .cell v := by cases x with | cell m => exact congrArg _ (Option.some.inj h) | _ => exact nn h
noncomputable def getC (σ : St) (x : String) : Option V := (σ.get x).bind fun v => oO v fun k => σ.hp[k]?.bind clO
theorem Inv.cell (i : Inv u c W σ s) {x : String} {v : V} (hk : c.env.kindOf (Str.ofString x) = some .cell ∨ c.env.kindOf (Str.ofString x) = some .free) (h : getC σ x = some v) :
   ∃ a r, c.env.cells.lookup (Str.ofString x) = some a ∧ s.heap.IsCell a (some r) ∧ Rep u W r v := by
 obtain ⟨w, hv, h⟩ := bd_s h
 obtain ⟨k, a, rfl, ha, hc⟩ := (i.loc x w hv).2 hk
 obtain ⟨y, hy, h⟩ := bd_s h
 cases clO_s h
 obtain ⟨os, q1, q2⟩ := i.obj ha hy
 cases q2 with
 | cell hd hr => exact ⟨a, _, hc, ⟨_, (i.N _ (q2t q1 (.head _))).1, hd⟩, hr⟩
theorem se_local (ok : c.Ok) {x : String} {p : Pos} (hk : c.env.kindOf (Str.ofString x) = some .local) (hd : (Str.ofString x == ("__debug__" : Str)) = false) :
   SE u c (.Name (Str.ofString x) p) (fun σ => ores (σ.get x) σ) := fun W σ s i => by
 refine Sim.ores fun v hv => ?_
 obtain ⟨r, hm, hr⟩ := (i.loc x v hv).1 hk
 exact Sim.value i fun Q h => wpAny_Name (wpAny_loadName_local ok.kind hk i.F.ns hm (h r s.toks hr)) hd
theorem se_cell (ok : c.Ok) {x : String} {p : Pos} (hk : c.env.kindOf (Str.ofString x) = some .cell) (hd : (Str.ofString x == ("__debug__" : Str)) = false) :
   SE u c (.Name (Str.ofString x) p) (fun σ => ores (getC σ x) σ) := fun W σ s i => by
 refine Sim.ores fun v h => ?_
 obtain ⟨a, r, hc, q1, q2⟩ := i.cell (.inl hk) h
 exact Sim.value i fun Q h => wpAny_Name (wpAny_loadName_cell ok.kind hk hc q1 (h r s.toks q2)) hd
theorem se_free (ok : c.Ok) {x : String} {p : Pos} (hk : c.env.kindOf (Str.ofString x) = some .free) (hd : (Str.ofString x == ("__debug__" : Str)) = false) (hn : (Str.ofString x == ("__classdict__" : Str)) = false) :
   SE u c (.Name (Str.ofString x) p) (fun σ => ores (getC σ x) σ) := fun W σ s i => by
 refine Sim.ores fun v h => ?_
 obtain ⟨a, r, hc, q1, q2⟩ := i.cell (.inr hk) h
 exact Sim.value i fun Q h => wpAny_Name (wpAny_loadName_free ok.kind hk hc q1 (h r s.toks q2) hn) hd
theorem q1v (uo : u.Ok) (ok : c.Ok) {x : Str} {p : Pos} {r : Value} {v : V} (hk : c.env.kindOf x = some .globalImplicit) (e : nsIn u.K mainGlobals x = some (some r)) (hr : ∀ W, Rep u W r v)
   (hd : (x == ("__debug__" : Str)) = false) : SE u c (.Name x p) (fun σ => .ok v σ) := fun W σ s i =>
 Sim.value i fun Q h => Name_function_global ok.kind hk (loadGlobal_global (env := c.env) (by rw [ok.glob]; exact uo.T.g.keeps i.F.keep) (mg_of uo.X uo.T.g e) (h r s.toks (hr W))) hd
theorem j0o (uo : u.Ok) (ok : c.Ok) {x : Str} {p : Pos} {r : Value} (hk : c.env.kindOf x = some .globalImplicit) (e : nsIn u.K mainGlobals x = some none) (hv : bootBuiltins x = some r) (hn : x ≠ "__name__")
   (hd : (x == ("__debug__" : Str)) = false) : SE u c (.Name x p) (fun σ => .ok (.val r) σ) := fun W σ s i =>
 Sim.value i fun Q h => Name_function_global ok.kind hk (loadGlobal_builtin (env := c.env) (by rw [ok.glob]; exact uo.T.g.keeps i.F.keep) (mg_none_of uo.X uo.T.g e)
   (by rw [ok.blt]; exact uo.T.b.keeps i.F.keep) ((uo.T.builtins x hn).trans hv) (h r s.toks (.val r))) hd
end
section
variable {u : U} {c : Cx} {W : Wd} {σ : St} {s : Shared}
theorem NameOk.ev {W W' : Wd} (e : Ev W W') (hm : W'.m = W.m) {x : Str} {v : V} (h : NameOk u c W x v) : NameOk u c W' x v :=
 ⟨fun hk => let ⟨r, a, b⟩ := h.1 hk; ⟨r, by rw [hm]; exact a, b.ev e⟩, fun hk => let ⟨k, a, q1, q2, q3⟩ := h.2 hk; ⟨k, a, q1, e.get q2, q3⟩⟩
theorem LocOk.ev {W W' : Wd} (e : Ev W W') (hm : W'.m = W.m) (h : LocOk u c W σ) : LocOk u c W' σ := fun x v hv => (h x v hv).ev e hm
theorem Inv.lt (i : Inv u c W σ s) {p : Addr × Obj} (h : p ∈ W.led) : p.1 < s.heap.objs.size := Heap.lt_size (i.N p h).1
theorem Inv.fresh (i : Inv u c W σ s) : s.heap.objs.size ∉ W.mu.map (·.1) := fun h => by
 obtain ⟨p, hp, e⟩ := List.mem_map.mp h
 have := i.lt (p := p) (List.mem_append_right _ hp)
 rw [e] at this
 exact Nat.lt_irrefl _ this
noncomputable def Wd.addF (W : Wd) (a : Addr) (o : Obj) : Wd := { W with fz := (a, o) :: W.fz }
theorem Wd.addF_ev (W : Wd) (a : Addr) (o : Obj) : Ev W (W.addF a o) := ⟨fun _ h => List.mem_cons_of_mem _ h, List.prefix_refl _, rfl, TI.SameUp.refl _⟩
theorem Inv.addF (i : Inv u c W σ s) {a : Addr} {o : Obj} {h' : Heap} {tk : Nat} (F' : Fr u.B c.env.locals h' W.m) (N' : News u.B c.env.locals h' ((a, o) :: W.led)) (ha : a ∉ W.mu.map (·.1)) :
   Inv u c (W.addF a o) σ { s with heap := h', toks := tk } :=
 have e := W.addF_ev a o
 ⟨F', fun p hp => N' p (by
     rcases List.mem_append.mp hp with h | h
     · rcases List.mem_cons.mp h with rfl | h
       · exact List.mem_cons_self
       · exact List.mem_cons_of_mem _ (List.mem_append_left _ h)
     · exact List.mem_cons_of_mem _ (List.mem_append_right _ h)),
   ⟨i.ap.nd, fun p hp => by
     rcases List.mem_cons.mp hp with rfl | h
     · exact ha
     · exact i.ap.fz p h⟩,
   i.loc.ev e rfl, i.hp.ev e, (fun p hp => (i.tb p hp).sub e.sub), i.frs, i.dic, i.gens, i.os⟩
theorem Sim.newF {t : Sem Value} {b : V} {o : Obj} (i : Inv u c W σ s)
   (h : ∀ Q : Value → Shared → Prop, (∀ h' tk, Fr u.B c.env.locals h' W.m → News u.B c.env.locals h' ((s.heap.objs.size, o) :: W.led) → Q (.ref s.heap.objs.size) { s with heap := h', toks := tk }) → wpAny u.M c.A t Q (fun _ _ => False) s)
   (hr : Rep u (W.addF s.heap.objs.size o) (.ref s.heap.objs.size) b) : Sim u c (Rep u) t (.ok b σ) W s :=
 h _ fun h' tk F' N' => ⟨_, W.addF_ev _ _, i.addF F' N' i.fresh, hr⟩
theorem Reps.length {vs : List Value} {l : List V} (h : Reps u W vs l) : vs.length = l.length := by
 induction l generalizing vs with
 | nil => rw [h.nl]; rfl
 | cons v l ih =>
   induction h.cs with
   | mk a b => exact congrArg (· + 1) (ih b)
theorem Reps.append {vs ws : List Value} {l m : List V} (h : Reps u W vs l) (h2 : Reps u W ws m) : Reps u W (vs ++ ws) (l ++ m) := by
 induction l generalizing vs with
 | nil => rw [h.nl]; exact h2
 | cons v l ih =>
   induction h.cs with
   | mk a b => exact .cons a (ih b)
theorem Reps.get {vs : List Value} {l : List V} {k : Nat} {v : V} (h : Reps u W vs l) (e : l[k]? = some v) : ∃ r, vs[k]? = some r ∧ Rep u W r v := by
 induction l generalizing vs k with
 | nil => exact nn e
 | cons w l ih =>
   induction h.cs with
   | mk a b =>
     cases k with
     | zero => exact ⟨_, rfl, Option.some.inj e ▸ a⟩
     | succ k => exact ih (k := k) b e
theorem Reps.take {vs : List Value} {l : List V} (k : Nat) (h : Reps u W vs l) : Reps u W (vs.take k) (l.take k) := by
 induction l generalizing vs k with
 | nil => rw [h.nl, List.take_nil, List.take_nil]; exact .nil
 | cons w l ih =>
   induction h.cs with
   | mk a b =>
     cases k with
     | zero => exact .nil
     | succ k => exact .cons a (ih k b)
theorem Reps.drop {vs : List Value} {l : List V} (k : Nat) (h : Reps u W vs l) : Reps u W (vs.drop k) (l.drop k) := by
 induction l generalizing vs k with
 | nil => rw [h.nl, List.drop_nil, List.drop_nil]; exact .nil
 | cons w l ih =>
   induction h.cs with
   | mk a b =>
     cases k with
     | zero => exact .cons a b
     | succ k => exact ih k b
noncomputable def lsO (x : AO) : Option (List V) := AO.casesOn x some (fun _ _ => none) (fun _ => none) none
noncomputable def lsOf (H : List AO) (v : V) : Option (List V) := V.casesOn v none (fun _ => none) (fun _ => none) (fun _ => none) (fun _ => none) some (fun _ _ => none) (fun k => H[k]?.bind lsO) (fun _ => none) (fun _ _ => none)
theorem lsO_s {x : AO} {l : List V} (h : lsO x = some l) : x = .lst l := by cases x with | lst m => exact congrArg _ (Option.some.inj h) | _ => exact nn h
inductive IsLs (u : U) (W : Wd) (h : Heap) (l : List V) : Value → Prop where | mk {a : Addr} {vs : List Value} (L : h.IsList a vs.toArray) (r : Reps u W vs l) : IsLs u W h l (.ref a)
theorem q4y (i : Inv u c W σ s) {r : Value} {v : V} {l : List V} (hr : Rep u W r v) (h : lsOf σ.hp v = some l) : IsLs u W s.heap l r := by
 cases v with
 | lst m =>
   induction hr.ls with
   | mk h1 h2 h3 h4 => exact .mk ⟨_, h1.get i, h2, _, h3⟩ (Option.some.inj h ▸ h4)
 | obj k =>
   induction hr.ob with
   | mk ha =>
     obtain ⟨x, hx, h⟩ := bd_s h
     cases lsO_s h
     obtain ⟨os, q1, q2⟩ := i.obj ha hx
     cases q2 with
     | lst q3 => exact .mk ⟨_, (i.N _ (q2t q1 (.head _))).1, rfl, _, rfl⟩ q3
 | _ => exact nn h
noncomputable def small (i : Int) : Bool := decide (i.natAbs < 2 ^ 63)
noncomputable def mulB (x y : Int) : Bool := small x || small y || (decide (x.natAbs.log2 < 9000) && decide (y.natAbs.log2 < 9000))
noncomputable def oII {α : Type} (a b : V) (k : Int → Int → Option α) : Option α := oI a fun x => oI b fun y => k x y
noncomputable def oSS {α : Type} (a b : V) (k : List Nat → List Nat → Option α) : Option α := oS a fun x => oS b fun y => k x y
noncomputable def bin (H : List AO) (op : Operator) (a b : V) : Option V := Operator.casesOn op
 ((oII a b fun x y => some (.int (x + y))).or ((oSS a b fun x y => oIf (x.length + y.length ≤ 100000) (some (.str (x ++ y)))).or ((lsOf H a).bind fun l => (lsOf H b).bind fun m => oIf (l.length + m.length ≤ 100000) (some (.lst (l ++ m))))))
 (oII a b fun x y => some (.int (x - y)))
 (oII a b fun x y => oIf (mulB x y = true) (some (.int (x * y))))
 none none
 (oII a b fun x y => oIf (0 < y) (some (.int (x % y))))
 (oII a b fun x n => oIf (0 ≤ n ∧ n ≤ 1000000 ∧ small x = true) (some (.int (x ^ n.toNat))))
 none none none none none
 (oII a b fun x y => oIf (0 < y ∧ y.natAbs.log2 < 9000) (some (.int (x / y))))
theorem bits_log {x : Int} (h : x.natAbs.log2 < 9000) : Builtin.Int.intBits x ≤ 2 ^ 20 := by
 unfold Builtin.Int.intBits
 split
 · exact Nat.zero_le _
 · omega
theorem small_mul {x y : Int} (h : mulB x y = true) : IntMulOk x y := by
 unfold mulB small at h
 rcases Bool.or_eq_true_iff.mp h with h | h
 rotate_left
 · have h := Bool.and_eq_true_iff.mp h
   exact IntMulOk.of_bits (bits_log (of_decide_eq_true h.1)) (bits_log (of_decide_eq_true h.2))
 rcases Bool.or_eq_true_iff.mp h with h | h
 · have h := of_decide_eq_true h
   exact IntMulOk.of_left (intBits_le_64 (by omega) (by omega))
 · have h := of_decide_eq_true h
   exact IntMulOk.of_right (intBits_le_64 (by omega) (by omega))
theorem str_app (x y : List Nat) : (⟨x.toArray⟩ : Str) ++ (⟨y.toArray⟩ : Str) = ⟨(x ++ y).toArray⟩ := by
 show Str.append _ _ = _
 simp [Str.append]
theorem q2w (x : List Nat) : (⟨x.toArray⟩ : Str).length = x.length := by simp [Str.length]
theorem szl : sizeLine = 16777216 := sizeLine_eq
section
variable {a b v : V} {x y : Value} {t : Sem Value}
theorem q1p {α : Type} {w : α} {k : Int → Int → Option α} (hx : Rep u W x a) (hy : Rep u W y b) (h : oII a b k = some w) {P : Value → Value → Prop} (f : ∀ m n t t', k m n = some w → P (.int m t) (.int n t')) : P x y := by
 obtain ⟨m, rfl, h1⟩ := oI_s h
 obtain ⟨n, rfl, h2⟩ := oI_s h1
 induction hx.it with
 | mk t => induction hy.it with
   | mk t' => exact f m n t t' h2
theorem j3o {α : Type} {w : α} {k : List Nat → List Nat → Option α} (hx : Rep u W x a) (hy : Rep u W y b) (h : oSS a b k = some w) {P : Value → Value → Prop} (f : ∀ m n t t', k m n = some w → P (.str ⟨m.toArray⟩ t) (.str ⟨n.toArray⟩ t')) : P x y := by
 obtain ⟨m, rfl, h1⟩ := oS_s h
 obtain ⟨n, rfl, h2⟩ := oS_s h1
 induction hx.sr with
 | mk t => induction hy.sr with
   | mk t' => exact f m n t t' h2
theorem Sim.int (i : Inv u c W σ s) {m : Int} (hv : some (V.int m) = some v) (h : ∀ Q : Value → Shared → Prop, (∀ t tk, Q (.int m t) { s with toks := tk }) → wpAny u.M c.A t Q (fun _ _ => False) s) : Sim u c (Rep u) t (.ok v σ) W s := by
 cases hv
 exact Sim.value i fun Q g => h Q fun t tk => g _ _ (.int _ t)
theorem bin_ok {op : Operator} (i : Inv u c W σ s) (hx : Rep u W x a) (hy : Rep u W y b) (h : bin σ.hp op a b = some v) : Sim u c (Rep u) (binaryOp op x y) (.ok v σ) W s := by
 cases op with
 | Add =>
   rcases or_s h with h | h
   · exact q1p hx hy h (P := fun x y => Sim u c (Rep u) (binaryOp .Add x y) (.ok v σ) W s) fun m n t t' e => .int i e fun Q h => add_int (h _ _)
   rcases or_s h with h | h
   · refine j3o hx hy h (P := fun x y => Sim u c (Rep u) (binaryOp .Add x y) (.ok v σ) W s) fun m n t t' e => ?_
     obtain ⟨hs, e⟩ := q0h e
     cases e
     exact Sim.value i fun Q h => add_str (fun t' tk => by rw [str_app]; exact h _ _ (.str _ _)) (by rw [q2w, q2w, szl]; omega)
   · obtain ⟨l, hl, h⟩ := bd_s h
     obtain ⟨m, hm, h⟩ := bd_s h
     obtain ⟨hs, h⟩ := q0h h
     cases h
     induction q4y i hx hl with
     | mk L1 R1 => induction q4y i hy hm with
       | mk L2 R2 =>
         refine Sim.newF i (fun Q h => add_arrays i.F i.N L1 L2 (fun h' F' N' => h h' s.toks F' N') ?_) (.lst (.inl (.head _)) rfl rfl ((R1.append R2).ev (W.addF_ev _ _)))
         rw [List.size_toArray, List.size_toArray, R1.length, R2.length, szl]; omega
 | Sub => exact q1p hx hy h (P := fun x y => Sim u c (Rep u) (binaryOp .Sub x y) (.ok v σ) W s) fun m n t t' e => .int i e fun Q h => PyProof.Rows.sub_int (h _ _)
 | Mult =>
   refine q1p hx hy h (P := fun x y => Sim u c (Rep u) (binaryOp .Mult x y) (.ok v σ) W s) fun m n t t' e => ?_
   obtain ⟨hs, e⟩ := q0h e
   exact .int i e fun Q h => mul_int (h _ _) (small_mul hs)
 | Mod =>
   refine q1p hx hy h (P := fun x y => Sim u c (Rep u) (binaryOp .Mod x y) (.ok v σ) W s) fun m n t t' e => ?_
   obtain ⟨hs, e⟩ := q0h e
   exact .int i e fun Q h => mod_int' (Int.ne_of_gt hs) (by rw [Int.fmod_eq_emod_of_nonneg _ (Int.le_of_lt hs)]; exact h _ _)
 | Pow =>
   refine q1p hx hy h (P := fun x y => Sim u c (Rep u) (binaryOp .Pow x y) (.ok v σ) W s) fun m n t t' e => ?_
   obtain ⟨hs, e⟩ := q0h e
   exact .int i e fun Q h => pow_int_small hs.1 hs.2.1 (by have := of_decide_eq_true hs.2.2; omega) (h _ _)
 | FloorDiv =>
   refine q1p hx hy h (P := fun x y => Sim u c (Rep u) (binaryOp .FloorDiv x y) (.ok v σ) W s) fun m n t t' e => ?_
   obtain ⟨hs, e⟩ := q0h e
   exact .int i e fun Q h => floordiv_int (Int.ne_of_gt hs.1) (by rw [Int.fdiv_eq_ediv_of_nonneg _ (Int.le_of_lt hs.1)]; exact h _ _) (.inl (PyProof.noPylong_of_log2 hs.2))
 | _ => exact nn h
end
theorem se_bin {l r : Expr} {op : Operator} {p : Pos} {f g : St → Res V} (hl : SE u c l f) (hr : SE u c r g) :
   SE u c (.BinOp l op r p) (fun σ => (f σ).bind fun a σ => (g σ).bind fun b σ => ores (bin σ.hp op a b) σ) := fun W σ s i => by
 rw [eval_BinOp]
 refine (hl W σ s i).bind fun x a σ1 W1 s1 _ e1 i1 hx => (Sim.holding (hr W1 σ1 s1 i1)).bind fun y b σ2 W2 s2 _ e2 i2 hy => Sim.standAt (Sim.operate ?_)
 exact Sim.ores fun v h => bin_ok i2 (hx.ev e2) hy h
noncomputable def oB {α : Type} (v : V) (k : Bool → Option α) : Option α := V.casesOn v none k (fun _ => none) (fun _ => none) (fun _ => none) (fun _ => none) (fun _ _ => none) (fun _ => none) (fun _ => none) (fun _ _ => none)
theorem oB_s {α : Type} {x : α} {v : V} {k : Bool → Option α} (h : oB v k = some x) : ∃ i, v = .bool i ∧ k i = some x := by cases v with | bool i => exact ⟨i, rfl, h⟩ | _ => exact nn h
noncomputable def un (op : UnaryOp) (a : V) : Option V := UnaryOp.casesOn op none (oB a fun b => some (.bool (!b))) none (oI a fun x => some (.int (-x)))
theorem se_un {e : Expr} {op : UnaryOp} {p : Pos} {f : St → Res V} (h : SE u c e f) : SE u c (.UnaryOp op e p) (fun σ => (f σ).bind fun a σ => ores (un op a) σ) := fun W σ s i => by
 rw [arm_eval_UnaryOp]
 refine (h W σ s i).bind fun x a σ1 W1 s1 _ e1 i1 hx => Sim.standAt (Sim.holding ?_)
 refine Sim.ores fun v h => ?_
 cases op with
 | Not =>
   obtain ⟨b, rfl, h⟩ := oB_s h
   cases hx.bl
   cases h
   exact Sim.value i1 fun Q h => not_value (wpAny_truthy_bool (h _ _ (.bool _)))
 | USub =>
   obtain ⟨b, rfl, h⟩ := oI_s h
   induction hx.it with
   | mk t => exact .int i1 h fun Q h => PyProof.Rows.neg_int (h _ _)
 | _ => exact nn h
end
section
variable {u : U} {c : Cx} {W : Wd} {σ : St} {s : Shared}
noncomputable def mapO {α β : Type} (f : α → Option β) (l : List α) : Option (List β) := List.rec (some []) (fun a _ m => (f a).bind fun b => m.map (b :: ·)) l
noncomputable def toPy1 (f : V → Option PyData) (v : V) : Option PyData := V.casesOn v (some .none) (fun b => some (.bool b)) (fun i => some (.int i)) (fun l => oIf (l.all (· < 1114112) = true) (some (.str ⟨l.toArray⟩)))
 (fun l => (mapO f l).map .tuple) (fun l => (mapO f l).map .list) (fun _ _ => none) (fun _ => none) (fun _ => none) (fun _ _ => none)
noncomputable def toPy (n : Nat) : V → Option PyData := Nat.rec (fun _ => none) (fun _ f => toPy1 f) n
theorem q5r {α β : Type} {f : α → Option β} {a : α} {l : List α} {m : List β} (h : mapO f (a :: l) = some m) : ∃ b r, f a = some b ∧ mapO f l = some r ∧ m = b :: r := by
 obtain ⟨b, h1, h⟩ := bd_s h
 obtain ⟨r, h2, h⟩ := q3p h
 exact ⟨b, r, h1, h2, h.symm⟩
inductive IsPy (h : Heap) (r : Value) (d : PyData) (n : Nat) : Prop where | mk (as : List Addr) (a : Reads h r d as) (b : d.canLay0 = true) (c : d.depth ≤ n)
inductive ArePy (h : Heap) (r : List Value) (d : List PyData) (n : Nat) : Prop where | mk (as : List Addr) (a : ReadsAll h r d as) (b : PyData.canLayAll0 d = true) (c : PyData.depthAll d ≤ n)
theorem toPys {n : Nat} {f : V → Option PyData} {h : Heap} (ih : ∀ {r : Value} {v : V} {d : PyData}, Rep u W r v → f v = some d → IsPy h r d n) {rs : List Value} {vs : List V} {ds : List PyData} (H : Reps u W rs vs) (e : mapO f vs = some ds) : ArePy h rs ds n := by
 induction vs generalizing rs ds with
 | nil =>
   cases H.nl
   cases Option.some.inj e
   exact ⟨_, .nil, rfl, Nat.zero_le _⟩
 | cons v vs ihl =>
   obtain ⟨d, r, q1, q2, rfl⟩ := q5r e
   induction H.cs with
   | mk h1 h2 =>
     cases ih h1 q1 with
     | mk as a1 a2 a3 => cases ihl h2 q2 with
       | mk bs b1 b2 b3 => exact ⟨_, .cons a1 b1, Bool.and_eq_true_iff.mpr ⟨a2, b2⟩, Nat.max_le.mpr ⟨a3, b3⟩⟩
theorem q8f (i : Inv u c W σ s) (n : Nat) : ∀ {r : Value} {v : V} {d : PyData}, Rep u W r v → toPy n v = some d → IsPy s.heap r d n := by
 induction n with
 | zero => exact fun _ h => nn h
 | succ n ih =>
   intro r v d hr h
   cases v with
   | none => cases hr.nn; cases Option.some.inj h; exact ⟨_, .none, rfl, Nat.zero_le _⟩
   | bool b => cases hr.bl; cases Option.some.inj h; exact ⟨_, .bool b, rfl, Nat.zero_le _⟩
   | int i => cases Option.some.inj h; induction hr.it with | mk t => exact ⟨_, .int i t, rfl, Nat.zero_le _⟩
   | str l =>
     obtain ⟨hl, h⟩ := q0h h
     cases Option.some.inj h
     induction hr.sr with | mk t => exact ⟨_, .str _ t, by simpa [PyData.canLay0, PyData.strOk] using hl, Nat.zero_le _⟩
   | tup l =>
     obtain ⟨ds, q1, rfl⟩ := q3p h
     induction hr.tp with | mk h1 h2 h3 h4 => induction toPys ih h4 q1 with
       | mk as a1 a2 a3 => exact ⟨_, .tuple (h1.get i) h2 h3 a1, a2, by simp only [PyData.depth]; omega⟩
   | lst l =>
     obtain ⟨ds, q1, rfl⟩ := q3p h
     induction hr.ls with | mk h1 h2 h3 h4 => induction toPys ih h4 q1 with
       | mk as a1 a2 a3 => exact ⟨_, .list (h1.get i) h2 h3 a1, a2, by simp only [PyData.depth]; omega⟩
   | _ => exact nn h
noncomputable def eqV (a b : V) : Option Bool := (toPy 5 a).bind fun x => (toPy 5 b).map fun y => PyData.eqv x y
noncomputable def inL (x : V) (l : List V) : Option Bool := (toPy 5 x).bind fun d => (mapO (toPy 5) l).map fun ds => ds.any fun y => PyData.eqv y d
noncomputable def inV (x y : V) : Option Bool := V.casesOn y none (fun _ => none) (fun _ => none) (fun l => oS x fun k => o1 k fun k => some (decide (k ∈ l))) (fun l => inL x l) (fun l => inL x l) (fun _ _ => none) (fun _ => none) (fun _ => none) (fun _ _ => none)
noncomputable def eqC (a b : V) : Option Bool := (oII a b fun x y => some (decide (x = y))).or ((oSS a b fun x y => some (decide (x = y))).or (eqV a b))
noncomputable def isN (v : V) : Option Bool := V.casesOn v (some true) (fun _ => some false) (fun _ => some false) (fun _ => some false) (fun _ => some false) (fun _ => some false) (fun _ _ => some false) (fun _ => some false) (fun _ => none) (fun _ _ => some false)
noncomputable def ifN {α : Type} (v : V) (k : Option α) : Option α := V.casesOn v k (fun _ => none) (fun _ => none) (fun _ => none) (fun _ => none) (fun _ => none) (fun _ _ => none) (fun _ => none) (fun _ => none) (fun _ _ => none)
theorem ifN_s {α : Type} {v : V} {k : Option α} {x : α} (h : ifN v k = some x) : v = .none ∧ k = some x := by cases v with | none => exact ⟨rfl, h⟩ | _ => exact nn h
noncomputable def cmp (op : CmpOp) (a b : V) : Option Bool := CmpOp.casesOn op
 (eqC a b) ((eqC a b).map (!·))
 (oII a b fun x y => some (decide (x < y))) ((oII a b fun x y => some (decide (x ≤ y))).or (oSS a b fun x y => some (!decide (y < x))))
 (oII a b fun x y => some (decide (y < x))) (oII a b fun x y => some (decide (y ≤ x)))
 (ifN b (isN a)) (ifN b ((isN a).map (!·)))
 (inV a b) ((inV a b).map (!·))
theorem room10 (ok : c.Ok) : c.A.units + 10 < cLine := by have := ok.units; have := ok.one; omega
theorem str_eq (x y : List Nat) : ((⟨x.toArray⟩ : Str) == (⟨y.toArray⟩ : Str)) = decide (x = y) := by
 rw [← toList_beq, Bool.eq_iff_iff]
 simp
section
variable {a b : V} {v : Bool} {x y : Value} {Q : Value → Shared → Prop}
noncomputable def Both (u : U) (c : Cx) (s : Shared) (op op' : CmpOp) (x y : Value) (v : Bool) (Q : Value → Shared → Prop) : Prop :=
 (Q (.bool v) s → wpAny u.M c.A (compareOp op x y) Q (fun _ _ => False) s) ∧ (Q (.bool (!v)) s → wpAny u.M c.A (compareOp op' x y) Q (fun _ _ => False) s)
theorem inV_ok (ok : c.Ok) (i : Inv u c W σ s) (hx : Rep u W x a) (hy : Rep u W y b) (h : inV a b = some v) : Both u c s .In .NotIn x y v Q := by
 have hu := room10 ok
 cases b with
 | str l =>
   obtain ⟨m, rfl, h2⟩ := oS_s h
   obtain ⟨k, rfl, h3⟩ := o1_s h2
   cases Option.some.inj h3
   induction hx.sr with
   | mk t1 => induction hy.sr with
     | mk t2 =>
       have e := StrLaws.found_one ⟨l.toArray⟩ k
       exact ⟨fun h => in_str (Eq.mpr (congrArg (fun b => Q (.bool b) s) e) h), fun h => notIn_str (Eq.mpr (congrArg (fun b => Q (.bool (!b)) s) e) h)⟩
 | tup l =>
   obtain ⟨d, h1, h2⟩ := bd_s h
   obtain ⟨ds, h3, rfl⟩ := q3p h2
   induction q8f i 5 hx h1 with
   | mk as a1 a2 a3 => induction q8f i 6 hy (show toPy 6 (.tup l) = some (.tuple ds) from congrArg (Option.map PyData.tuple) h3) with
     | mk bs b1 b2 b3 =>
       have b3 : PyData.depthAll ds + 1 ≤ 6 := b3
       exact ⟨fun h => SeqAt.in_tuple_reads b1 a1 b2 a2 (by omega) h, fun h => SeqAt.notIn_tuple_reads b1 a1 b2 a2 (by omega) h⟩
 | lst l =>
   obtain ⟨d, h1, h2⟩ := bd_s h
   obtain ⟨ds, h3, rfl⟩ := q3p h2
   induction q8f i 5 hx h1 with
   | mk as a1 a2 a3 => induction q8f i 6 hy (show toPy 6 (.lst l) = some (.list ds) from congrArg (Option.map PyData.list) h3) with
     | mk bs b1 b2 b3 =>
       have b3 : PyData.depthAll ds + 1 ≤ 6 := b3
       exact ⟨fun h => SeqAt.in_list_reads b1 a1 b2 a2 (by omega) h, fun h => SeqAt.notIn_list_reads b1 a1 b2 a2 (by omega) h⟩
 | _ => exact nn h
theorem eqC_ok (ok : c.Ok) (i : Inv u c W σ s) (hx : Rep u W x a) (hy : Rep u W y b) (h : eqC a b = some v) : Both u c s .Eq .NotEq x y v Q := by
 rcases or_s h with h | h
 · exact q1p hx hy h (P := fun x y => Both u c s .Eq .NotEq x y v Q) fun m n t t' e => by
     cases e
     exact ⟨PyProof.Rows.eq_int, PyProof.Rows.ne_int⟩
 rcases or_s h with h | h
 · exact j3o hx hy h (P := fun x y => Both u c s .Eq .NotEq x y v Q) fun m n t t' e => by
     cases e
     exact ⟨fun h => PyProof.Rows.eq_str (Eq.mpr (congrArg (fun b => Q (.bool b) s) (str_eq m n)) h), fun h => PyProof.Rows.ne_str (Eq.mpr (congrArg (fun b => Q (.bool (!b)) s) (str_eq m n)) h)⟩
 obtain ⟨d, h1, h⟩ := bd_s h
 obtain ⟨e, h2, rfl⟩ := q3p h
 have hu := room10 ok
 induction q8f i 5 hx h1 with
 | mk as a1 a2 a3 => induction q8f i 5 hy h2 with
   | mk bs b1 b2 b3 => exact ⟨fun h => SeqAt.compareEq_reads a1 b1 a2 b2 (by omega) h, fun h => SeqAt.compareNe_reads a1 b1 a2 b2 (by omega) h⟩
theorem isN_ok (hx : Rep u W x a) (h : isN a = some v) : (x == .none) = v := by
 cases hx with
 | val => exact nn h
 | _ => exact Option.some.inj h
theorem cmp_ok (ok : c.Ok) {op : CmpOp} (i : Inv u c W σ s) (hx : Rep u W x a) (hy : Rep u W y b) (h : cmp op a b = some v) (hQ : Q (.bool v) s) :
   wpAny u.M c.A (compareOp op x y) Q (fun _ _ => False) s := by
 cases op with
 | Eq => exact (eqC_ok ok i hx hy h).1 hQ
 | NotEq => obtain ⟨b, h', rfl⟩ := q3p h; exact (eqC_ok ok i hx hy h').2 hQ
 | Lt => exact q1p hx hy h (P := fun x y => wpAny u.M c.A (compareOp .Lt x y) Q (fun _ _ => False) s) fun m n t t' e => PyProof.Rows.lt_int (Option.some.inj e ▸ hQ)
 | LtE =>
   rcases or_s h with h | h
   · exact q1p hx hy h (P := fun x y => wpAny u.M c.A (compareOp .LtE x y) Q (fun _ _ => False) s) fun m n t t' e => PyProof.Rows.le_int (Option.some.inj e ▸ hQ)
   · exact j3o hx hy h (P := fun x y => wpAny u.M c.A (compareOp .LtE x y) Q (fun _ _ => False) s) fun m n t t' e => P.le_str (Option.some.inj e ▸ hQ)
 | Gt => exact q1p hx hy h (P := fun x y => wpAny u.M c.A (compareOp .Gt x y) Q (fun _ _ => False) s) fun m n t t' e => PyProof.Rows.gt_int (Option.some.inj e ▸ hQ)
 | GtE => exact q1p hx hy h (P := fun x y => wpAny u.M c.A (compareOp .GtE x y) Q (fun _ _ => False) s) fun m n t t' e => PyProof.Rows.ge_int (Option.some.inj e ▸ hQ)
 | Is =>
   obtain ⟨rfl, h⟩ := ifN_s h
   cases hy.nn
   exact is_none (isN_ok hx h ▸ hQ)
 | IsNot =>
   obtain ⟨rfl, h⟩ := ifN_s h
   obtain ⟨b, h2, rfl⟩ := q3p h
   cases hy.nn
   exact isNot_none (isN_ok hx h2 ▸ hQ)
 | In => exact (inV_ok ok i hx hy h).1 hQ
 | NotIn => obtain ⟨b, h', rfl⟩ := q3p h; exact (inV_ok ok i hx hy h').2 hQ
end
end
section
variable {u : U} {c : Cx} {W : Wd} {σ : St} {s : Shared}
noncomputable def tru (v : V) : Option Bool := oB v some
theorem tru_s {v : V} {b : Bool} (h : tru v = some b) : v = .bool b := by
 obtain ⟨b, rfl, h⟩ := oB_s h
 exact congrArg _ (Option.some.inj h)
theorem se_cmp (ok : c.Ok) {l r : Expr} {op : CmpOp} {p : Pos} {f g : St → Res V} (hl : SE u c l f) (hr : SE u c r g) (hm : behindInMarks op r = false) :
   SE u c (.Compare l [op] [r] p) (fun σ => (f σ).bind fun a σ => (g σ).bind fun b σ => ores ((cmp op a b).map V.bool) σ) := fun W σ s i => by
 rw [eval_Compare1, markedBehindIn_of_false hm]
 refine (hl W σ s i).bind fun x a σ1 W1 s1 _ e1 i1 hx => (Sim.holding (hr W1 σ1 s1 i1)).bind fun y b σ2 W2 s2 _ e2 i2 hy => Sim.standAt (Sim.operate ?_)
 refine Sim.ores fun v h => ?_
 obtain ⟨v, h2, rfl⟩ := q3p h
 exact Sim.value i2 fun Q hq => cmp_ok ok i2 (hx.ev e2) hy h2 (hq (.bool v) s2.toks (.bool v))
theorem st_cmp (ok : c.Ok) {l r : Expr} {op : CmpOp} {p : Pos} {f g : St → Res V} (hl : SE u c l f) (hr : SE u c r g) (hm : behindInMarks op r = false) :
   ST u c (.Compare l [op] [r] p) (fun σ => (f σ).bind fun a σ => (g σ).bind fun b σ => ores (cmp op a b) σ) := fun W σ s i => by
 rw [isTrue_Compare1, markedBehindIn_of_false hm]
 refine (hl W σ s i).bind fun x a σ1 W1 s1 _ e1 i1 hx => (Sim.holding (hr W1 σ1 s1 i1)).bind fun y b σ2 W2 s2 _ e2 i2 hy => Sim.standAt ?_
 exact Sim.ores fun v h => Sim.value i2 fun Q hq => wpAny_bind (wpAny_operateT (cmp_ok ok i2 (hx.ev e2) hy h (wpAny_holding (wpAny_truthy_bool (hq v s2.toks rfl)))))
theorem st_cmp2 (ok : c.Ok) {l r r' : Expr} {op op' : CmpOp} {p : Pos} {f g g' : St → Res V} (hl : SE u c l f) (hr : SE u c r g) (hr' : SE u c r' g') (hm : lastMarks [op, op'] [r, r'] = false) :
   ST u c (.Compare l [op, op'] [r, r'] p) (fun σ => (f σ).bind fun a σ => (g σ).bind fun b σ => (ores (cmp op a b) σ).bind fun t σ => if t then (g' σ).bind fun d σ => ores (cmp op' b d) σ else .ok false σ) := fun W σ s i => by
 show Sim u c _ (do testChain p (← eval l c.env) [op, op'] (markedEach [op, op'] [r, r'] (evalEach [r, r'] c.env))) _ W s
 rw [markedEach_of_false _ _ _ hm]
 refine (hl W σ s i).bind fun x a σ1 W1 s1 _ e1 i1 hx => ?_
 refine Sim.bind (t := PySem.holding [x] (eval r c.env)) (Sim.holding (hr W1 σ1 s1 i1)) fun y b σ2 W2 s2 _ e2 i2 hy => Sim.standAt ?_
 refine Sim.bind (rep := fun _ z d => z = .bool d) (Sim.holding (Sim.ores fun v h => Sim.value i2 fun Q hq => cmp_ok ok i2 (hx.ev e2) hy h (hq (.bool v) s2.toks rfl))) fun z d σ3 W3 s3 _ e3 i3 hz => ?_
 subst hz
 refine Sim.congr (fun Q E q => wpAny_bind (wpAny_release' (wpAny_bind (wpAny_holding (wpAny_truthy_bool q))))) ?_
 cases d with
 | false => exact Sim.pure i3 rfl
 | true =>
   refine Sim.bind (t := PySem.holding [y] (eval r' c.env)) (Sim.holding (hr' W3 σ3 s3 i3)) fun y' b' σ4 W4 s4 _ e4 i4 hy' => Sim.standAt ?_
   exact Sim.ores fun v h => Sim.value i4 fun Q hq => wpAny_bind (wpAny_operateT (cmp_ok ok i4 ((hy.ev e3).ev e4) hy' h (wpAny_holding (wpAny_truthy_bool (hq v s4.toks rfl)))))
theorem st_not {e : Expr} {p : Pos} {f : St → Res Bool} (h : ST u c e f) : ST u c (.UnaryOp .Not e p) (fun σ => (f σ).bind fun b σ => .ok (!b) σ) := fun W σ s i => by
 rw [arm_isTrue_UnaryOp]
 refine (h W σ s i).bind fun x a σ1 W1 s1 _ e1 i1 hx => ?_
 subst hx
 exact Sim.pure i1 rfl
theorem st_val {e : Expr} {f : St → Res V} (h : SE u c e f) (he : ∀ whole, isTrue e c.env whole = (do let v ← whole; standAt e.pos; PySem.holding [v] (truthy v))) :
   ST u c e (fun σ => (f σ).bind fun v σ => ores (tru v) σ) := fun W σ s i => by
 rw [he]
 refine (h W σ s i).bind fun x a σ1 W1 s1 _ e1 i1 hx => Sim.standAt (Sim.holding ?_)
 refine Sim.ores fun b q => ?_
 cases tru_s q
 cases hx.bl
 exact Sim.value i1 fun Q hq => wpAny_truthy_bool (hq _ s1.toks rfl)
noncomputable def STs (u : U) (c : Cx) (op : BoolOp) (es : List Expr) (f : St → Res Bool) : Prop := ∀ W σ s, Inv u c W σ s → Sim u c (fun _ a b => a = b) (allTrue op es c.env) (f σ) W s
theorem sts_nil {op : BoolOp} : STs u c op [] (fun σ => .ok (op == .And) σ) := fun W σ s i => Sim.pure i rfl
theorem sts_and {e : Expr} {es : List Expr} {f g : St → Res Bool} (h : ST u c e f) (hs : STs u c .And es g) : STs u c .And (e :: es) (fun σ => (f σ).bind fun b σ => if b then g σ else .ok false σ) := fun W σ s i => by
 refine Sim.bind (t := isTrue e c.env (eval e c.env)) (h W σ s i) fun x a σ1 W1 s1 _ e1 i1 hx => ?_
 subst hx
 cases x
 · exact Sim.pure i1 rfl
 · exact hs W1 σ1 s1 i1
theorem sts_or {e : Expr} {es : List Expr} {f g : St → Res Bool} (h : ST u c e f) (hs : STs u c .Or es g) : STs u c .Or (e :: es) (fun σ => (f σ).bind fun b σ => if b then .ok true σ else g σ) := fun W σ s i => by
 refine Sim.bind (t := isTrue e c.env (eval e c.env)) (h W σ s i) fun x a σ1 W1 s1 _ e1 i1 hx => ?_
 subst hx
 cases x
 · exact hs W1 σ1 s1 i1
 · exact Sim.pure i1 rfl
theorem st_bool {op : BoolOp} {es : List Expr} {p : Pos} {f : St → Res Bool} (h : STs u c op es f) : ST u c (.BoolOp op es p) f := fun W σ s i => by
 rw [arm_isTrue_BoolOp]; exact h W σ s i
noncomputable def SVs (u : U) (c : Cx) (op : BoolOp) (es : List Expr) (f : St → Res V) : Prop := ∀ pos W σ s, Inv u c W σ s → Sim u c (Rep u) (boolOp pos op (evalEach es c.env)) (f σ) W s
theorem svs_one {op : BoolOp} {e : Expr} {f : St → Res V} (h : SE u c e f) : SVs u c op [e] f := fun pos W σ s i => h W σ s i
theorem svs_and {e e' : Expr} {es : List Expr} {f g : St → Res V} (h : SE u c e f) (hs : SVs u c .And (e' :: es) g) :
   SVs u c .And (e :: e' :: es) (fun σ => (f σ).bind fun v σ => (ores (tru v) σ).bind fun b σ => if b then g σ else .ok v σ) := fun pos W σ s i => by
 refine Sim.bind (t := eval e c.env) (h W σ s i) fun x a σ1 W1 s1 _ e1 i1 hx => Sim.standAt ?_
 refine Sim.bind (rep := fun _ z d => z = d ∧ x = .bool d) (Sim.holding (Sim.ores fun b q => ?_)) fun z d σ3 W3 s3 _ e3 i3 hz => ?_
 · cases tru_s q
   cases hx.bl
   exact Sim.value i1 fun Q hq => wpAny_truthy_bool (hq _ s1.toks ⟨rfl, rfl⟩)
 obtain ⟨rfl, rfl⟩ := hz
 cases z
 · exact Sim.pure i3 (hx.ev e3)
 · exact hs pos W3 σ3 s3 i3
theorem svs_or {e e' : Expr} {es : List Expr} {f g : St → Res V} (h : SE u c e f) (hs : SVs u c .Or (e' :: es) g) :
   SVs u c .Or (e :: e' :: es) (fun σ => (f σ).bind fun v σ => (ores (tru v) σ).bind fun b σ => if b then .ok v σ else g σ) := fun pos W σ s i => by
 refine Sim.bind (t := eval e c.env) (h W σ s i) fun x a σ1 W1 s1 _ e1 i1 hx => Sim.standAt ?_
 refine Sim.bind (rep := fun _ z d => z = d ∧ x = .bool d) (Sim.holding (Sim.ores fun b q => ?_)) fun z d σ3 W3 s3 _ e3 i3 hz => ?_
 · cases tru_s q
   cases hx.bl
   exact Sim.value i1 fun Q hq => wpAny_truthy_bool (hq _ s1.toks ⟨rfl, rfl⟩)
 obtain ⟨rfl, rfl⟩ := hz
 cases z
 · exact hs pos W3 σ3 s3 i3
 · exact Sim.pure i3 (hx.ev e3)
theorem se_bool_op {op : BoolOp} {es : List Expr} {p : Pos} {f : St → Res V} (h : SVs u c op es f) : SE u c (.BoolOp op es p) f := fun W σ s i => by
 rw [arm_eval_BoolOp]; exact h p W σ s i
theorem se_if {t b o : Expr} {p : Pos} {f : St → Res Bool} {g h : St → Res V} (ht : ST u c t f) (hb : SE u c b g) (ho : SE u c o h) :
   SE u c (.IfExp t b o p) (fun σ => (f σ).bind fun b σ => if b then g σ else h σ) := fun W σ s i => by
 rw [arm_eval_IfExp]
 refine (ht W σ s i).bind fun x a σ1 W1 s1 _ e1 i1 hx => ?_
 subst hx
 cases x
 · exact ho W1 σ1 s1 i1
 · exact hb W1 σ1 s1 i1
theorem q5n : SEs u c [] (fun σ => .ok [] σ) := fun pos W σ s i => Sim.pure i .nil
theorem q4r {e : Expr} {es : List Expr} {f : St → Res V} {g : St → Res (List V)} (h : SE u c e f) (hs : SEs u c es g) (he : starEach (e :: es) c.env = (false, eval e c.env) :: starEach es c.env) :
   SEs u c (e :: es) (fun σ => (f σ).bind fun v σ => (g σ).bind fun vs σ => .ok (v :: vs) σ) := fun pos W σ s i => by
 rw [he]
 refine Sim.bind (t := eval e c.env) (h W σ s i) fun x a σ1 W1 s1 _ e1 i1 hx => ?_
 refine Sim.congr (fun Q E q => wpAny_bind (wpAny_pure q)) ?_
 exact (Sim.holding (hs pos W1 σ1 s1 i1)).bind fun y b σ2 W2 s2 _ e2 i2 hy => Sim.pure i2 (.cons (hx.ev e2) hy)
theorem se_tup {es : List Expr} {k : Nat} {p : Pos} {f : St → Res (List V)} (h : SEs u c es f) : SE u c (.Tuple es k p) (fun σ => (f σ).bind fun l σ => if l.length ≤ 1000 then .ok (.tup l) σ else .bad) := fun W σ s i => by
 rw [arm_eval_Tuple]
 refine Sim.standAt ((h p W σ s i).bind fun x a σ1 W1 s1 _ e1 i1 hx => ?_)
 split
 · rename_i hl
   have e := hx.length
   exact Sim.newF i1 (fun Q h => newTuple_N i1.F i1.N (fun h' F' N' => h h' s1.toks F' N') (by rw [szl]; omega)) (.tup (.inl (.head _)) rfl rfl (hx.ev (W1.addF_ev _ _)))
 · trivial
theorem se_lst {es : List Expr} {p : Pos} {f : St → Res (List V)} (h : SEs u c es f) : SE u c (.List es p) (fun σ => (f σ).bind fun l σ => if l.length ≤ 1000 then .ok (.lst l) σ else .bad) := fun W σ s i => by
 rw [arm_eval_List]
 refine Sim.standAt ((h p W σ s i).bind fun x a σ1 W1 s1 _ e1 i1 hx => ?_)
 split
 · rename_i hl
   have e := hx.length
   exact Sim.newF i1 (fun Q h => newList_N i1.F i1.N (fun h' F' N' => h h' s1.toks F' N') (by rw [szl]; omega)) (.lst (.inl (.head _)) rfl rfl (hx.ev (W1.addF_ev _ _)))
 · trivial
end
section
variable {u : U} {c : Cx} {W : Wd} {σ : St} {s : Shared}
theorem Inv.keeps (i : Inv u c W σ s) {h' : Heap} {tk : Nat} (hk : ∀ b o, s.heap.get? b = some o → h'.get? b = some o) : Inv u c W σ { s with heap := h', toks := tk } :=
 ⟨⟨i.F.ns.keeps hk, fun b o e => hk b o (i.F.keep b o e), i.F.above⟩, fun p hp => ⟨hk _ _ (i.N p hp).1, (i.N p hp).2⟩, i.ap, i.loc, i.hp, i.tb, i.frs, i.dic, i.gens, i.os⟩
theorem q8z {h h' : Heap} (x : Heap.ExtBut h.objs.size h h') : ∀ b o, h.get? b = some o → h'.get? b = some o := fun b o e => x b o (Nat.ne_of_lt (Heap.lt_size e)) e
theorem q2q {x y : String} (h : Str.ofString x = Str.ofString y) : x = y := by
 rw [Str.ofString_eq_toList, Str.ofString_eq_toList] at h
 injection h with h
 exact String.toList_inj.mp ((List.map_inj_right fun a b h => Char.ext (UInt32.toNat_inj.mp h)).mp (congrArg Array.toList h))
theorem lookup_cons {α : Type} {y k : String} {w : α} {l : List (String × α)} : ((k, w) :: l).lookup y = if y = k then some w else l.lookup y := by
 rw [List.lookup_cons]
 by_cases h : y = k
 · rw [if_pos h, beq_iff_eq.mpr h]
 · rw [if_neg h, beq_eq_false_iff_ne.mpr h]
theorem lookup_setL (x y : String) (v : V) (l : List (String × V)) : (setL x v l).lookup y = if y = x then some v else l.lookup y := by
 induction l with
 | nil => exact lookup_cons
 | cons p r ih =>
   obtain ⟨k, w⟩ := p
   show (if (k == x) = true then (x, v) :: r else (k, w) :: setL x v r).lookup y = _
   by_cases hk : k = x
   · subst hk
     rw [if_pos (beq_self_eq_true k), lookup_cons, lookup_cons]
     by_cases h : y = k
     · rw [if_pos h, if_pos h]
     · rw [if_neg h, if_neg h, if_neg h]
   · rw [if_neg fun e => hk (beq_iff_eq.mp e), lookup_cons, lookup_cons, ih]
     by_cases h : y = k
     · rw [if_pos h, if_pos h, if_neg fun e => hk (h ▸ e)]
     · rw [if_neg h, if_neg h]
theorem get_set (σ : St) (x y : String) (v : V) : (σ.set x v).get y = if y = x then some v else σ.get y := lookup_setL x y v σ.loc
noncomputable def Wd.setM (W : Wd) (x : Str) (r : Value) : Wd := { W with m := fun y => if y = x then some r else W.m y }
theorem Wd.setM_ev (W : Wd) (x : Str) (r : Value) : Ev W (W.setM x r) := ⟨fun _ h => h, List.prefix_refl _, rfl, TI.SameUp.refl _⟩
theorem store_local (ok : c.Ok) (i : Inv u c W σ s) {x : String} {r : Value} {v : V} (hk : c.env.kindOf (Str.ofString x) = some .local) (hr : Rep u W r v) {Q : Unit → Shared → Prop}
   (h : ∀ h' tk, Inv u c (W.setM (Str.ofString x) r) (σ.set x v) { s with heap := h', toks := tk } → Q () { s with heap := h', toks := tk }) : wpAny u.M c.A (storeName c.env (Str.ofString x) r) Q (fun _ _ => False) s := by
 refine wpAny_storeName_local hk i.F.ns (fun h' hn hs => h h' _ ?_) (by rw [ok.kind]; rfl)
 have e := W.setM_ev (Str.ofString x) r
 refine ⟨i.F.set hn hs, i.N.set hs, ⟨i.ap.nd, i.ap.fz⟩, fun y w hw => ?_, i.hp.ev e, (fun p hp => (i.tb p hp).sub e.sub), i.frs, i.dic, i.gens, i.os⟩
 rw [get_set] at hw
 by_cases hy : y = x
 · rw [if_pos hy] at hw
   cases Option.some.inj hw
   rw [hy]
   refine ⟨fun _ => ⟨r, if_pos rfl, hr.ev e⟩, fun h => ?_⟩
   rw [hk] at h
   exact h.elim (fun h => nomatch h) fun h => nomatch h
 · rw [if_neg hy] at hw
   exact ⟨fun h => ((i.loc y w hw).1 h).imp fun r q => ⟨(if_neg fun q => hy (q2q q)).trans q.1, q.2.ev e⟩, (i.loc y w hw).2⟩
noncomputable def Wd.setH (W : Wd) (k : Nat) (a : Addr) (os : List (Addr × Obj)) : Wd := { W with hp := W.hp.set k (a, os) }
theorem setH_adr {W : Wd} {k : Nat} {a : Addr} {os os' : List (Addr × Obj)} (hk : W.hp[k]? = some (a, os)) : (W.setH k a os').adr = W.adr := by
 show (W.hp.set k (a, os')).map (·.1) = W.hp.map (·.1)
 obtain ⟨h1, h2⟩ := List.getElem?_eq_some_iff.mp hk
 rw [List.map_set, show a = (W.hp.map (·.1))[k]'(by rw [List.length_map]; exact h1) by rw [List.getElem_map, h2], List.set_getElem_self]
theorem j0n {W : Wd} {k : Nat} {a : Addr} {os os' : List (Addr × Obj)} (hk : W.hp[k]? = some (a, os)) : Ev W (W.setH k a os') :=
 ⟨fun _ h => h, by rw [setH_adr hk]; exact List.prefix_refl _, rfl, TI.SameUp.refl _⟩
theorem flat_set {hs : List (Addr × List (Addr × Obj))} {k : Nat} {a : Addr} {os os' : List (Addr × Obj)} (hk : hs[k]? = some (a, os)) (he : os'.map (·.1) = os.map (·.1)) :
   ((hs.set k (a, os')).flatMap (·.2)).map (·.1) = (hs.flatMap (·.2)).map (·.1) := by
 induction hs generalizing k with
 | nil => exact nn hk
 | cons h hs ih =>
   cases k with
   | zero =>
     cases Option.some.inj hk
     show (((a, os') :: hs).flatMap (·.2)).map (·.1) = _
     rw [List.flatMap_cons, List.flatMap_cons, List.map_append, List.map_append, he]
   | succ k =>
     show ((h :: hs.set k (a, os')).flatMap (·.2)).map (·.1) = _
     rw [List.flatMap_cons, List.flatMap_cons, List.map_append, List.map_append, ih hk]
theorem q2f {l : List (Addr × Obj)} {p : Addr × Obj} (h : p ∈ l) : p.1 ∈ l.map (·.1) := List.mem_map_of_mem h
theorem j2r {l m : List (Addr × Obj)} (h : ((l ++ m).map (·.1)).Nodup) : (l.map (·.1)).Nodup ∧ (m.map (·.1)).Nodup ∧ ∀ p ∈ l, ∀ q ∈ m, p.1 ≠ q.1 := by
 rw [List.map_append, List.nodup_append] at h
 exact ⟨h.1, h.2.1, fun p hp q hq => h.2.2 _ (q2f hp) _ (q2f hq)⟩
theorem nd_of {l m : List (Addr × Obj)} (h : (l.map (·.1)).Nodup) (h2 : (m.map (·.1)).Nodup) (h3 : ∀ p ∈ l, ∀ q ∈ m, p.1 ≠ q.1) : ((l ++ m).map (·.1)).Nodup := by
 rw [List.map_append, List.nodup_append]
 refine ⟨h, h2, fun a ha b hb => ?_⟩
 obtain ⟨p, hp, rfl⟩ := List.mem_map.mp ha
 obtain ⟨q, hq, rfl⟩ := List.mem_map.mp hb
 exact h3 p hp q hq
theorem q4e {l : List (Addr × Obj)} {a : Addr} (h : ∀ p ∈ l, p.1 ≠ a) : a ∉ l.map (·.1) := fun z => by
 obtain ⟨p, hp, e⟩ := List.mem_map.mp z
 exact h p hp e
structure Sep (W : Wd) : Prop where
 hh : ((W.hp.flatMap (·.2)).map (·.1)).Nodup
 tt : (W.tb.map (·.1)).Nodup
 ff : (W.fr.map (·.1)).Nodup
 ht : ∀ p ∈ W.hp.flatMap (·.2), ∀ q ∈ W.tb, p.1 ≠ q.1
 hf : ∀ p ∈ W.hp.flatMap (·.2), ∀ q ∈ W.fr, p.1 ≠ q.1
 tf : ∀ p ∈ W.tb, ∀ q ∈ W.fr, p.1 ≠ q.1
 zm : ∀ p ∈ W.fz, ∀ q ∈ W.mu, p.1 ≠ q.1
theorem Apart.sep (h : Apart W) : Sep W := by
 obtain ⟨a, b, d⟩ := j2r h.nd
 obtain ⟨a1, a2, a3⟩ := j2r a
 exact ⟨a1, a2, b, a3, fun p hp => d p (List.mem_append_left _ hp), fun p hp => d p (List.mem_append_right _ hp), fun p hp q hq e => h.fz p hp (e ▸ q2f hq)⟩
theorem Sep.apart (h : Sep W) : Apart W := ⟨nd_of (nd_of h.hh h.tt h.ht) h.ff fun p hp q hq => (List.mem_append.mp hp).elim (fun hp => h.hf p hp q hq) fun hp => h.tf p hp q hq, fun p hp => q4e fun q hq => (h.zm p hp q hq).symm⟩
theorem j7m {hs : List (Addr × List (Addr × Obj))} {k : Nat} {a : Addr} {os os' : List (Addr × Obj)} (hk : hs[k]? = some (a, os)) (hnd : ((hs.flatMap (·.2)).map (·.1)).Nodup)
   {p : Addr × Obj} (hp : p ∈ (hs.set k (a, os')).flatMap (·.2)) : p ∈ os' ∨ (p ∈ hs.flatMap (·.2) ∧ p.1 ∉ os.map (·.1)) := by
 induction hs generalizing k with
 | nil => exact nn hk
 | cons h hs ih =>
   rw [List.flatMap_cons] at hnd ⊢
   obtain ⟨n1, n2, n3⟩ := j2r hnd
   cases k with
   | zero =>
     cases Option.some.inj hk
     exact (List.mem_append.mp hp).imp id fun hp => ⟨List.mem_append_right _ hp, q4e fun q hq => n3 q hq p hp⟩
   | succ k =>
     refine (List.mem_append.mp hp).elim (fun hp => .inr ⟨List.mem_append_left _ hp, q4e fun q hq => (n3 p hp q (List.mem_flatMap.mpr ⟨_, List.mem_of_getElem? hk, hq⟩)).symm⟩) fun hp => ?_
     exact (ih hk n2 hp).imp id fun q => ⟨List.mem_append_right _ q.1, q.2⟩
theorem Hps.set {hs : List (Addr × List (Addr × Obj))} {xs : List AO} {k : Nat} {a : Addr} {os' : List (Addr × Obj)} {x' : AO} (H : Hps u W hs xs) (hx : RepO u W a os' x') : Hps u W (hs.set k (a, os')) (xs.set k x') := by
 induction H generalizing k with
 | nil => exact .nil
 | cons h1 h2 ih =>
   cases k with
   | zero => exact .cons hx h2
   | succ k => exact .cons h1 ih
theorem Inv.setN (i : Inv u c W σ s) {k : Nat} {a : Addr} {os os' : List (Addr × Obj)} {x' : AO} (hk : W.hp[k]? = some (a, os)) (he : os'.map (·.1) = os.map (·.1)) {h' : Heap} {tk : Nat} (F' : Fr u.B c.env.locals h' W.m)
   (hs : ∀ p ∈ W.led, p.1 ∉ os.map (·.1) → h'.get? p.1 = some p.2) (hn : ∀ p ∈ os', h'.get? p.1 = some p.2) (hx : RepO u W a os' x') :
   Inv u c (W.setH k a os') { σ with hp := σ.hp.set k x' } { s with heap := h', toks := tk } := by
 have e := j0n (os' := os') hk
 have S := i.ap.sep
 have hin : ∀ p ∈ os, p ∈ W.hp.flatMap (·.2) := fun p hp => List.mem_flatMap.mpr ⟨_, List.mem_of_getElem? hk, hp⟩
 have hmu : (W.setH k a os').mu.map (·.1) = W.mu.map (·.1) := by
   show (((W.hp.set k (a, os')).flatMap (·.2) ++ W.tb) ++ W.fr).map (·.1) = ((W.hp.flatMap (·.2) ++ W.tb) ++ W.fr).map (·.1)
   rw [List.map_append, List.map_append, List.map_append, List.map_append, flat_set hk he]
 have old : ∀ p ∈ W.led, p.1 ∉ os.map (·.1) → h'.get? p.1 = some p.2 ∧ p.1 ≠ c.env.locals ∧ u.B.get? p.1 = none := fun p hp hno => ⟨hs p hp hno, (i.N p hp).2⟩
 refine ⟨F', fun p hp => q4n hp (fun hp => ?_) (fun hp => ?_) (fun hp => ?_) fun hp => ?_, ⟨hmu ▸ i.ap.nd, fun p hp => hmu ▸ i.ap.fz p hp⟩, fun y w hw => (i.loc y w hw).ev e rfl, (i.hp.set hx).ev e, (fun p hp => (i.tb p hp).sub e.sub), i.frs, i.dic, i.gens, i.os⟩
 · exact old p (q0u hp) (q4e fun q hq => (S.zm p hp q (mem_mu hk hq)).symm)
 · refine (j7m hk S.hh hp).elim (fun q => ⟨hn p q, ?_⟩) fun q => old p (q0k (q1t q.1)) q.2
   obtain ⟨p', hp', z⟩ := List.mem_map.mp (he ▸ q2f q)
   exact z ▸ (i.N p' (q2t hk hp')).2
 · exact old p (q0k (q2e hp)) (q4e fun q hq => S.ht q (hin q hq) p hp)
 · exact old p (q1b hp) (q4e fun q hq => S.hf q (hin q hq) p hp)
theorem Inv.setH (i : Inv u c W σ s) {k : Nat} {a : Addr} {os os' : List (Addr × Obj)} {x' : AO} (hk : W.hp[k]? = some (a, os)) (he : os'.map (·.1) = os.map (·.1)) {h' : Heap} {tk : Nat}
   (hs : ∀ b, b ∉ os.map (·.1) → h'.get? b = s.heap.get? b) (hn : ∀ p ∈ os', h'.get? p.1 = some p.2) (hx : RepO u W a os' x') :
   Inv u c (W.setH k a os') { σ with hp := σ.hp.set k x' } { s with heap := h', toks := tk } := by
 have hout : ∀ p ∈ os, p.1 ≠ c.env.locals ∧ u.B.get? p.1 = none := fun p hp => (i.N p (q2t hk hp)).2
 refine i.setN hk he ⟨?_, fun b o q => (hs b (q4e fun p hp z => nn ((hout p hp).2.symm.trans (z ▸ q)))).trans (i.F.keep b o q), i.F.above⟩ (fun p hp hno => (hs _ hno).trans (i.N p hp).1) hn hx
 obtain ⟨o, es, ep, h1, r⟩ := i.F.ns
 exact ⟨o, es, ep, (hs _ (q4e fun p hp => (hout p hp).1)).trans h1, r⟩
noncomputable def isC {α : Type} (x : AO) (k : Option α) : Option α := AO.casesOn x (fun _ => none) (fun _ _ => none) (fun _ => k) k
theorem RepO.isC {α : Type} {a : Addr} {os : List (Addr × Obj)} {x : AO} {k : Option α} {w : α} (h : RepO u W a os x) (e : Mi.isC x k = some w) : k = some w ∧ ∃ o r, os = [(a, o)] ∧ o.data = .cell r := by
 cases h with
 | cell h _ => exact ⟨e, _, _, rfl, h⟩
 | cell0 h => exact ⟨e, _, _, rfl, h⟩
 | _ => exact nn e
noncomputable def putV (cell : Bool) (x : String) (v : V) (σ : St) : Option St := Bool.casesOn cell (some (σ.set x v)) ((σ.get x).bind fun w => oO w fun k => σ.hp[k]?.bind fun o => isC o (some { σ with hp := σ.hp.set k (.cell v) }))
theorem sim_stored (ok : c.Ok) (i : Inv u c W σ s) {x : String} {r : Value} {v : V} {cell : Bool} {σ' : St} (hk : c.env.kindOf (Str.ofString x) = some (if cell then .cell else .local)) (hr : Rep u W r v) (hp : putV cell x v σ = some σ') :
   Sim u c (fun _ _ _ => True) (storeName c.env (Str.ofString x) r) (.ok () σ') W s := by
 cases cell with
 | false =>
   cases Option.some.inj hp
   exact store_local ok i hk hr fun h' tk i' => ⟨_, W.setM_ev _ _, i', trivial⟩
 | true =>
   obtain ⟨w, hv, h2⟩ := bd_s hp
   obtain ⟨k, a, rfl, ha, hc⟩ := (i.loc x w hv).2 (.inl hk)
   obtain ⟨ao, hx, h3⟩ := bd_s h2
   obtain ⟨os, q1, q2⟩ := i.obj ha hx
   obtain ⟨h4, o, r₀, rfl, hd⟩ := q2.isC h3
   cases Option.some.inj h4
   refine wpAny_storeName_cell ok.kind hk hc ⟨o, (i.N _ (q2t q1 (.head _))).1, hd⟩ fun h' hcell hsb => ?_
   obtain ⟨o', ho', hd'⟩ := hcell
   refine ⟨_, j0n (os' := [(a, o')]) q1, i.setH (os' := [(a, o')]) q1 rfl (fun b hb => hsb.2 b fun q => hb (by rw [q]; exact .head _)) (fun p hp => ?_) (.cell hd' hr), trivial⟩
   rw [List.mem_singleton.mp hp]; exact ho'
noncomputable def q1k (cell : Bool) (x : String) (v : V) (σ : St) : Res Unit := Option.casesOn (putV cell x v σ) .bad fun σ' => .ok () σ'
theorem sim_store (ok : c.Ok) (i : Inv u c W σ s) {x : String} {r : Value} {v : V} {cell : Bool} (hk : c.env.kindOf (Str.ofString x) = some (if cell then .cell else .local)) (hr : Rep u W r v) :
   Sim u c (fun _ _ _ => True) (storeName c.env (Str.ofString x) r) (q1k cell x v σ) W s := by
 unfold q1k
 cases h : putV cell x v σ with
 | none => trivial
 | some σ' => exact sim_stored ok i hk hr h
theorem q9w (ok : c.Ok) (i : Inv u c W σ s) {x : String} {r : Value} {v : V} {cell : Bool} (hk : c.env.kindOf (Str.ofString x) = some (if cell then .cell else .local)) (hr : Rep u W r v) :
   Sim u c (fun _ _ _ => True) (bindName c.env (Str.ofString x) r) (q1k cell x v σ) W s :=
 (sim_store ok i hk hr).congr fun _ _ q => wpAny_bindName q
end
section
variable {u : U} {c : Cx} {W : Wd} {σ : St} {s : Shared}
noncomputable def Cx.Fn (c : Cx) : Prop := ∃ outer, c.fenvs = c.env :: outer ∧ c.env.frame = some c.env.locals
theorem mu_upd {W : Wd} {fr' : List (Addr × Obj)} (h : fr'.map (·.1) = W.fr.map (·.1)) : ({ W with fr := fr' } : Wd).mu.map (·.1) = W.mu.map (·.1) := by
 show ((W.hp.flatMap (·.2) ++ W.tb) ++ fr').map (·.1) = ((W.hp.flatMap (·.2) ++ W.tb) ++ W.fr).map (·.1)
 rw [List.map_append, h, List.map_append (l₂ := W.fr)]
theorem led_upd {W : Wd} {fr' : List (Addr × Obj)} (h : fr'.map (·.1) = W.fr.map (·.1)) : ({ W with fr := fr' } : Wd).led.map (·.1) = W.led.map (·.1) := by
 show (W.fz ++ ({ W with fr := fr' } : Wd).mu).map (·.1) = (W.fz ++ W.mu).map (·.1)
 rw [List.map_append, mu_upd h, List.map_append]
theorem q8x : ∀ {a b : List (Addr × Obj)}, TI.SameUp a b → b.map (·.1) = a.map (·.1) := by
 intro a
 induction a with
 | nil => intro b h; cases b with
   | nil => rfl
   | cons _ _ => exact False.elim h
 | cons p ps ih => intro b h; cases b with
   | nil => exact False.elim h
   | cons q qs => obtain ⟨h1, _, h3⟩ := h; simp [h1, ih h3]
theorem sameUp_dict : ∀ {a b : List (Addr × Obj)}, TI.SameUp a b → (∀ p ∈ a, ∃ es n, p.2.data = .dict es n) → ∀ p ∈ b, ∃ es n, p.2.data = .dict es n := by
 intro a
 induction a with
 | nil => intro b h hd p hp; cases b with
   | nil => cases hp
   | cons _ _ => exact False.elim h
 | cons q qs ih => intro b h hd p hp; cases b with
   | nil => cases hp
   | cons r rs =>
     obtain ⟨h1, ⟨sl, h2⟩, h3⟩ := h
     rcases List.mem_cons.mp hp with rfl | hp
     · obtain ⟨es, n, e⟩ := hd q (.head _)
       exact ⟨es, n, by rw [h2]; exact e⟩
     · exact ih h3 (fun p hp => hd p (.tail _ hp)) p hp
theorem Inv.other (i : Inv u c W σ s) {it : Addr} {h' : Heap} {tk : Nat} (hl : it ∉ W.led.map (·.1)) (hL : it ≠ c.env.locals) (hB : u.B.get? it = none)
   (hk : ∀ b o, b ≠ it → s.heap.get? b = some o → h'.get? b = some o) : Inv u c W σ { s with heap := h', toks := tk } := by
 refine ⟨⟨?_, fun b o e => hk b o (fun q => nn (hB.symm.trans (q ▸ e))) (i.F.keep b o e), i.F.above⟩, fun p hp => ⟨hk _ _ (fun q => hl (q ▸ q2f hp)) (i.N p hp).1, (i.N p hp).2⟩, i.ap, i.loc, i.hp, i.tb, i.frs, i.dic, i.gens, i.os⟩
 obtain ⟨o, es, ep, h1, r⟩ := i.F.ns
 exact ⟨o, es, ep, hk _ _ (Ne.symm hL) h1, r⟩
theorem Inv.noB (i : Inv u c W σ s) {b : Addr} {o : Obj} (q : u.B.get? b = some o) : b ≠ c.env.locals ∧ ∀ p ∈ W.led, p.1 ≠ b :=
 ⟨fun z => absurd (Nat.lt_of_lt_of_le (Heap.lt_size q) (z ▸ i.F.above)) (Nat.lt_irrefl _), fun p hp z => nn ((i.N p hp).2.2.symm.trans (z ▸ q))⟩
inductive Turned (u : U) (c : Cx) (W : Wd) (σ : St) (s : Shared) : Prop where
 | mk (W' : Wd) (ev : Ev W W') (m : W'.m = W.m) (fz : W'.fz = W.fz) (led : W'.led.map (·.1) = W.led.map (·.1)) (i : Inv u c W' σ s)
theorem Inv.turn (i : Inv u c W σ s) {h' : Heap} {tk : Nat}
   (h1 : ∀ b o, s.heap.get? b = some o → b ≠ c.env.locals → b ∉ W.fr.map (·.1) → (b ∈ W.led.map (·.1) ∨ u.B.get? b = some o) → h'.get? b = some o)
   (h2 : ∀ b o, s.heap.get? b = some o → b = c.env.locals ∨ b ∈ W.fr.map (·.1) → ∃ sl, h'.get? b = some { o with slots := sl }) : Turned u c W σ { s with heap := h', toks := tk } := by
 obtain ⟨fr', su, hfr⟩ := TI.sameUp_of (frs := W.fr) (h' := h') fun p hp => h2 p.1 p.2 (i.N p (q1b hp)).1 (.inr (q2f hp))
 have ea := q8x su
 have S := i.ap.sep
 have e : Ev W { W with fr := fr' } := ⟨fun _ h => h, List.prefix_refl _, rfl, su⟩
 have old : ∀ p ∈ W.led, (∀ q ∈ W.fr, p.1 ≠ q.1) → h'.get? p.1 = some p.2 ∧ p.1 ≠ c.env.locals ∧ u.B.get? p.1 = none := fun p hp hn => ⟨h1 _ _ (i.N p hp).1 (i.N p hp).2.1 (q4e fun q hq => (hn q hq).symm) (.inl (q2f hp)), (i.N p hp).2⟩
 refine ⟨_, e, rfl, rfl, led_upd ea, ⟨?_, fun b o q => h1 b o (i.F.keep b o q) (i.noB q).1 (q4e fun p hp => (i.noB q).2 p (q1b hp)) (.inr q), i.F.above⟩, fun p hp => q4n hp (fun hp => ?_) (fun hp => ?_) (fun hp => ?_) fun hp => ?_,
   ⟨mu_upd ea ▸ i.ap.nd, fun p hp => mu_upd ea ▸ i.ap.fz p hp⟩, i.loc.ev e rfl, i.hp.ev e, (fun p hp => (i.tb p hp).sub e.sub), fun f hf => ?_, sameUp_dict su i.dic, i.gens, i.os⟩
 · obtain ⟨o, es, ep, hL, hd, r⟩ := i.F.ns
   obtain ⟨sl, hs⟩ := h2 _ o hL (.inl rfl)
   exact ⟨_, es, ep, hs, hd, r⟩
 · exact old p (q0u hp) fun q hq => S.zm p hp q (q4m hq)
 · exact old p (q0k (q1t hp)) (S.hf p hp)
 · exact old p (q0k (q2e hp)) (S.tf p hp)
 · obtain ⟨x, hx, q⟩ := su.fwd p hp
   exact ⟨hfr p hp, q ▸ (i.N x (q1b hx)).2⟩
 · obtain ⟨a, L, b, d⟩ := i.frs f hf
   exact ⟨a, L, b, ea ▸ d⟩
theorem Inv.funFrames (i : Inv u c W σ s) : s.heap.FunFrames {} c.fenvs := by
 have key : ∀ l : List Env, (∀ e ∈ l, e ∈ c.fenvs) → s.heap.FunFrames {} l := by
   intro l
   induction l with
   | nil => intro _; trivial
   | cons e l ih =>
     intro h
     obtain ⟨a, L, b, d⟩ := i.frs e (h e (.head _))
     refine ⟨a, ?_, ih fun e' he => h e' (.tail _ he)⟩
     rcases d with rfl | d
     · obtain ⟨o, es, ep, hL, hd, _⟩ := i.F.ns
       exact ⟨_, o, b, rfl, hL, fun vs q => nomatch hd.symm.trans q⟩
     · obtain ⟨p, hp, rfl⟩ := List.mem_map.mp d
       obtain ⟨es, n, hd⟩ := i.dic p hp
       exact ⟨_, p.2, b, rfl, (i.N p (q1b hp)).1, fun vs q => nomatch hd.symm.trans q⟩
 exact key _ fun _ h => h
theorem Inv.frames_in (i : Inv u c W σ s) {b : Addr} (h : b ∈ c.fenvs.filterMap (·.frame)) : b = c.env.locals ∨ b ∈ W.fr.map (·.1) := by
 obtain ⟨e, he, hf⟩ := List.mem_filterMap.mp h
 obtain ⟨_, L, q, d⟩ := i.frs e he
 rw [hf] at q; cases q; exact d
theorem Trc.to {c' : Cx} {W' : Wd} {h h' : Heap} {tr : Bool} {ea : Addr} {vs : Array Value} (x : Trc u c W h tr ea vs) (hh : ∀ T o, u.B.get? T = none → T ≠ c.env.locals → T ∉ W.led.map (·.1) → T ≠ ea → h.get? T = some o → h'.get? T = some o) (hl : c'.env.locals = c.env.locals) (hd : ∀ T, T ∉ W.led.map (·.1) → T ∉ W'.led.map (·.1)) : Trc u c' W' h' tr ea vs :=
 x.casesOn .inl fun T oT ts q ne get data sz new loc out => .inr T oT ts q ne (hh T oT new loc out ne get) data sz new (hl ▸ loc) (hd T out)
theorem Msg.to {W' : Wd} {oe : Obj} {m : V} (x : Msg u W oe m) (e : Sub W W') : Msg u W' oe m := x.casesOn fun de e' t n r d fz rep => .mk de e' t n r d (e.fz _ fz nd_dict) (rep.sub e)
theorem hold_field {o : Obj} {vs ws : Array Value} {f : Array Value → Array Value} {m : V} (hd : o.data = .fields vs) (x : Msg u W o m) : Msg u W (Obj.mapFields f o) m := by
 obtain ⟨cl, dt, dat, sl⟩ := o
 cases hd
 exact x.casesOn fun de e t n r d fz rep => .mk de e t n r d fz rep
theorem entry_ok (fn : c.Fn) (hAf : c.A.frames = some c.fenvs) {ea C : Addr} {m : V} (i : Inv u c W σ s) {oe : Obj} {vs : Array Value} (he : s.heap.get? ea = some oe) (hc : oe.cls = .ref C) (hd : oe.data = .fields vs) (hsz : 1 < vs.size) (hpl : u.pl C = true → vs[2]? = some .none) (hm : Msg u W oe m)
   (hB : u.B.get? ea = none) (hout : ea ∉ W.led.map (·.1)) (hne : ea ≠ c.env.locals) (head : Value) (hadNext : Bool) {E : Value → Shared → Prop} :
   wpAny u.M c.A (do setField (.ref ea) 1 (← EntryCells.newEntry head (← frameOf c.env) .none (rawInt c.env.locals) .none (← entryPlaceOf c.env.locals hadNext))) (fun _ => Threw u c W σ true C m (.ref ea)) E s := by
 obtain ⟨outer, hfe, hfr⟩ := fn
 have hin : ∀ b, b ∈ (c.env :: outer).filterMap (·.frame) → b = c.env.locals ∨ b ∈ W.fr.map (·.1) := fun b hb => i.frames_in (hfe.symm ▸ hb)
 have frLed : ∀ b, b ∈ W.fr.map (·.1) → b ∈ W.led.map (·.1) := fun b hb => by
   obtain ⟨p, hp, rfl⟩ := List.mem_map.mp hb
   exact q2f (q1b hp)
 have hean : ea ∉ (c.env :: outer).filterMap (·.frame) := fun z => (hin _ z).elim hne fun z => hout (frLed _ z)
 refine wpAny_bind (wpAny_frameOf_fun (hAf.trans (congrArg some hfe)) (hfe ▸ i.funFrames) hfr fun h₁ hs₁ => wpAny_bind (wpAny_entryPlaceOf fun pl hpl' => wpAny_bind (wpAny_newObj_type ?_ (hpl'.sizeOk5 _ _ _ _ _))))
 have he₁ : h₁.get? ea = some oe := (hs₁.2.1 ea hean).trans he
 obtain ⟨W1, ev, _, _, hled, i1⟩ := i.turn (h' := h₁) (tk := s.toks) (fun b o q hL hf _ => (hs₁.2.1 b fun z => (hin _ z).elim hL hf).trans q) (fun b o q _ => hs₁.2.2 b o q)
 generalize hTs : ([head, .ref c.env.locals, .none, rawInt c.env.locals, .none] ++ (if pl.isEmpty then List.replicate 6 Value.none else pl)).toArray = ts
 have hT3 : 3 < ts.size := by
   subst hTs
   simp only [List.size_toArray, List.length_append, List.length_cons]; omega
 generalize hTo : ({ cls := .type "traceback", dict := none, data := .fields ts } : Obj) = oT
 have i2 := i1.keeps (tk := s.toks) (h' := h₁.push oT) fun b o q => Heap.get?_push_of_some _ q
 have he₂ : (h₁.push oT).get? ea = some oe := Heap.get?_push_of_some _ he₁
 have hTe : h₁.objs.size ≠ ea := Nat.ne_of_gt (Heap.lt_size he₁)
 have hd₃ := Obj.data_mapFields hd (·.setIfInBounds 1 (Value.ref h₁.objs.size))
 have other : ∀ b o, b ≠ ea → (h₁.push oT).get? b = some o → ((h₁.push oT).update ea (Obj.mapFields (·.setIfInBounds 1 (Value.ref h₁.objs.size)))).get? b = some o := fun b o hb q => (Heap.get?_update_other _ _ (Ne.symm hb)).trans q
 have fresh : ∀ b o, h₁.get? b = some o → h₁.objs.size ≠ b := fun b o q => Nat.ne_of_gt (Heap.lt_size q)
 refine wpAny_setField he₂ hd hsz ⟨W1, ev, i2.other (tk := s.toks) (hled ▸ hout) hne hB other, ea, rfl, _, _, Heap.get?_update_self _ he₂ (Obj.isFreed_of_fields hd₃), (Obj.cls_mapFields _ _).trans hc, hd₃,
   .inr h₁.objs.size oT ts (by simp [hsz]) hTe (other _ _ hTe (Heap.get?_push_size _ (by subst hTo; rfl))) (by subst hTo; rfl) hT3 ?_ ?_ ?_, fun h => (Array.getElem?_setIfInBounds_ne (by decide)).trans (hpl h), hold_field (ws := vs) hd (hm.to ev.sub), hB, hled ▸ hout, hne⟩
 · cases q : u.B.get? h₁.objs.size with
   | none => rfl
   | some o => exact absurd rfl (fresh _ _ (i1.F.keep _ _ q))
 · obtain ⟨o, _, _, hL, _⟩ := i1.F.ns
   exact fresh _ _ hL
 · exact q4e fun p hp => (fresh _ _ (i1.N p hp).1).symm
theorem j0x (fn : c.Fn) (hAf : c.A.frames = some c.fenvs) {tr : Bool} {e : Value} {C : Addr} {m : V} (R : Raised u c W σ tr e C m s) {E : Value → Shared → Prop} :
   wpAny u.M c.A (noteFrame e c.env) (fun _ => Threw u c W σ true C m e) E s := by
 obtain ⟨i, ea, rfl, oe, vs, he, hc, hd, ht, hpl, hm, hB, hout, hne⟩ := R
 have fn' := fn
 obtain ⟨outer, hfe, hfr⟩ := fn'
 unfold noteFrame
 rw [hfr]
 cases ht with
 | inl _ q => exact wpAny_bind (wpAny_field he hd q (entry_ok fn hAf i he hc hd (Array.getElem?_eq_some_iff.mp q).1 hpl hm hB hout hne .none _))
 | inr T oT ts q hTe hT hdT h3 hTB hTL hTl =>
   refine wpAny_bind (wpAny_field he hd q ?_)
   rw [if_pos (show (Value.ref T != Value.none) = true from by simp)]
   refine wpAny_bind (wpAny_field hT hdT (Array.getElem?_eq_getElem h3) ?_)
   by_cases hh : (ts[3] == rawInt c.env.locals) = true
   · rw [if_pos hh]
     exact wpAny_pure ⟨W, .refl W, i, ea, rfl, oe, vs, he, hc, hd, .inr T oT ts q hTe hT hdT h3 hTB hTL hTl, hpl, hm, hB, hout, hne⟩
   · rw [if_neg hh]
     have other : ∀ b o, b ≠ T → s.heap.get? b = some o → (s.heap.update T (Obj.mapFields (·.setIfInBounds 3 Value.none))).get? b = some o := fun b o hb q => (Heap.get?_update_other _ _ (Ne.symm hb)).trans q
     exact wpAny_bind (wpAny_setField hT hdT h3 (entry_ok fn hAf (i.other (tk := s.toks) hTl hTL hTB other) (other _ _ (Ne.symm hTe) he) hc hd (Array.getElem?_eq_some_iff.mp q).1 hpl hm hB hout hne (.ref T) _))
theorem j4r (fn : c.Fn) (ok : c.Ok) {tr : Bool} {e : Value} {C : Addr} {m : V} (R : Raised u c W σ tr e C m s) {E : Value → Shared → Prop} :
 wpAny u.M c.A (noteFrame e c.env) (fun _ => Threw u c W σ true C m e) E s := j0x fn ok.frames R
end
section
variable {u : U} {c : Cx} {W : Wd} {σ : St} {s : Shared}
theorem q2p {tr : Bool} {e : Value} {C : Addr} {m : V} {x : Option Addr} (R : Raised u c W σ tr e C m s) {E : Value → Shared → Prop} :
   wpAny u.M c.A (setFlight e x) (fun _ => Threw u c W σ tr C m e) E s := by
 obtain ⟨i, ea, rfl, oe, vs, he, hc, hd, ht, hpl, hm, hB, hout, hne⟩ := R
 unfold setFlight
 cases ht with
 | inl h0 q =>
   refine wpAny_bind (wpAny_field he hd q ?_)
   rw [if_neg (by decide)]
   exact wpAny_pure ⟨W, .refl W, i, ea, rfl, oe, vs, he, hc, hd, .inl h0 q, hpl, hm, hB, hout, hne⟩
 | inr T oT ts q hTe hT hdT h3 hTB hTL hTl =>
   refine wpAny_bind (wpAny_field he hd q ?_)
   rw [if_pos (show (Value.ref T != Value.none) = true from by simp)]
   generalize x.elim Value.none (fun f => rawInt f) = fl
   have other : ∀ b o, b ≠ T → s.heap.get? b = some o → (s.heap.update T (Obj.mapFields (·.setIfInBounds 3 fl))).get? b = some o := fun b o hb q => (Heap.get?_update_other _ _ (Ne.symm hb)).trans q
   have hdT' := Obj.data_mapFields hdT (·.setIfInBounds 3 fl)
   exact wpAny_setField hT hdT h3 ⟨W, .refl W, i.other (tk := s.toks) hTl hTL hTB other, ea, rfl, oe, vs, other _ _ (Ne.symm hTe) he, hc, hd,
     .inr T _ _ q hTe (Heap.get?_update_self _ hT (Obj.isFreed_of_fields hdT')) hdT' (by rw [Array.size_setIfInBounds]; exact h3) hTB hTL hTl, hpl, hm, hB, hout, hne⟩
theorem q6v {e : Value} {C : Addr} {m : V} {W₀ : Wd} (R : Raised u c W σ true e C m s) (ev₀ : Ev W₀ W) : cameBackBy u.M c.A c.env (Threw u c W₀ σ false C m) e s := by
 have R' := R
 obtain ⟨i, ea, rfl, oe, vs, he, hc, hd, ht, _⟩ := R
 cases ht with
 | inl h0 q => cases h0
 | inr T oT ts q =>
   refine wpAny_bind (wpAny_field he hd q ?_)
   rw [if_neg (show ¬ ((Value.ref T == Value.none) = true) from by simp)]
   exact wpAny_mono (q2p R') (fun _ _ h_ => h_.k fun W' e' r => ⟨W', ev₀.trans e', r.weak⟩) fun _ _ x => x
theorem Threw.ev {W W' : Wd} {tr : Bool} {C : Addr} {m : V} {e : Value} (ev : Ev W W') (h : Threw u c W' σ tr C m e s) : Threw u c W σ tr C m e s := h.k fun W2 e2 r => ⟨W2, ev.trans e2, r⟩
theorem Got.ev {α β : Type} {rep : Wd → α → β → Prop} {W W' : Wd} {b : β} {v : α} (ev : Ev W W') (h : Got u c rep W' σ b v s) : Got u c rep W σ b v s := h.k fun W2 e2 i r => ⟨W2, ev.trans e2, i, r⟩
theorem Threw.note (fn : c.Fn) (ok : c.Ok) {tr : Bool} {e : Value} {C : Addr} {m : V} (T : Threw u c W σ tr C m e s) {E : Value → Shared → Prop} (k : ∀ s', Threw u c W σ true C m e s' → E e s') : notedBy u.M c.A c.env E e s :=
 T.k fun W1 e1 R => wpAny_mono (j4r fn ok R) (fun _ s' h => k s' (h.ev e1)) fun _ _ x => x
theorem j2u (fn : c.Fn) (ok : c.Ok) {tr : Bool} {e : Value} {C : Addr} {m : V} (R : Raised u c W σ tr e C m s) {E : Value → Shared → Prop} :
   wpAny u.M c.A (leaving c.env e) (fun _ => Threw u c W σ true C m e) E s :=
 wpAny_bind (wpAny_mono (j4r fn ok R) (fun _ s1 h => h.k fun W1 e1 R1 => wpAny_mono (q2p R1) (fun _ _ h => h.ev e1) fun _ _ x => x) fun _ _ x => x)
noncomputable def q7f (f : St → Res Bool) (g : St → Res Fl) : Nat → St → Res Fl
 | 0, _ => .bad
 | n + 1, σ => (f σ).bind fun b σ => if b then (g σ).bind fun fl σ => match fl with
     | .next => q7f f g n σ
     | .ret v => .ok (.ret v) σ
   else .ok .next σ
noncomputable def EndOk (u : U) (c : Cx) (W : Wd) (r : Res Fl) (f : Flow) (s' : Shared) : Prop := Res.casesOn r (fun fl σ' => Got u c (q2m u) W σ' fl f s') (fun _ _ _ => False) True
noncomputable def EndEx (u : U) (c : Cx) (W : Wd) (r : Res Fl) (e : Value) (s' : Shared) : Prop := Res.casesOn r (fun _ _ => False) (fun C m σ' => Threw u c W σ' true C m e s') True
noncomputable def q6d (u : U) (c : Cx) (W : Wd) (r : Res Fl) (x : Result) (s' : Shared) : Prop := Except.casesOn x (fun e => EndEx u c W r e s') fun f => EndOk u c W r f s'
inductive WhileI (u : U) (c : Cx) (W : Wd) (f : St → Res Bool) (g : St → Res Fl) (r : Res Fl) (n : Nat) (s : Shared) : Prop where
 | mk (W' : Wd) (σ' : St) (e : Ev W W') (i : Inv u c W' σ' s) (h : q7f f g n σ' = r)
theorem bind_nb {α β : Type} {r : Res α} {k : α → St → Res β} (h : r.bind k ≠ .bad) : r ≠ .bad := fun e => h (e ▸ rfl)
theorem j2l (fn : c.Fn) (ok : c.Ok) {test : Expr} {body : List Stmt} {f : St → Res Bool} {g : St → Res Fl} (ht : ST u c test f) (hb : SB u c body g) (n : Nat) (i : Inv u c W σ s) {r : Res Fl} (hr : q7f f g n σ = r)
   (hne : r ≠ .bad) : codeAny u.M c.A (.whileLoop test body [] c.env) (q6d u c W r) s := by
 refine codeAny_whileLoop (WhileI u c W f g r) (fun n s' h => ?_) n ⟨W, σ, .refl W, i, hr⟩
 obtain ⟨W', σ', e, i', h⟩ := h
 cases n with
 | zero => exact absurd h.symm hne
 | succ n =>
   have hne' := hne
   rw [← h] at hne'
   refine (ht W' σ' s' i').use (fun b σ1 h1 b' s1 G => ?_) (fun C m σ1 h1 e' s1 T => T.note fn ok fun s2 T2 => ?_) (bind_nb hne')
   · obtain ⟨W1, e1, i1, rfl⟩ := G
     have h : (f σ').bind _ = r := h
     rw [h1] at h
     have h : (if b' = true then _ else _) = r := h
     cases b' with
     | false =>
       exact wpAny_execs_nil (show q6d u c W r (.ok .next) _ from h ▸ (⟨W1, e.trans e1, i1, .next⟩ : Got u c (q2m u) W σ1 .next .next _))
     | true =>
       have h : (g σ1).bind _ = r := h
       refine (hb W1 σ1 s1 i1).use (fun fl σ2 h2 f' s2 G => ?_) (fun C m σ2 h2 e' s2 T => T.note fn ok fun s3 T3 => ?_) (fun q => hne (by rw [← h, q]; rfl))
       · obtain ⟨W2, e2, i2, q⟩ := G
         rw [h2] at h
         cases q with
         | next => exact ⟨n, Nat.lt_succ_self n, W2, σ2, (e.trans e1).trans e2, i2, h⟩
         | ret q => exact (show q6d u c W r (.ok (.ret _)) _ from h ▸ (⟨W2, (e.trans e1).trans e2, i2, .ret q⟩ : Got u c (q2m u) W σ2 (.ret _) (.ret _) _))
       · rw [h2] at h
         exact (show q6d u c W r (.error _) _ from h ▸ T3.ev (e.trans e1))
   · have h : (f σ').bind _ = r := h
     rw [h1] at h
     exact (show q6d u c W r (.error _) _ from h ▸ T2.ev e)
theorem sx_while (fn : c.Fn) (ok : c.Ok) (n : Nat) {test : Expr} {body : List Stmt} {p : Pos} {f : St → Res Bool} {g : St → Res Fl} (ht : ST u c test f) (hb : SB u c body g) :
   SX u c (.While test body [] p) (q7f f g n) := fun W σ s i => by
 rw [exec_While]
 refine Sim.standAt ?_
 cases hr : q7f f g n σ with
 | bad => trivial
 | ok fl σ' => exact wpAny_runOwn (codeAny_mono (j2l fn ok ht hb n i hr fun q => nomatch q) fun r s1 h => by cases r with
   | ok f => exact h
   | error e => exact h.elim)
 | ex C m σ' => exact wpAny_runOwn (codeAny_mono (j2l fn ok ht hb n i hr fun q => nomatch q) fun r s1 h => by cases r with
   | ok f => exact h.elim
   | error e => exact Threw.k h fun W' e1 R1 => q6v R1 e1)
theorem sb_nil : SB u c [] (fun σ => .ok .next σ) := fun W σ s i => Sim.pure i .next
theorem sim_cons {st : Stmt} {rest : List Stmt} {rf : Res Fl} {g : St → Res Fl} (h : Sim u c (q2m u) (exec st c.env) rf W s) (hs : SB u c rest g) : Sim u c (q2m u) (execs (st :: rest) c.env) (rf.bind fun fl σ => match fl with
   | .next => g σ
   | .ret v => .ok (.ret v) σ) W s := by
 rw [execs_cons]
 refine h.bind fun x a σ1 W1 s1 _ e1 i1 hx => ?_
 cases hx with
 | next => exact hs W1 σ1 s1 i1
 | ret hr => exact Sim.pure i1 (.ret hr)
theorem j4j {st : Stmt} {rest : List Stmt} {f g : St → Res Fl} (h : SX u c st f) (hs : SB u c rest g) : SB u c (st :: rest) (fun σ => (f σ).bind fun fl σ => match fl with
 | .next => g σ
 | .ret v => .ok (.ret v) σ) := fun W σ s i => sim_cons (h W σ s i) hs
theorem sx_if {t : Expr} {b o : List Stmt} {p : Pos} {f : St → Res Bool} {g h : St → Res Fl} (ht : ST u c t f) (hb : SB u c b g) (ho : SB u c o h) :
   SX u c (.If t b o p) (fun σ => (f σ).bind fun b σ => if b then g σ else h σ) := fun W σ s i => by
 rw [exec_If]
 refine Sim.standAt ((ht W σ s i).bind fun x a σ1 W1 s1 _ e1 i1 hx => ?_)
 subst hx
 cases x
 · exact ho W1 σ1 s1 i1
 · exact hb W1 σ1 s1 i1
theorem sx_ret {e : Expr} {p : Pos} {f : St → Res V} (h : SE u c e f) : SX u c (.Return (some e) p) (fun σ => (f σ).bind fun v σ => .ok (.ret v) σ) := fun W σ s i => by
 rw [exec_Return_some]
 exact Sim.standAt ((h W σ s i).bind fun x a σ1 W1 s1 _ e1 i1 hx => Sim.pure i1 (.ret hx))
theorem j6q (ok : c.Ok) {x : String} {value : Expr} {p p' : Pos} {f : St → Res V} {cell : Bool} (hv : SE u c value f) (hk : c.env.kindOf (Str.ofString x) = some (if cell then .cell else .local))
   (hs : swapsWith value (some (.Name (Str.ofString x) p')) p.line c.env = pure false) : SX u c (.Assign [.Name (Str.ofString x) p'] value p) (fun σ => (f σ).bind fun v σ => (q1k cell x v σ).bind fun _ σ => .ok .next σ) := fun W σ s i => by
 rw [exec_Assign_Name c.env _ p' value p hs]
 refine Sim.standAt ((hv W σ s i).bind fun r v σ1 W1 s1 _ e1 i1 hr => Sim.standAt ((q9w ok i1 hk hr).bind fun _ _ σ2 W2 s2 _ e2 i2 _ => Sim.pure i2 .next))
noncomputable def incr (cell : Bool) (x : String) (old v : V) (σ : St) : Res Fl := (ores (oII old v fun a b => some (a + b)) σ).bind fun n σ => (q1k cell x (.int n) σ).bind fun _ σ => .ok .next σ
theorem sl_local (ok : c.Ok) {x : String} (hk : c.env.kindOf (Str.ofString x) = some .local) (i : Inv u c W σ s) : Sim u c (Rep u) (loadName c.env (Str.ofString x)) (ores (σ.get x) σ) W s := by
 refine Sim.ores fun v hv => ?_
 obtain ⟨r, hm, hr⟩ := (i.loc x v hv).1 hk
 exact Sim.value i fun Q h => wpAny_loadName_local ok.kind hk i.F.ns hm (h r s.toks hr)
theorem sx_aug (ok : c.Ok) {x : String} {value : Expr} {p p' : Pos} {f : St → Res V} (hv : SE u c value f) (hk : c.env.kindOf (Str.ofString x) = some .local) :
   SX u c (.AugAssign (.Name (Str.ofString x) p') .Add value p) (fun σ => (ores (σ.get x) σ).bind fun a σ => (f σ).bind fun b σ => incr false x a b σ) := fun W σ s i => by
 rw [exec_AugAssign_Name]
 refine Sim.standAt ((sl_local ok hk i).bind fun r a σ1 W1 s1 _ e1 i1 hr => (Sim.holding (hv W1 σ1 s1 i1)).bind fun r2 b σ2 W2 s2 _ e2 i2 hr2 => Sim.standAt ?_)
 refine Sim.bind (t := PySem.operate [r, r2] (inplaceOp .Add r r2)) (rep := fun W r n => Rep u W r (.int n)) (Sim.operate (Sim.ores fun n h => ?_)) fun r3 v3 σ3 W3 s3 q e3 i3 hr3 => Sim.standAt ((q9w ok i3 (cell := false) hk hr3).bind fun _ _ σ2 W2 s2 _ e2 i2 _ => Sim.pure i2 .next)
 exact q1p (hr.ev e2) hr2 h (P := fun r r2 => Sim u c (fun W r n => Rep u W r (.int n)) (inplaceOp .Add r r2) (.ok n σ2) W2 s2) fun a b t t' e => by
   cases e
   exact Sim.value i2 fun Q h => PyProof.Rows.iadd_int (h _ _ (.int _ _))
end
section
variable {u : U} {c : Cx} {W : Wd} {σ : St} {s : Shared}
noncomputable def sqOf (H : List AO) (v : V) : Option (List V) := V.casesOn v none (fun _ => none) (fun _ => none) (fun _ => none) some some (fun _ _ => none) (fun k => H[k]?.bind lsO) (fun _ => none) (fun _ _ => none)
theorem sqOf_s {H : List AO} {v : V} {l : List V} (h : sqOf H v = some l) : v = .tup l ∨ lsOf H v = some l := by
 cases v with
 | tup m => exact .inl (congrArg _ (Option.some.inj h))
 | _ => exact .inr h
theorem j6m (ok : c.Ok) (i : Inv u c W σ s) {r : Value} {v : V} {l : List V} (hr : Rep u W r v) (h : sqOf σ.hp v = some l) : Sim u c (Reps u) (unpackItems r l.length none) (.ok l σ) W s := by
 rcases sqOf_s h with rfl | h
 · induction hr.tp with
   | mk h1 h2 h3 h4 =>
     rw [← h4.length, ← List.size_toArray]
     exact unpackItems_tuple ok.handled ⟨_, h1.get i, h2, _, h3⟩ fun h' he => ⟨W, .refl W, i.keeps (tk := s.toks) (q8z he), h4⟩
 · induction q4y i hr h with
   | mk L R =>
     rw [← R.length, ← List.size_toArray]
     exact kun_itemsOf ok.handled L fun h' he => ⟨W, .refl W, i.keeps (tk := s.toks) (q8z he), R⟩
noncomputable def q1o (c : Cx) (x : String) : Prop := c.env.kindOf (Str.ofString x) = some .local
theorem sim_set (ok : c.Ok) (i : Inv u c W σ s) {x : String} {r : Value} {v : V} (hk : q1o c x) (hr : Rep u W r v) :
   Sim u c (fun _ _ _ => True) (bindName c.env (Str.ofString x) r) (.ok () (σ.set x v)) W s :=
 (q9w ok i (cell := false) hk hr)
noncomputable def seqN (n : Nat) (H : List AO) (v : V) : Option (List V) := (sqOf H v).bind fun l => oIf (l.length = n) (some l)
theorem seqN_ok {n : Nat} {H : List AO} {v : V} {l : List V} (h : seqN n H v = some l) : sqOf H v = some l ∧ l.length = n := by
 obtain ⟨m, h1, h2⟩ := bd_s h
 obtain ⟨h3, h4⟩ := q0h h2
 cases Option.some.inj h4
 exact ⟨h1, h3⟩
noncomputable def setsR (xs : List String) : List V → St → St := List.rec (fun _ σ => σ) (fun x _ ih vs σ => List.casesOn vs σ fun v vs => ih vs (σ.set x v)) xs
noncomputable def St.sets (σ : St) (xs : List String) (vs : List V) : St := setsR xs vs σ
theorem sim_sets (ok : c.Ok) (xs : List String) : ∀ (rs : List Value) (vs : List V) (W : Wd) (σ : St) (s : Shared), Inv u c W σ s → (∀ x ∈ xs, q1o c x) → Reps u W rs vs →
   Sim u c (fun _ _ _ => True) (assignInOrder ((xs.map Str.ofString).map fun n => bindName c.env n) rs) (.ok () (σ.sets xs vs)) W s := by
 induction xs with
 | nil =>
   intro rs vs W σ s i _ _
   exact Sim.pure i trivial
 | cons x xs ih =>
   intro rs vs W σ s i hx h
   cases h with
   | nil => exact Sim.pure i trivial
   | cons a b =>
     exact Sim.bindOk (Sim.holding (sim_set ok i (hx x (.head _)) a)) fun _ W1 s1 e1 i1 _ => ih _ _ W1 _ s1 i1 (fun y hy => hx y (.tail _ hy)) (b.ev e1)
theorem Reps.reverse {rs : List Value} {vs : List V} (h : Reps u W rs vs) : Reps u W rs.reverse vs.reverse := by
 induction vs generalizing rs with
 | nil => cases h.nl; exact .nil
 | cons v vs ih => induction h.cs with
   | mk a b => rw [List.reverse_cons, List.reverse_cons]; exact (ih b).append (.cons a .nil)
theorem sim_tupS (ok : c.Ok) {xs : List String} {elts : List Expr} {tp p : Pos} {k : Nat} {value : Expr} {ro : Res V} (H : Sim u c (Rep u) (eval value c.env) ro W s) (hx : ∀ x ∈ xs, q1o c x)
   (hs : swapsWithSole [.Tuple elts k tp] value p.line c.env = pure false) (hw : swappedStores [.Tuple elts k tp] value c.env = pure (some (xs.map Str.ofString))) :
   Sim u c (q2m u) (exec (.Assign [.Tuple elts k tp] value p) c.env) (ro.bind fun v σ => (ores (seqN xs.length σ.hp v) σ).bind fun l σ => .ok .next (σ.sets xs.reverse l.reverse)) W s := by
 rw [PyProof.Rows.exec_Assign]
 refine Sim.standAt ?_
 rw [hs]
 refine Sim.congr (fun Q E q => wpAny_bind (wpAny_pure q)) ?_
 rw [if_neg (by decide)]
 refine H.bind fun r v σ1 W1 s1 _ e1 i1 hr => ?_
 rw [hw]
 refine Sim.congr (fun Q E q => wpAny_bind (wpAny_pure (wpAny_bind (wpAny_rule q)))) ?_
 refine Sim.bind (g := fun l σ => .ok Fl.next (σ.sets xs.reverse l.reverse)) (t := unpackItems r (xs.map Str.ofString).length none) (rep := Reps u) ?_ fun items l σ1 W2 s2 _ e2 i2 hi => ?_
 · refine Sim.ores fun l hq => ?_
   obtain ⟨h1, h2⟩ := seqN_ok hq
   rw [List.length_map, ← h2]
   exact j6m ok i1 hr h1
 · rw [← List.map_reverse]
   exact Sim.bindOk (sim_sets ok xs.reverse _ _ W2 σ1 s2 i2 (fun x h => hx x (List.mem_reverse.mp h)) hi.reverse) fun _ W3 s3 e3 i3 _ => Sim.pure i3 .next
theorem sx_tupS (ok : c.Ok) {xs : List String} {elts : List Expr} {tp p : Pos} {k : Nat} {value : Expr} {f : St → Res V} (hv : SE u c value f) (hx : ∀ x ∈ xs, q1o c x)
 (hs : swapsWithSole [.Tuple elts k tp] value p.line c.env = pure false) (hw : swappedStores [.Tuple elts k tp] value c.env = pure (some (xs.map Str.ofString))) :
 SX u c (.Assign [.Tuple elts k tp] value p) (fun σ => (f σ).bind fun v σ => (ores (seqN xs.length σ.hp v) σ).bind fun l σ => .ok .next (σ.sets xs.reverse l.reverse)) := fun W σ s i => sim_tupS ok (hv W σ s i) hx hs hw
theorem sim_tupN (ok : c.Ok) {xs : List String} {elts : List Expr} {tp p : Pos} {k : Nat} {value : Expr} {ro : Res V} (H : Sim u c (Rep u) (eval value c.env) ro W s) (hx : ∀ x ∈ xs, q1o c x)
   (hs : swapsWithSole [.Tuple elts k tp] value p.line c.env = pure false) (hw : swappedStores [.Tuple elts k tp] value c.env = pure none)
   (he : ∀ (rs : List Value) (vs : List V) (W : Wd) (σ : St) (s : Shared), Inv u c W σ s → Reps u W rs vs → Sim u c (fun _ _ _ => True) (assignInOrder ((assignEach elts c.env).map (·.2)) rs) (.ok () (σ.sets xs vs)) W s)
   (hl : (assignEach elts c.env).length = xs.length) (hst : (assignEach elts c.env).findIdx? (·.1) = none) :
   Sim u c (q2m u) (exec (.Assign [.Tuple elts k tp] value p) c.env) (ro.bind fun v σ => (ores (seqN xs.length σ.hp v) σ).bind fun l σ => .ok .next (σ.sets xs l)) W s := by
 rw [PyProof.Rows.exec_Assign]
 refine Sim.standAt ?_
 rw [hs]
 refine Sim.congr (fun Q E q => wpAny_bind (wpAny_pure q)) ?_
 rw [if_neg (by decide)]
 refine H.bind fun r v σ1 W1 s1 _ e1 i1 hr => ?_
 rw [hw]
 refine Sim.congr (fun Q E q => wpAny_bind (wpAny_pure q)) ?_
 cases hq : seqN xs.length σ1.hp v with
 | none => trivial
 | some l =>
   obtain ⟨h1, h2⟩ := seqN_ok hq
   have U := j6m ok i1 hr h1
   rw [h2] at U
   have inner : Sim u c (fun _ (_ : Unit) (_ : Unit) => True) (assign (.Tuple elts k tp) c.env r) (.ok () (σ1.sets xs l)) W1 s1 := by
     rw [arm_assign_Tuple]
     refine Sim.standAt ?_
     unfold unpack
     rw [hl, hst]
     exact (Sim.holding U).bindOk fun items W2 s2 e2 i2 hi => he _ _ W2 σ1 s2 i2 hi
   show Sim u c (q2m u) (assign (.Tuple elts k tp) c.env r >>= fun _ => pure Flow.next) (.ok .next (σ1.sets xs l)) W1 s1
   exact inner.bindOk fun _ W3 s3 e3 i3 _ => Sim.pure i3 .next
theorem sx_tupN (ok : c.Ok) {xs : List String} {elts : List Expr} {tp p : Pos} {k : Nat} {value : Expr} {f : St → Res V} (hv : SE u c value f) (hx : ∀ x ∈ xs, q1o c x)
 (hs : swapsWithSole [.Tuple elts k tp] value p.line c.env = pure false) (hw : swappedStores [.Tuple elts k tp] value c.env = pure none)
 (he : ∀ (rs : List Value) (vs : List V) (W : Wd) (σ : St) (s : Shared), Inv u c W σ s → Reps u W rs vs → Sim u c (fun _ _ _ => True) (assignInOrder ((assignEach elts c.env).map (·.2)) rs) (.ok () (σ.sets xs vs)) W s)
 (hl : (assignEach elts c.env).length = xs.length) (hst : (assignEach elts c.env).findIdx? (·.1) = none) :
 SX u c (.Assign [.Tuple elts k tp] value p) (fun σ => (f σ).bind fun v σ => (ores (seqN xs.length σ.hp v) σ).bind fun l σ => .ok .next (σ.sets xs l)) := fun W σ s i => sim_tupN ok (hv W σ s i) hx hs hw he hl hst
theorem j0l (ok : c.Ok) (ps : List (String × Pos)) : ∀ (rs : List Value) (vs : List V) (W : Wd) (σ : St) (s : Shared), Inv u c W σ s → (∀ x ∈ ps.map (·.1), q1o c x) → Reps u W rs vs →
   Sim u c (fun _ _ _ => True) (assignInOrder ((assignEach (ps.map fun x => Expr.Name (Str.ofString x.1) x.2) c.env).map (·.2)) rs) (.ok () (σ.sets (ps.map (·.1)) vs)) W s := by
 induction ps with
 | nil =>
   intro rs vs W σ s i _ _
   exact Sim.pure i trivial
 | cons x ps ih =>
   intro rs vs W σ s i hx h
   cases h with
   | nil => exact Sim.pure i trivial
   | cons a b =>
     show Sim u c _ (holding _ (do standAt x.2; bindName c.env (Str.ofString x.1) _) >>= fun _ => assignInOrder ((assignEach (ps.map fun x => Expr.Name (Str.ofString x.1) x.2) c.env).map (·.2)) _) _ W s
     exact Sim.bindOk (Sim.holding (Sim.standAt (sim_set ok i (hx x.1 (.head _)) a))) fun _ W1 s1 e1 i1 _ => ih _ _ W1 _ s1 i1 (fun y hy => hx y (.tail _ hy)) (b.ev e1)
theorem sx_tup2 (ok : c.Ok) {x y : String} {p1 p2 tp p : Pos} {k : Nat} {value : Expr} {f : St → Res V} (hv : SE u c value f) (hx : q1o c x) (hy : q1o c y)
   (hs : swapsWithSole [.Tuple [.Name (Str.ofString x) p1, .Name (Str.ofString y) p2] k tp] value p.line c.env = pure false)
   (hw : swappedStores [.Tuple [.Name (Str.ofString x) p1, .Name (Str.ofString y) p2] k tp] value c.env = pure none) :
   SX u c (.Assign [.Tuple [.Name (Str.ofString x) p1, .Name (Str.ofString y) p2] k tp] value p) (fun σ => (f σ).bind fun v σ => (ores (seqN 2 σ.hp v) σ).bind fun l σ => .ok .next (σ.sets [x, y] l)) :=
 have hl : ∀ z ∈ [x, y], q1o c z := List.forall_mem_cons.mpr ⟨hx, List.forall_mem_cons.mpr ⟨hy, nofun⟩⟩
 sx_tupN (xs := [x, y]) ok hv hl hs hw (fun rs vs W σ s i h => j0l ok [(x, p1), (y, p2)] rs vs W σ s i hl h) rfl rfl
theorem sx_tup3 (ok : c.Ok) {x y z : String} {p1 p2 p3 tp p : Pos} {k : Nat} {value : Expr} {f : St → Res V} (hv : SE u c value f) (hx : q1o c x) (hy : q1o c y) (hz : q1o c z)
   (hs : swapsWithSole [.Tuple [.Name (Str.ofString x) p1, .Name (Str.ofString y) p2, .Name (Str.ofString z) p3] k tp] value p.line c.env = pure false)
   (hw : swappedStores [.Tuple [.Name (Str.ofString x) p1, .Name (Str.ofString y) p2, .Name (Str.ofString z) p3] k tp] value c.env = pure none) :
   SX u c (.Assign [.Tuple [.Name (Str.ofString x) p1, .Name (Str.ofString y) p2, .Name (Str.ofString z) p3] k tp] value p) (fun σ => (f σ).bind fun v σ => (ores (seqN 3 σ.hp v) σ).bind fun l σ => .ok .next (σ.sets [x, y, z] l)) :=
 have hl : ∀ w ∈ [x, y, z], q1o c w := List.forall_mem_cons.mpr ⟨hx, List.forall_mem_cons.mpr ⟨hy, List.forall_mem_cons.mpr ⟨hz, nofun⟩⟩⟩
 sx_tupN (xs := [x, y, z]) ok hv hl hs hw (fun rs vs W σ s i h => j0l ok [(x, p1), (y, p2), (z, p3)] rs vs W σ s i hl h) rfl rfl
theorem sx_tup2s (ok : c.Ok) {x y : String} {p1 p2 tp p : Pos} {k : Nat} {value : Expr} {f : St → Res V} (hv : SE u c value f) (hx : q1o c x) (hy : q1o c y)
   (hs : swapsWithSole [.Tuple [.Name (Str.ofString x) p1, .Name (Str.ofString y) p2] k tp] value p.line c.env = pure false)
   (hw : swappedStores [.Tuple [.Name (Str.ofString x) p1, .Name (Str.ofString y) p2] k tp] value c.env = pure (some [Str.ofString x, Str.ofString y])) :
   SX u c (.Assign [.Tuple [.Name (Str.ofString x) p1, .Name (Str.ofString y) p2] k tp] value p) (fun σ => (f σ).bind fun v σ => (ores (seqN 2 σ.hp v) σ).bind fun l σ => .ok .next (σ.sets [y, x] l.reverse)) :=
 have hl : ∀ z ∈ [x, y], q1o c z := List.forall_mem_cons.mpr ⟨hx, List.forall_mem_cons.mpr ⟨hy, nofun⟩⟩
 sx_tupS (xs := [x, y]) ok hv hl hs hw
theorem sx_tup3s (ok : c.Ok) {x y z : String} {p1 p2 p3 tp p : Pos} {k : Nat} {value : Expr} {f : St → Res V} (hv : SE u c value f) (hx : q1o c x) (hy : q1o c y) (hz : q1o c z)
   (hs : swapsWithSole [.Tuple [.Name (Str.ofString x) p1, .Name (Str.ofString y) p2, .Name (Str.ofString z) p3] k tp] value p.line c.env = pure false)
   (hw : swappedStores [.Tuple [.Name (Str.ofString x) p1, .Name (Str.ofString y) p2, .Name (Str.ofString z) p3] k tp] value c.env = pure (some [Str.ofString x, Str.ofString y, Str.ofString z])) :
   SX u c (.Assign [.Tuple [.Name (Str.ofString x) p1, .Name (Str.ofString y) p2, .Name (Str.ofString z) p3] k tp] value p) (fun σ => (f σ).bind fun v σ => (ores (seqN 3 σ.hp v) σ).bind fun l σ => .ok .next (σ.sets [z, y, x] l.reverse)) :=
 have hl : ∀ w ∈ [x, y, z], q1o c w := List.forall_mem_cons.mpr ⟨hx, List.forall_mem_cons.mpr ⟨hy, List.forall_mem_cons.mpr ⟨hz, nofun⟩⟩⟩
 sx_tupS (xs := [x, y, z]) ok hv hl hs hw
end
section
variable {u : U} {c : Cx} {W : Wd} {σ : St} {s : Shared}
theorem evalArgs_ns {M : Model} {A : Around} {E : Value → Shared → Prop} {f : Value} {args : List (Bool × Sem Value)} {Q : Args → Shared → Prop} (hn : args.all (!·.1) = true)
   (h : wpAny M A (spliced args) (fun vs s₁ => Q ⟨vs, []⟩ s₁) E s) : wpAny M A (evalArgs f true args []) Q E s := by
 match args, hn, h with
 | [], _, h =>
   unfold evalArgs
   show wpAny M A (spliced [] >>= _) Q E s
   refine wpAny_bind (wpAny_mono h (fun vs s' h' => ?_) fun _ _ x => x)
   first
     | exact wpAny_holding (wpAny_bind (wpAny_pure (wpAny_bind (wpAny_pure (wpAny_pure h')))))
     | exact wpAny_bind (wpAny_pure (wpAny_holding (wpAny_bind (wpAny_pure (wpAny_bind (wpAny_pure (wpAny_pure h')))))))
 | (false, x) :: rest, _, h => exact Calls.evalArgs_plain h
 | (true, x) :: rest, hn, _ => simp at hn
theorem q1r {M : Model} {A : Around} {E : Value → Shared → Prop} {f : Value} {first : List Value} {pos : Pos} {args : List (Bool × Sem Value)} {Q : Value → Shared → Prop} (hn : args.all (!·.1) = true)
   (h : wpAny M A (spliced args) (fun vs s₁ => (∃ k, (k = .frame ∨ k = .boundFrame ∨ k = .machine) ∧ ∀ (Q : Keeper → Shared → Prop), Q k s₁ → wpAny M A (keeperOf f) Q E s₁) ∧ wpAny M A (call f (first ++ vs)) Q E s₁) E s) :
   wpAny M A (callWith pos f first args []) Q E s := by
 unfold callWith
 refine wpAny_bind (wpAny_holding (evalArgs_ns hn (wpAny_mono h (fun vs s₁ h => wpAny_bind (wpAny_standAt ?_)) fun _ _ x => x)))
 obtain ⟨⟨k, hk, hq⟩, hc⟩ := h
 have hs : (args.any (·.1) || ([] : List (Option Str × Sem Value)).any (·.1.isNone)) = false := by
   simp only [List.any_nil, Bool.or_false, List.any_eq_false]
   intro x hx
   have := List.all_eq_true.mp hn x hx
   simpa using this
 have tail : ∀ {t : Sem Value}, wpAny M A t Q E s₁ → wpAny M A (t >>= fun r => holding [r] point >>= fun _ => pure r) Q E s₁ :=
   fun ht => wpAny_bind (wpAny_mono ht (fun r s₂ hr => wpAny_bind (wpAny_holding (wpAny_point (wpAny_pure hr)))) fun _ _ x => x)
 rw [hs]
 refine wpAny_bind (hq _ ?_)
 rcases hk with rfl | rfl | rfl
 · dsimp only
   split
   · exact tail hc
   · exact tail (by unfold callMarked; exact Calls.wpAny_keep hc)
 · dsimp only
   split
   · exact tail hc
   · exact tail (by unfold callMarked; exact Calls.wpAny_keep hc)
 · exact tail hc
noncomputable def Keeps (u : U) (c : Cx) (f : Value) : Prop := ∀ W σ s, Inv u c W σ s → ∃ k, (k = .frame ∨ k = .boundFrame ∨ k = .machine) ∧ ∀ (E : Value → Shared → Prop) (Q : Keeper → Shared → Prop), Q k s → wpAny u.M c.A (keeperOf f) Q E s
noncomputable def SC (u : U) (c : Cx) (f : Value) (first : List Value) (g : List V → St → Res V) : Prop := ∀ W σ s rs vs, Inv u c W σ s → Reps u W rs vs → Sim u c (Rep u) (call f (first ++ rs)) (g vs σ) W s
theorem q3c {pos : Pos} {l : List (Bool × Sem Value)} (h : l.all (!·.1) = true) : (backTo pos l).all (!·.1) = true := by
 unfold backTo
 rw [List.all_map]
 exact h
theorem q2o {f : Value} {first : List Value} {pos : Pos} {es : List Expr} {fa : St → Res (List V)} {g : List V → St → Res V} (ha : SEs u c es fa) (hn : (starEach es c.env).all (!·.1) = true) (hk : Keeps u c f)
   (i : Inv u c W σ s) (hc : ∀ W' σ' s' rs vs, Ev W W' → Inv u c W' σ' s' → Reps u W' rs vs → Sim u c (Rep u) (call f (first ++ rs)) (g vs σ') W' s') : Sim u c (Rep u) (callWith pos f first (backTo pos (starEach es c.env)) []) ((fa σ).bind g) W s := by
 have H := ha pos W σ s i
 revert H
 generalize fa σ = r
 intro H
 cases r with
 | bad => trivial
 | ex C m σ1 => exact q1r (q3c hn) (wpAny_mono H (fun _ _ x => x.elim) fun _ _ x => x)
 | ok vs σ1 =>
   show Sim u c (Rep u) _ (g vs σ1) W s
   have key : ∀ rs s1, Got u c (Reps u) W σ1 vs rs s1 → (∀ E : Value → Shared → Prop, ∃ k, (k = .frame ∨ k = .boundFrame ∨ k = .machine) ∧ ∀ (Q : Keeper → Shared → Prop), Q k s1 → wpAny u.M c.A (keeperOf f) Q E s1) ∧ Sim u c (Rep u) (call f (first ++ rs)) (g vs σ1) W s1 :=
     fun rs s1 h_ => h_.k fun W' e i1 r => ⟨fun E => (hk W' σ1 s1 i1).imp fun k h => ⟨h.1, h.2 E⟩, (hc W' σ1 s1 rs vs e i1 r).ev e⟩
   revert key
   generalize g vs σ1 = r2
   intro key
   cases r2 with
   | bad => trivial
   | ok v σ2 => exact q1r (q3c hn) (wpAny_mono H (fun rs s1 x => ⟨(key rs s1 x).1 _, (key rs s1 x).2⟩) fun _ _ x => x.elim)
   | ex C m σ2 => exact q1r (q3c hn) (wpAny_mono H (fun rs s1 x => ⟨(key rs s1 x).1 _, (key rs s1 x).2⟩) fun _ _ x => x.elim)
theorem j4h {x : Str} {np pos : Pos} {es : List Expr} {f : Value} {w : V} {fa : St → Res (List V)} {g : List V → St → Res V} (hx : SE u c (.Name x np) (fun σ => .ok w σ)) (hw : ∀ W r, Rep u W r w → r = f)
   (ha : SEs u c es fa) (hn : (starEach es c.env).all (!·.1) = true) (hk : Keeps u c f) (hc : SC u c f [] g) : SE u c (.Call (.Name x np) es [] pos) (fun σ => (fa σ).bind g) := fun W σ s i => by
 rw [arm_eval_Call_Name']
 show Sim u c (Rep u) (eval (.Name x np) c.env >>= fun f => callWith pos f [] (backTo pos (starEach es c.env)) []) _ W s
 refine Sim.bindOk (hx W σ s i) fun r W1 s1 e1 i1 hr => ?_
 rw [hw W1 r hr]
 exact q2o ha hn hk i1 fun W' σ' s' rs vs _ i' hr => hc W' σ' s' rs vs i' hr
theorem q6r {r r' : Value} (h : Rep u W r (.val r')) : r = r' := h.vl
theorem keeps_fn (uo : u.Ok) {f : Addr} {o : Obj} {fd : FuncData} (ho : u.B.get? f = some o) (hd : o.data = .func fd) : Keeps u c (.ref f) := fun W σ s i => by
 refine ⟨.frame, .inl rfl, fun E Q h => ?_⟩
 unfold keeperOf
 refine wpAny_bind (wpAny_load (i.F.keep _ _ ho) ?_)
 rw [hd]
 exact wpAny_pure h
theorem q2c {id : String} : Keeps u c (.builtin id) := fun W σ s i => ⟨.machine, .inr (.inr rfl), fun E Q h => by unfold keeperOf; exact wpAny_pure h⟩
theorem j2v {id : String} : Keeps u c (.type id) := fun W σ s i => ⟨.machine, .inr (.inr rfl), fun E Q h => by unfold keeperOf; exact wpAny_pure h⟩
noncomputable abbrev Fn := List V → List AO → Res V
noncomputable def q1g (σ : St) : Res V → Res V
 | .ok v σ' => .ok v { σ with hp := σ'.hp }
 | .ex C m σ' => .ex C m { σ with hp := σ'.hp }
 | .bad => .bad
noncomputable def CallOk (u : U) (f : Value) (n : Nat) (fn : Fn) : Prop := ∀ (c : Cx), c.Ok → n ≤ c.room → SC u c f [] (fun vs σ => q1g σ (fn vs σ.hp))
theorem se_fn (uo : u.Ok) (ok : c.Ok) {x : Str} {np pos : Pos} {es : List Expr} {f : Addr} {o : Obj} {fd : FuncData} {n : Nat} {fn : Fn} {fa : St → Res (List V)} (H : CallOk u (.ref f) n fn) (hr : n ≤ c.room)
   (hx : SE u c (.Name x np) (fun σ => .ok (.val (.ref f)) σ)) (ho : u.B.get? f = some o) (hd : o.data = .func fd)
   (ha : SEs u c es fa) (hn : (starEach es c.env).all (!·.1) = true) : SE u c (.Call (.Name x np) es [] pos) (fun σ => (fa σ).bind fun vs σ => q1g σ (fn vs σ.hp)) :=
 j4h hx (fun _ _ h => q6r h) ha hn (keeps_fn uo ho hd) (H c ok hr)
end
section
variable {u : U} {c : Cx} {W : Wd} {σ : St} {s : Shared}
mutual
noncomputable def below (n : Nat) : V → Bool
 | .obj i => decide (i < n)
 | .tup l => belows n l
 | .lst l => belows n l
 | .ins _ fs => belowF n fs
 | .none => true
 | .bool _ => true
 | .int _ => true
 | .str _ => true
 | .val _ => true
 | .fn _ cl => cl.all fun p => decide (p.2 < n)
noncomputable def belows (n : Nat) : List V → Bool
 | [] => true
 | v :: l => below n v && belows n l
noncomputable def belowF (n : Nat) : List (Str × V) → Bool
 | [] => true
 | (_, v) :: l => below n v && belowF n l
end
noncomputable def q0b (n : Nat) : AO → Bool
 | .lst l => belows n l
 | .ins _ fs => belowF n fs
 | .cell v => below n v
 | .cell0 => true
structure Cut (W W' : Wd) (n : Nat) : Prop where
 fz : ∀ p ∈ W.fz, p ∈ W'.fz
 ad : ∀ i, i < n → W'.adr[i]? = W.adr[i]?
theorem Has.cut {W W' : Wd} {n : Nat} {a : Addr} {o : Obj} (e : Cut W W' n) (h : Has u W a o) : Has u W' a o := h.imp (e.fz _) id
section
variable {W W' : Wd} {n : Nat}
theorem Rep.cut (e : Cut W W' n) {r : Value} {v : V} (q : Mi.below n v = true) (h : Rep u W r v) : Rep u W' r v :=
 Rep.rec (motive_1 := fun r v _ => Mi.below n v = true → Rep u W' r v) (motive_2 := fun r v _ => belows n v = true → Reps u W' r v) (motive_3 := fun r v _ => belowF n v = true → RepF u W' r v) (fun _ => .none) (fun b _ => .bool b) (fun i t _ => .int i t) (fun l t _ => .str l t)
   (fun h c d _ r q => .tup (h.cut e) c d (r q)) (fun h c d _ r q => .lst (h.cut e) c d (r q)) (fun h c h' _ r q => .ins (h.cut e) c (h'.cut e) (r q))
   (fun h q => .obj ((e.ad _ (of_decide_eq_true q)).trans h)) (fun r _ => .val r) (fun h d k q w => .fn (h.cut e) d (k.fz fun p h _ => e.fz p h) fun n' j hm => (q n' j hm).imp fun a h => ⟨(e.ad j (of_decide_eq_true (List.all_eq_true.mp w _ hm))).trans h.1, h.2⟩)
   (fun _ => .nil) (fun _ _ a b q => .cons (a (Bool.and_eq_true_iff.mp q).1) (b (Bool.and_eq_true_iff.mp q).2)) (fun _ => .nil) (fun _ _ a b q => .cons (a (Bool.and_eq_true_iff.mp q).1) (b (Bool.and_eq_true_iff.mp q).2)) h q
theorem Reps.cut (e : Cut W W' n) {r : List Value} {v : List V} (q : belows n v = true) (h : Reps u W r v) : Reps u W' r v := by
 induction v generalizing r with
 | nil => cases h.nl; exact .nil
 | cons v l ih => induction h.cs with | mk a b => exact .cons (a.cut e (Bool.and_eq_true_iff.mp q).1) (ih (Bool.and_eq_true_iff.mp q).2 b)
theorem RepF.cut (e : Cut W W' n) {r : List DictEntry} {v : List (Str × V)} (q : belowF n v = true) (h : RepF u W r v) : RepF u W' r v := by
 induction v generalizing r with
 | nil => cases h; exact .nil
 | cons v l ih => cases h with | cons a b => exact .cons (a.cut e (Bool.and_eq_true_iff.mp q).1) (ih (Bool.and_eq_true_iff.mp q).2 b)
theorem RepO.cut (e : Cut W W' n) {a : Addr} {os : List (Addr × Obj)} {x : AO} (q : q0b n x = true) (h : RepO u W a os x) : RepO u W' a os x := by
 cases h with
 | lst r => exact .lst (r.cut e q)
 | ins r => exact .ins (r.cut e q)
 | cell h r => exact .cell h (r.cut e q)
 | cell0 h => exact .cell0 h
theorem Hps.cut (e : Cut W W' n) {hs : List (Addr × List (Addr × Obj))} {xs : List AO} (H : Hps u W hs xs) (k : Nat) (q : (xs.take k).all (q0b n) = true) : Hps u W' (hs.take k) (xs.take k) := by
 induction H generalizing k with
 | nil => rw [List.take_nil, List.take_nil]; exact .nil
 | cons h1 h2 ih =>
   cases k with
   | zero => exact .nil
   | succ k => exact .cons (h1.cut e (Bool.and_eq_true_iff.mp q).1) (ih k (Bool.and_eq_true_iff.mp q).2)
end
theorem Hps.length {hs : List (Addr × List (Addr × Obj))} {xs : List AO} (H : Hps u W hs xs) : hs.length = xs.length := by
 induction H with
 | nil => rfl
 | cons _ _ ih => exact congrArg (· + 1) ih
noncomputable def q9r (b : Bool) (v : V) : Option V := if b then some v else none
theorem q8j {b : Bool} {v w : V} (h : q9r b v = some w) : b = true ∧ v = w := by
 cases b with
 | true => exact ⟨rfl, Option.some.inj h⟩
 | false => exact nn h
noncomputable def outO (n : Nat) (x : AO) : Option V := AO.casesOn x (fun l => q9r (belows n l) (.lst l)) (fun C fs => q9r (belowF n fs) (.ins C fs)) (fun _ => none) none
noncomputable def outV (n : Nat) (H : List AO) (v : V) : Option V := V.casesOn v (some .none) (fun b => some (.bool b)) (fun i => some (.int i)) (fun l => some (.str l)) (fun l => q9r (belows n l) (.tup l)) (fun l => q9r (belows n l) (.lst l)) (fun C fs => q9r (belowF n fs) (.ins C fs))
 (fun k => if k < n then some (.obj k) else H[k]?.bind (outO n)) (fun r => some (.val r)) (fun i cl => q9r (cl.all fun p => decide (p.2 < n)) (.fn i cl))
theorem outV_s {n : Nat} {H : List AO} {v w : V} (h : outV n H v = some w) : (below n v = true ∧ v = w) ∨ ∃ k x, v = .obj k ∧ ¬ k < n ∧ H[k]? = some x ∧ outO n x = some w := by
 cases v with
 | obj k =>
   by_cases hk : k < n
   · exact .inl ⟨decide_eq_true hk, Option.some.inj ((if_pos hk).symm.trans h)⟩
   · obtain ⟨x, h1, h2⟩ := bd_s ((if_neg hk).symm.trans h)
     exact .inr ⟨k, x, rfl, hk, h1, h2⟩
 | tup l => exact .inl (q8j h)
 | lst l => exact .inl (q8j h)
 | ins C fs => exact .inl (q8j h)
 | fn i cl => exact .inl (q8j h)
 | _ => exact .inl ⟨rfl, Option.some.inj h⟩
noncomputable def flV : Fl → V
 | .ret v => v
 | .next => .none
noncomputable def flowV : Flow → Value
 | .ret v => v
 | _ => .none
noncomputable def finR (n : Nat) (r : Res Fl) : Res V := Res.casesOn r (fun fl σ => Option.casesOn (outV n σ.hp (flV fl)) .bad fun v => if (σ.hp.take n).all (q0b n) then .ok v ⟨[], σ.hp.take n⟩ else .bad)
 (fun C m σ => if below n m && (σ.hp.take n).all (q0b n) then .ex C m ⟨[], σ.hp.take n⟩ else .bad) .bad
noncomputable def Wd.back (W W2 : Wd) (n : Nat) (extra : List (Addr × Obj)) : Wd := ⟨W.m, extra ++ W2.fz, W2.hp.take n, W2.tb, W2.fr.tail⟩
theorem q6q {p : Addr × Obj} {ps l : List (Addr × Obj)} (h : TI.SameUp (p :: ps) l) : ∃ sl qs, l = (p.1, { p.2 with slots := sl }) :: qs ∧ TI.SameUp ps qs := by
 cases l with
 | nil => exact h.elim
 | cons q qs =>
   obtain ⟨q1, ⟨sl, q2⟩, q3⟩ := h
   exact ⟨sl, qs, by rw [← q1, ← q2], q3⟩
theorem q5m {α β : Type} {l : List (α × List β)} {n : Nat} {p : β} (h : p ∈ (l.take n).flatMap (·.2)) : p ∈ l.flatMap (·.2) := by
 obtain ⟨x, hx, hp⟩ := List.mem_flatMap.mp h
 exact List.mem_flatMap.mpr ⟨x, List.mem_of_mem_take hx, hp⟩
theorem back_s {W W2 : Wd} {n : Nat} {ex : List (Addr × Obj)} {p : Addr × Obj} {P : Prop} (hp : p ∈ (W.back W2 n ex).led) (h0 : p ∈ ex → P) (h1 : p ∈ W2.fz → P) (h2 : p ∈ (W2.hp.take n).flatMap (·.2) → P) (h3 : p ∈ W2.tb → P) (h4 : p ∈ W2.fr.tail → P) : P :=
 q4n hp (fun h => (List.mem_append.mp h).elim h0 h1) h2 h3 h4
theorem q5e {W W2 : Wd} {n : Nat} {ex : List (Addr × Obj)} (hex : ∀ p ∈ ex, p ∈ W2.led) (p : Addr × Obj) (hp : p ∈ (W.back W2 n ex).led) : p ∈ W2.led :=
 back_s hp (hex p) q0u (fun h => q0k (q1t (q5m h))) (fun h => q0k (q2e h)) fun h => q1b (List.mem_of_mem_tail h)
theorem back_sep {W W2 : Wd} {n : Nat} {ex : List (Addr × Obj)} (S : Sep W2) (hex' : ∀ p ∈ ex, ∀ q, (q ∈ (W2.hp.take n).flatMap (·.2) ∨ q ∈ W2.tb ∨ q ∈ W2.fr) → p.1 ≠ q.1) : Sep (W.back W2 n ex) := by
 have hsl : ((W2.hp.take n).flatMap (·.2)).Sublist (W2.hp.flatMap (·.2)) := by
   have e := congrArg (List.flatMap (·.2)) (List.take_append_drop n W2.hp)
   rw [List.flatMap_append] at e
   exact e ▸ List.sublist_append_left _ _
 refine ⟨S.hh.sublist (hsl.map _), S.tt, S.ff.sublist ((List.tail_sublist _).map _), fun p hp => S.ht p (q5m hp), fun p hp q hq => S.hf p (q5m hp) q (List.mem_of_mem_tail hq), fun p hp q hq => S.tf p hp q (List.mem_of_mem_tail hq), fun p hp q hq => ?_⟩
 refine (List.mem_append.mp hp).elim (fun hp => hex' p hp q ?_) fun hp => S.zm p hp q ?_
 · exact (List.mem_append.mp hq).elim (fun h => (List.mem_append.mp h).imp id .inl) fun h => .inr (.inr (List.mem_of_mem_tail h))
 · exact (List.mem_append.mp hq).elim (fun h => (List.mem_append.mp h).elim (fun h => q1t (q5m h)) fun h => q2e h) fun h => q4m (List.mem_of_mem_tail h)
theorem j1y {c2 : Cx} {W W2 : Wd} {σ2 : St} {s2 : Shared} {oL : Obj} {ex : List (Addr × Obj)} (i : Inv u c W σ s) (oh : s.heap.get? c.env.locals = some oL)
   (i2 : Inv u c2 W2 σ2 s2) (hfz : ∀ p ∈ W.fz, p ∈ W2.fz) (hhp : W.adr <+: W2.adr) (htb : W2.tb.map (·.1) = W.tb.map (·.1)) (hfr : TI.SameUp ((c.env.locals, oL) :: W.fr) W2.fr)
   (hab : (σ2.hp.take W.hp.length).all (q0b W.hp.length) = true) (hex : ∀ p ∈ ex, p ∈ W2.led) (hex' : ∀ p ∈ ex, ∀ q, (q ∈ (W2.hp.take W.hp.length).flatMap (·.2) ∨ q ∈ W2.tb ∨ q ∈ W2.fr) → p.1 ≠ q.1) :
   Ev W (W.back W2 W.hp.length ex) ∧ Cut W2 (W.back W2 W.hp.length ex) W.hp.length ∧ Inv u c (W.back W2 W.hp.length ex) { σ with hp := σ2.hp.take W.hp.length } s2 := by
 have hl : W.hp.length = W.adr.length := by unfold Wd.adr; rw [List.length_map]
 have hadr : (W.back W2 W.hp.length ex).adr = W.adr := by
   obtain ⟨t, ht⟩ := hhp
   show (W2.hp.take W.hp.length).map (·.1) = W.adr
   rw [List.map_take, show W2.hp.map (·.1) = W.adr ++ t from ht.symm, hl, List.take_left]
 obtain ⟨sl, qs, hf2, q3⟩ := q6q hfr
 have ht : (W.back W2 W.hp.length ex).fr = qs := by show W2.fr.tail = qs; rw [hf2]; rfl
 have hq : (c.env.locals, { oL with slots := sl }) ∈ W2.fr := hf2 ▸ .head _
 have S := i2.ap.sep
 have ev : Ev W (W.back W2 W.hp.length ex) := ⟨fun p hp => List.mem_append_right _ (hfz p hp), hadr ▸ List.prefix_refl _, htb, ht ▸ q3⟩
 have cut : Cut W2 (W.back W2 W.hp.length ex) W.hp.length := ⟨fun p hp => List.mem_append_right _ hp, fun i hi => by
   rw [hadr]
   obtain ⟨t, ht⟩ := hhp
   rw [← ht, List.getElem?_append_left (hl ▸ hi)]⟩
 have ndL : ∀ p ∈ (W.back W2 W.hp.length ex).led, p.1 ≠ c.env.locals := fun p hp => back_s hp (fun hp => hex' p hp _ (.inr (.inr hq))) (fun hp => S.zm p hp _ (q4m hq)) (fun hp => S.hf p (q5m hp) _ hq) (fun hp => S.tf p hp _ hq) fun hp e => by
   have n := S.ff
   rw [hf2] at n hp
   have hp : p ∈ qs := hp
   have z := q2f hp
   rw [e] at z
   exact (List.nodup_cons.mp n).1 z
 refine ⟨ev, cut, ⟨⟨?_, i2.F.keep, i.F.above⟩, fun p hp => ⟨(i2.N p (q5e hex p hp)).1, ndL p hp, (i2.N p (q5e hex p hp)).2.2⟩, (back_sep S hex').apart, i.loc.ev ev rfl, i2.hp.cut cut _ hab, fun p hp => (i2.tb p hp).fz fun p h _ => cut.fz p h, fun e he => ?_, fun p hp => i2.dic p (List.mem_of_mem_tail hp), i2.gens, i2.os⟩⟩
 · obtain ⟨o, es, ep, h1, h2, r⟩ := i.F.ns
   cases Option.some.inj (oh.symm.trans h1)
   exact ⟨_, es, ep, (i2.N _ (q1b hq)).1, h2, r⟩
 · obtain ⟨a, L, b, d⟩ := i.frs e he
   exact ⟨a, L, b, ht ▸ q8x q3 ▸ d⟩
end
section
variable {u : U} {c : Cx} {W : Wd} {σ : St} {s : Shared}
structure Le (W W' : Wd) : Prop where
 fz : ∀ p ∈ W.fz, p ∈ W'.fz
 ad : ∀ (i : Nat) (a : Addr), W.adr[i]? = some a → W'.adr[i]? = some a
theorem Le.sub {W W' : Wd} (e : Le W W') : Sub W W' := ⟨fun p h _ => e.fz p h, e.ad⟩
theorem Rep.le {W W' : Wd} (e : Le W W') {r : Value} {v : V} (h : Rep u W r v) : Rep u W' r v := h.sub e.sub
theorem q8y {α : Type} {y k : Str} {w : α} {l : List (Str × α)} : ((k, w) :: l).lookup y = if y = k then some w else l.lookup y := by
 rw [List.lookup_cons]
 by_cases h : y = k
 · rw [if_pos h, beq_iff_eq.mpr h]
 · rw [if_neg h, beq_eq_false_iff_ne.mpr h]
theorem lookup_no {α : Type} {y : Str} {l : List (Str × α)} (h : ∀ p ∈ l, p.1 ≠ y) : l.lookup y = none := List.lookup_eq_none_iff.mpr fun p hp => bne_iff_ne.mpr (h p hp).symm
theorem bind_lookup (xs : List String) (rs : List Value) (vs : List V) (H : Reps u W rs vs) (nd : xs.Nodup) (x : String) (v : V) (h : (xs.zip vs).lookup x = some v) :
   ∃ r, ((xs.map Str.ofString).zip rs).reverse.lookup (Str.ofString x) = some r ∧ Rep u W r v := by
 induction xs generalizing rs vs with
 | nil => exact nn h
 | cons y xs ih =>
   cases vs with
   | nil => exact nn h
   | cons v' vs =>
     induction H.cs with
     | mk a b =>
       obtain ⟨n1, n2⟩ := List.nodup_cons.mp nd
       rw [List.zip_cons_cons, lookup_cons] at h
       rw [List.map_cons, List.zip_cons_cons, List.reverse_cons, List.lookup_append]
       by_cases hx : x = y
       · subst hx
         rw [if_pos rfl] at h
         refine ⟨_, ?_, Option.some.inj h ▸ a⟩
         rw [lookup_no fun p hp e => ?_]
         · exact q8y.trans (if_pos rfl)
         · obtain ⟨w, hw, e2⟩ := List.mem_map.mp (List.of_mem_zip (List.mem_reverse.mp hp)).1
           exact n1 (q2q (e2.trans e) ▸ hw)
       · rw [if_neg hx] at h
         obtain ⟨r', q1, q2⟩ := ih _ _ b n2 h
         exact ⟨r', by rw [q1]; rfl, q2⟩
noncomputable def q0y (c : Cx) (env : Env) : Cx := ⟨env, c.A.deeper env, env :: c.fenvs, c.room - 1⟩
theorem q6w (ok : c.Ok) {env : Env} (h1 : env.scope.kind = .function) (h2 : env.globals = mainGlobals) (h3 : env.builtins = builtinsNs) (hr : 2 ≤ c.room) : (q0y c env).Ok := by
 have hd := ok.depth
 have hu := ok.units
 refine ⟨h1, h2, h3, Around.frames_deeper ok.frames, ok.handled, ?_, ?_, ?_⟩
 · show c.A.depth + 1 + (c.room - 1) < recursionLimit; omega
 · show c.A.units + 3 + 10 * (c.room - 1) < cLine; omega
 · show 1 ≤ c.room - 1; omega
theorem q7q (i : Inv u c W σ s) {oL : Obj} (hL : s.heap.get? c.env.locals = some oL) {c2 : Cx} (hel : c2.env.locals = s.heap.objs.size) (hfe : ∀ e ∈ c2.fenvs, e ∈ c.fenvs ∨ (e.scope.kind ≠ .module ∧ e.frame = some c2.env.locals)) {m : Str → Option Value} {h₀ : Heap} {tk : Nat} {loc : List (String × V)}
   (hns : h₀.Ns s.heap.objs.size m) (hk : ∀ b o, s.heap.get? b = some o → h₀.get? b = some o) (hloc : ∀ x v, loc.lookup x = some v → NameOk u c2 ⟨m, W.fz, W.hp, W.tb, (c.env.locals, oL) :: W.fr⟩ (Str.ofString x) v) :
   Inv u c2 ⟨m, W.fz, W.hp, W.tb, (c.env.locals, oL) :: W.fr⟩ ⟨loc, σ.hp⟩ { s with heap := h₀, toks := tk } := by
 have hLs : c.env.locals < s.heap.objs.size := Heap.lt_size hL
 have hle : Sub W ⟨m, W.fz, W.hp, W.tb, (c.env.locals, oL) :: W.fr⟩ := ⟨fun _ h _ => h, fun _ _ h => h⟩
 have hnl : ∀ p ∈ W.led, p.1 ≠ c.env.locals := fun p hp => (i.N p hp).2.1
 have S := i.ap.sep
 have old : ∀ p ∈ W.led, h₀.get? p.1 = some p.2 ∧ p.1 ≠ s.heap.objs.size ∧ u.B.get? p.1 = none := fun p hp => ⟨hk _ _ (i.N p hp).1, Nat.ne_of_lt (i.lt hp), (i.N p hp).2.2⟩
 refine ⟨⟨hel ▸ hns, fun b o e => hk b o (i.F.keep b o e), hel ▸ Nat.le_trans i.F.above (Nat.le_of_lt hLs)⟩, fun p hp => hel ▸ q4n hp (fun h => old p (q0u h)) (fun h => old p (q0k (q1t h))) (fun h => old p (q0k (q2e h))) fun h => ?_,
   Sep.apart ⟨S.hh, S.tt, List.nodup_cons.mpr ⟨q4e fun p hp => hnl p (q1b hp), S.ff⟩, S.ht, fun p hp q hq => ?_, fun p hp q hq => ?_, fun p hp q hq => ?_⟩, hloc, i.hp.sub hle, (fun p hp => (i.tb p hp).sub hle), fun e he => ?_, fun p hp => ?_, i.gens, i.os⟩
 · rcases List.mem_cons.mp h with rfl | h
   · exact ⟨hk _ _ hL, Nat.ne_of_lt hLs, Heap.get?_none_of_le i.F.above⟩
   · exact old p (q1b h)
 · rcases List.mem_cons.mp hq with rfl | hq
   · exact hnl p (q0k (q1t hp))
   · exact S.hf p hp q hq
 · rcases List.mem_cons.mp hq with rfl | hq
   · exact hnl p (q0k (q2e hp))
   · exact S.tf p hp q hq
 · refine (List.mem_append.mp hq).elim (fun h => S.zm p hp q (List.mem_append_left _ h)) fun h => ?_
   rcases List.mem_cons.mp h with rfl | h
   · exact hnl p (q0u hp)
   · exact S.zm p hp q (q4m h)
 · rcases hfe e he with he | h
   · obtain ⟨a, L, b, d⟩ := i.frs e he
     exact ⟨a, L, b, .inr (d.elim (fun d => d ▸ .head _) fun d => .tail _ d)⟩
   · exact ⟨h.1, _, h.2, .inl rfl⟩
 · rcases List.mem_cons.mp hp with rfl | hp
   · obtain ⟨o, es, ep, h1, h2, _⟩ := i.F.ns
     cases Option.some.inj (hL.symm.trans h1)
     exact ⟨es, ep, h2⟩
   · exact i.dic p hp
theorem finR_s {n : Nat} {fl : Fl} {σ σ' : St} {v : V} (h : finR n (.ok fl σ) = .ok v σ') : outV n σ.hp (flV fl) = some v ∧ (σ.hp.take n).all (q0b n) = true ∧ σ' = ⟨[], σ.hp.take n⟩ := by
 change Option.casesOn (motive := fun _ => Res V) (outV n σ.hp (flV fl)) _ _ = _ at h
 cases ho : outV n σ.hp (flV fl) with
 | none => rw [ho] at h; cases h
 | some w =>
   rw [ho] at h
   by_cases hb : (σ.hp.take n).all (q0b n) = true
   · cases (if_pos hb).symm.trans h
     exact ⟨rfl, hb, rfl⟩
   · cases (if_neg hb).symm.trans h
theorem finR_xs {n : Nat} {C C' : Addr} {w w' : V} {σ σ' : St} (h : finR n (.ex C w σ) = .ex C' w' σ') : below n w = true ∧ (σ.hp.take n).all (q0b n) = true ∧ C' = C ∧ w' = w ∧ σ' = ⟨[], σ.hp.take n⟩ := by
 by_cases hb : (below n w && (σ.hp.take n).all (q0b n)) = true
 · cases (if_pos hb).symm.trans h
   exact ⟨(Bool.and_eq_true_iff.mp hb).1, (Bool.and_eq_true_iff.mp hb).2, rfl, rfl, rfl⟩
 · cases (if_neg hb).symm.trans h
inductive Left_ (u : U) (c : Cx) (W W2 : Wd) (σ : St) (r : Value) (v : V) (s : Shared) : Prop where
 | mk (W' : Wd) (e : Ev W W') (i : Inv u c W' σ s) (r : Rep u W' r v) (l : ∀ p ∈ W'.led, p ∈ W2.led)
theorem finR_ok' (i : Inv u c W σ s) {oL : Obj} (hL : s.heap.get? c.env.locals = some oL) {c2 : Cx} {m : Str → Option Value} {W2 : Wd} {σ2 : St} {s2 : Shared} {f : Flow} {fl : Fl}
   (ev : Ev ⟨m, W.fz, W.hp, W.tb, (c.env.locals, oL) :: W.fr⟩ W2) (i2 : Inv u c2 W2 σ2 s2) (hf : q2m u W2 f fl) {v : V} {σ' : St} (h : finR σ.hp.length (.ok fl σ2) = .ok v σ') :
   Left_ u c W W2 { σ with hp := σ'.hp } (flowV f) v s2 := by
 rw [← i.hp.length] at h
 obtain ⟨ho, hab, rfl⟩ := finR_s h
 have hr : Rep u W2 (flowV f) (flV fl) := by
   cases hf with
   | next => exact .none
   | ret hr => exact hr
 clear h hf
 generalize flowV f = r at hr ⊢
 generalize flV fl = w at hr ho
 rcases outV_s ho with ⟨hb, rfl⟩ | ⟨k, x, rfl, hk, hx, ho2⟩
 · obtain ⟨b1, b2, b3⟩ := j1y (ex := []) i hL i2 ev.fz ev.hp ev.tb ev.fr hab (fun _ h => nomatch h) (fun _ h => nomatch h)
   exact ⟨_, b1, b3, hr.cut b2 hb, q5e fun _ h => nomatch h⟩
 induction hr.ob with
 | @mk a ha =>
   obtain ⟨os, q1, q2⟩ := i2.obj ha hx
   have S := i2.ap.sep
   have hin : ∀ p ∈ os, p ∈ W2.hp.flatMap (·.2) := fun p hp => List.mem_flatMap.mpr ⟨_, List.mem_of_getElem? q1, hp⟩
   have hexl : ∀ p ∈ os, p ∈ W2.led := fun p hp => q2t q1 hp
   have hexo : ∀ p ∈ os, ∀ q, (q ∈ (W2.hp.take W.hp.length).flatMap (·.2) ∨ q ∈ W2.tb ∨ q ∈ W2.fr) → p.1 ≠ q.1 := fun p hp q hq => by
     rcases hq with hq | hq | hq
     · have n1 := S.hh
       rw [← List.take_append_drop W.hp.length W2.hp, List.flatMap_append] at n1
       have hm : (a, os) ∈ W2.hp.drop W.hp.length := List.mem_of_getElem? (i := k - W.hp.length) (by rw [List.getElem?_drop, ← q1, Nat.add_sub_of_le (Nat.le_of_not_lt hk)])
       exact ((j2r n1).2.2 q hq p (List.mem_flatMap.mpr ⟨_, hm, hp⟩)).symm
     · exact S.ht p (hin p hp) q hq
     · exact S.hf p (hin p hp) q hq
   obtain ⟨b1, b2, b3⟩ := j1y (ex := os) i hL i2 ev.fz ev.hp ev.tb ev.fr hab hexl hexo
   have hfz : ∀ p ∈ os, p ∈ (W.back W2 W.hp.length os).fz := fun p hp => List.mem_append_left _ hp
   cases q2 with
   | lst q3 =>
     obtain ⟨hb, rfl⟩ := q8j ho2
     exact ⟨_, b1, b3, .lst (.inl (hfz _ (.head _))) rfl rfl (q3.cut b2 hb), q5e hexl⟩
   | ins q3 =>
     obtain ⟨hb, rfl⟩ := q8j ho2
     exact ⟨_, b1, b3, .ins (.inl (hfz _ (.head _))) rfl (.inl (hfz _ (.tail _ (.head _)))) (q3.cut b2 hb), q5e hexl⟩
   | cell _ _ => exact nn ho2
   | cell0 _ => exact nn ho2
theorem finR_ok (i : Inv u c W σ s) {oL : Obj} (hL : s.heap.get? c.env.locals = some oL) {c2 : Cx} {m : Str → Option Value} {W2 : Wd} {σ2 : St} {s2 : Shared} {f : Flow} {fl : Fl}
   (ev : Ev ⟨m, W.fz, W.hp, W.tb, (c.env.locals, oL) :: W.fr⟩ W2) (i2 : Inv u c2 W2 σ2 s2) (hf : q2m u W2 f fl) {v : V} {σ' : St} (h : finR σ.hp.length (.ok fl σ2) = .ok v σ') :
   Got u c (Rep u) W { σ with hp := σ'.hp } v (flowV f) s2 := by
 obtain ⟨W', a, b, d, _⟩ := finR_ok' i hL ev i2 hf h
 exact ⟨W', a, b, d⟩
theorem finR_ex (i : Inv u c W σ s) {oL : Obj} (hL : s.heap.get? c.env.locals = some oL) {env : Env} {m : Str → Option Value} {W2 : Wd} {σ2 : St} {s2 : Shared} {e : Value} {C : Addr} {w : V}
   (ev : Ev ⟨m, W.fz, W.hp, W.tb, (c.env.locals, oL) :: W.fr⟩ W2) (R : Raised u (q0y c env) W2 σ2 true e C w s2) {C' : Addr} {w' : V} {σ' : St} (h : finR σ.hp.length (.ex C w σ2) = .ex C' w' σ') :
   Threw u c W { σ with hp := σ'.hp } false C' w' e s2 := by
 rw [← i.hp.length] at h
 obtain ⟨hb, hab, rfl, rfl, rfl⟩ := finR_xs h
 obtain ⟨i2, ea, rfl, oe, vs, h1, h2, h3, h4, hpl, ⟨de, e, t, n, r, d, fz, rep⟩, h6, h7, h8⟩ := R
 obtain ⟨b1, b2, b3⟩ := j1y (ex := []) i hL i2 ev.fz ev.hp ev.tb ev.fr hab (fun _ h => nomatch h) (fun _ h => nomatch h)
 obtain ⟨sl, qs, hf2, _⟩ := q6q ev.fr
 have hLin : c.env.locals ∈ W2.led.map (·.1) := q2f (p := (c.env.locals, { oL with slots := sl })) (q1b (hf2 ▸ .head _))
 have hsub : ∀ a, a ∉ W2.led.map (·.1) → a ∉ (W.back W2 W.hp.length []).led.map (·.1) := fun a ha => q4e fun p hp e => ha (e ▸ q2f (q5e (ex := []) (fun _ h => nomatch h) p hp))
 refine ⟨_, b1, b3, ea, rfl, oe, vs, h1, h2, h3, ?_, hpl, ⟨de, e, t, n, r, d, b2.fz _ fz, rep.cut b2 hb⟩, h6, hsub _ h7, fun z => h7 (z ▸ hLin)⟩
 cases h4 with
 | inl z => cases z
 | inr T oT ts t1 t2 t3 t4 t5 t6 t7 t8 => exact .inr T oT ts t1 t2 t3 t4 t5 t6 (fun z => t8 (z ▸ hLin)) (hsub _ t8)
end
section
variable {u : U} {c : Cx} {W : Wd} {σ : St} {s : Shared}
noncomputable def j3m (u : U) (c : Cx) (W : Wd) (r : Res V) (x : Value) (s' : Shared) : Prop := Res.casesOn r (fun v σ' => Got u c (Rep u) W σ' v x s') (fun _ _ _ => False) True
noncomputable def q9j (u : U) (c : Cx) (W : Wd) (r : Res V) (e : Value) (s' : Shared) : Prop := Res.casesOn r (fun _ _ => False) (fun C m σ' => Threw u c W σ' false C m e s') True
theorem liftR_nb {r : Res V} (h : q1g σ r ≠ .bad) : r ≠ .bad := fun e => h (by rw [e]; rfl)
theorem j5i {n : Nat} {fl : Fl} (h : finR n (.ok fl σ) ≠ .bad) : ∃ v σ', finR n (.ok fl σ) = .ok v σ' := by
 change Option.casesOn (motive := fun _ => Res V) (outV n σ.hp (flV fl)) _ _ ≠ _ at h
 show ∃ v σ', Option.casesOn (motive := fun _ => Res V) (outV n σ.hp (flV fl)) _ _ = _
 revert h
 cases outV n σ.hp (flV fl) with
 | none => exact fun h => absurd rfl h
 | some w =>
   by_cases hb : (σ.hp.take n).all (q0b n) = true
   · exact fun _ => ⟨_, _, if_pos hb⟩
   · exact fun h => absurd (if_neg hb) h
theorem finR_exc {n : Nat} {C : Addr} {w : V} (h : finR n (.ex C w σ) ≠ .bad) : ∃ C' w' σ', finR n (.ex C w σ) = .ex C' w' σ' := by
 by_cases hb : (below n w && (σ.hp.take n).all (q0b n)) = true
 · exact ⟨_, _, _, if_pos hb⟩
 · exact absurd (if_neg hb) h
theorem j3i (i : Inv u c W σ s) {oL : Obj} (hL : s.heap.get? c.env.locals = some oL) {env : Env} (hfn : (q0y c env).Fn) (ok' : (q0y c env).Ok) {m : Str → Option Value} {s1 : Shared} {body : List Stmt} {den : St → Res Fl}
   {W1 : Wd} {σ1 : St} (ev1 : Ev ⟨m, W.fz, W.hp, W.tb, (c.env.locals, oL) :: W.fr⟩ W1) (H : Sim u (q0y c env) (q2m u) (execs body env) (den σ1) W1 s1) {r : Res V} (hr : finR σ.hp.length (den σ1) = r) (hnb : r ≠ .bad) :
   wpAny u.M (c.A.deeper env) (execs body env) (fun f s' => j3m u c W (q1g σ r) (flowV f) s')
     (fun e s' => wpAny u.M (c.A.deeper env) (leaving env e) (fun _ s'' => q9j u c W (q1g σ r) e s'') (fun e' s'' => q9j u c W (q1g σ r) e' s'') s') s1 := by
 refine H.use (fun fl σ2 h f s' G => ?_) (fun C w σ2 h e s' T => ?_) fun h => hnb (by rw [← hr, h]; rfl)
 · rw [h] at hr
   obtain ⟨v, σ', q⟩ := j5i (hr ▸ hnb)
   cases hr.symm.trans q
   exact G.k fun W2 ev i2 hf => finR_ok i hL (ev1.trans ev) i2 hf q
 · rw [h] at hr
   obtain ⟨C', w', σ', q⟩ := finR_exc (hr ▸ hnb)
   cases hr.symm.trans q
   exact T.k fun W2 ev R => wpAny_mono (j2u hfn ok' R) (fun _ s'' h => h.k fun W3 e3 R3 => finR_ex i hL (ev1.trans (ev.trans e3)) R3 q) fun _ _ x => x
theorem q1y {sc : Scope} {x : Str} {k : Option NameKind} (h : c.env.scope = sc) (e : sc.names.lookup x = k) : c.env.kindOf x = k := by
 unfold Env.kindOf; rw [h]; exact e
noncomputable def backR (Q : Value → Shared → Prop) (E : Value → Shared → Prop) : Result → Shared → Prop := fun r s' => match r with
 | .ok (.ret v) => Q v s'
 | .ok _ => False
 | .error e => E e s'
noncomputable def SimC (u : U) (c : Cx) (t : Code) (r : Res V) (W : Wd) (s : Shared) : Prop := r ≠ .bad → codeAny u.M c.A t (backR (j3m u c W r) (q9j u c W r)) s
noncomputable def CodeOk (u : U) (f : Value) (n : Nat) (fn : Fn) : Prop := ∀ (c : Cx), c.Ok → n ≤ c.room → ∀ W σ s rs vs, Inv u c W σ s → Reps u W rs vs → SimC u c (.call f ⟨rs, []⟩) (q1g σ (fn vs σ.hp)) W s
theorem CodeOk.call {f : Value} {n : Nat} {fn : Fn} (h : CodeOk u f n fn) : CallOk u f n fn := fun c ok hr W σ s rs vs i hrs => by
 have := h c ok hr W σ s rs vs i hrs
 rw [List.nil_append]
 revert this
 show SimC u c (.call f ⟨rs, []⟩) (q1g σ (fn vs σ.hp)) W s → Sim u c (Rep u) (PySem.call f rs) (q1g σ (fn vs σ.hp)) W s
 generalize q1g σ (fn vs σ.hp) = r
 cases r with
 | bad => exact fun _ => trivial
 | ok v σ' => exact fun h => wpAny_call (h nofun)
 | ex C m σ' => exact fun h => wpAny_call (h nofun)
noncomputable def SBb (u : U) (c : Cx) (b : Prop) (body : List Stmt) (f : St → Res Fl) : Prop := ∀ W σ s, Inv u c W σ s → (b → 0 < s.toks) → Sim u c (q2m u) (execs body c.env) (f σ) W s
noncomputable def Ends (u : U) (fin : Nat → Res Fl → Res V) : Prop := ∀ (c : Cx) (W : Wd) (σ : St) (s : Shared) (oL : Obj) (env : Env) (m : Str → Option Value) (loc : List (String × V)) (s1 : Shared) (body : List Stmt) (den : St → Res Fl), Inv u c W σ s → s.heap.get? c.env.locals = some oL → (q0y c env).Fn → (q0y c env).Ok →
 Sim u (q0y c env) (q2m u) (execs body env) (den ⟨loc, σ.hp⟩) ⟨m, W.fz, W.hp, W.tb, (c.env.locals, oL) :: W.fr⟩ s1 → fin σ.hp.length (den ⟨loc, σ.hp⟩) ≠ .bad →
 wpAny u.M (c.A.deeper env) (execs body env) (fun f s' => j3m u c W (q1g σ (fin σ.hp.length (den ⟨loc, σ.hp⟩))) (flowV f) s')
   (fun e s' => wpAny u.M (c.A.deeper env) (leaving env e) (fun _ s'' => q9j u c W (q1g σ (fin σ.hp.length (den ⟨loc, σ.hp⟩))) e s'') (fun e' s'' => q9j u c W (q1g σ (fin σ.hp.length (den ⟨loc, σ.hp⟩))) e' s'') s') s1
theorem j8g : Ends u finR := fun c W σ s oL env m loc s1 body den i hL hfn ok' H hnb => j3i i hL hfn ok' (.refl _) H rfl hnb
theorem q8q (uo : u.Ok) {fin : Nat → Res Fl → Res V} (F : Ends u fin) (b : Prop) {fa : Addr} {fo : Obj} {fd : FuncData} {body : List Stmt} {k : Nat} {xs : List String} {ds : List Value} {dvs : List V} {n : Nat} {den : St → Res Fl}
   (ho : u.B.get? fa = some fo) (hd : fo.data = .func fd) (hb : fd.body = .stmts body) (hcd : u.B.CodeRec fd.code fd.qualname)
   (hco : fd.scope.isCoroutine = false) (hgen : fd.scope.isGenerator = false) (hk : fd.scope.kind = .function) (hgl : fd.globals = mainGlobals) (hbl : fd.builtins = builtinsNs)
   (hcell : ∀ x ∈ fd.scope.names, x.2 ≠ .cell)
   (hbind : ∀ (s : Shared), u.B.StaysIn s.heap → ∀ rs : List Value, rs.length = k → BindsTo s fd ⟨rs, []⟩ ((xs.map Str.ofString).zip (rs ++ ds)))
   (hds : ∀ W, Reps u W ds dvs) (hnd : xs.Nodup) (hloc : ∀ x ∈ xs, fd.scope.names.lookup (Str.ofString x) = some .local) (hn : 1 ≤ n)
   (H : ∀ c : Cx, c.Ok → c.Fn → n ≤ c.room → c.env.scope = fd.scope → c.env.code = fd.code → c.env.func = some fa → c.env.qual = fd.qualname ++ ".<locals>." → SBb u c b body den) (hb0 : b → 0 < k ∧ k = xs.length) :
   CodeOk u (.ref fa) (n + 1) (fun vs H => if vs.length = k then fin H.length (den ⟨xs.zip (vs ++ dvs), H⟩) else .bad) := by
 intro c ok hroom W σ s rs vs i hr
 show SimC u c _ (q1g σ (if vs.length = k then fin σ.hp.length (den ⟨xs.zip (vs ++ dvs), σ.hp⟩) else .bad)) W s
 by_cases hlen : vs.length = k
 case neg => rw [if_neg hlen]; exact fun h => absurd rfl h
 rw [if_pos hlen]
 intro hnb
 obtain ⟨oL, es, ep, hL, hLd, _⟩ := i.F.ns
 have hkind : ∀ x ∈ (xs.map Str.ofString).zip (rs ++ ds), fd.scope.names.lookup x.1 = some .local := fun x hx => by
   obtain ⟨y, hy, e⟩ := List.mem_map.mp (List.of_mem_zip hx).1
   exact e ▸ hloc y hy
 have room : c.A.depth < recursionLimit := Nat.lt_of_le_of_lt (Nat.le_add_right _ _) ok.depth
 refine codeAny_call_def room (i.F.keep _ _ ho) hd (uo.T.nolimit.keeps i.F.keep) (hcd.keeps i.F.keep) hb (hbind s i.F.keep rs (hr.length.trans hlen)) hcell hkind (fun h₀ hns hkeep => ?_) hco hgen hk
 have ok' : (q0y c (callEnv fd s.heap.objs.size fa)).Ok := q6w ok hk hgl hbl (by omega)
 have hfn : (q0y c (callEnv fd s.heap.objs.size fa)).Fn := ⟨c.fenvs, rfl, rfl⟩
 have i1 := q7q (tk := s.toks + ((xs.map Str.ofString).zip (rs ++ ds)).length) (loc := xs.zip (vs ++ dvs)) (c2 := q0y c (callEnv fd s.heap.objs.size fa)) i hL rfl (fun e he => by
   rcases List.mem_cons.mp he with rfl | he
   · exact .inr ⟨fun z => (nomatch hk.symm.trans z), rfl⟩
   · exact .inl he) hns hkeep (fun x v hx => by
   have hle : Sub W ⟨fun x => ((xs.map Str.ofString).zip (rs ++ ds)).reverse.lookup x, W.fz, W.hp, W.tb, (c.env.locals, oL) :: W.fr⟩ := ⟨fun _ h _ => h, fun _ _ h => h⟩
   obtain ⟨r, q1, q2⟩ := bind_lookup xs (rs ++ ds) (vs ++ dvs) (hr.append (hds W)) hnd x v hx
   have hx' : x ∈ xs := by
     obtain ⟨l1, l2, h1, h2⟩ := List.lookup_eq_some_iff.mp hx
     exact (List.of_mem_zip (show (x, v) ∈ xs.zip (vs ++ dvs) from h1 ▸ List.mem_append_right _ (.head _))).1
   refine ⟨fun _ => ⟨r, q1, q2.sub hle⟩, fun hk' => ?_⟩
   exact hk'.elim (fun h => nomatch (hloc x hx').symm.trans h) fun h => nomatch (hloc x hx').symm.trans h)
 refine wpAny_mono (F _ _ _ _ _ _ _ _ _ _ _ i hL hfn ok' (H _ ok' hfn (by show n ≤ c.room - 1; omega) rfl rfl rfl rfl _ _ _ i1 fun q => ?_) (liftR_nb hnb)) (fun f s' hq => by cases f <;> exact hq) fun _ _ x => x
 obtain ⟨q1, q2⟩ := hb0 q
 have := hr.length
 show 0 < s.toks + ((xs.map Str.ofString).zip (rs ++ ds)).length
 rw [List.length_zip, List.length_map, List.length_append]
 omega
theorem j3d (uo : u.Ok) {fa : Addr} {fo : Obj} {fd : FuncData} {body : List Stmt} {k : Nat} {xs : List String} {ds : List Value} {dvs : List V} {n : Nat} {den : St → Res Fl}
   (ho : u.B.get? fa = some fo) (hd : fo.data = .func fd) (hb : fd.body = .stmts body) (hcd : u.B.CodeRec fd.code fd.qualname)
   (hco : fd.scope.isCoroutine = false) (hgen : fd.scope.isGenerator = false) (hk : fd.scope.kind = .function) (hgl : fd.globals = mainGlobals) (hbl : fd.builtins = builtinsNs)
   (hcell : ∀ x ∈ fd.scope.names, x.2 ≠ .cell)
   (hbind : ∀ (s : Shared), u.B.StaysIn s.heap → ∀ rs : List Value, rs.length = k → BindsTo s fd ⟨rs, []⟩ ((xs.map Str.ofString).zip (rs ++ ds)))
   (hds : ∀ W, Reps u W ds dvs) (hnd : xs.Nodup) (hloc : ∀ x ∈ xs, fd.scope.names.lookup (Str.ofString x) = some .local) (hn : 1 ≤ n)
   (H : ∀ c : Cx, c.Ok → c.Fn → n ≤ c.room → c.env.scope = fd.scope → c.env.code = fd.code → c.env.func = some fa → c.env.qual = fd.qualname ++ ".<locals>." → SB u c body den) :
   CodeOk u (.ref fa) (n + 1) (fun vs H => if vs.length = k then finR H.length (den ⟨xs.zip (vs ++ dvs), H⟩) else .bad) :=
 q8q uo j8g False ho hd hb hcd hco hgen hk hgl hbl hcell hbind hds hnd hloc hn (fun c a b d e f g h W σ s i _ => H c a b d e f g h W σ s i) nofun
end
section
variable {u : U} {c : Cx} {W : Wd} {σ : St} {s : Shared}
noncomputable def ixOf {α : Type} (k : Int) (l : List α) : Option α := oIf (small k = true) ((seqIndex? k l.length).bind (l[·]?))
noncomputable def q5a (H : List AO) (o i : V) : Option V := oI i fun k => (oS o fun l => (ixOf k l).map fun c => .str [c]).or ((sqOf H o).bind fun l => ixOf k l)
theorem small_bd {k : Int} (h : small k = true) : -(2 ^ 63) ≤ k ∧ k < 2 ^ 63 := by
 have h := of_decide_eq_true h
 constructor <;> omega
theorem item_ok (i : Inv u c W σ s) {value slice : Expr} {x y : Value} {a b v : V} (hx : Rep u W x a) (hy : Rep u W y b) (h : q5a σ.hp a b = some v) (hs : ∀ o i, subscripted slice false o i = operate [o, i] (getItem o i)) :
   Sim u c (Rep u) (subscriptTail value slice x y) (.ok v σ) W s := by
 obtain ⟨k, rfl, h⟩ := oI_s h
 induction hy.it with | mk ty => ?_
 rcases or_s h with h | h
 · obtain ⟨l, rfl, h⟩ := oS_s h
   obtain ⟨cc, h', rfl⟩ := q3p h
   obtain ⟨hk, h'⟩ := q0h h'
   obtain ⟨h1, h2⟩ := small_bd hk
   induction hx.sr with | mk tx => ?_
   refine Sim.value i fun Q hq => tail_any (typeIs_str s _ _) slot_str_getitem.lookup (getItem_str ?_ (c := cc) ?_ (hq _ _ (.str [cc] _))) (hs _ _)
   · rw [Bool.or_eq_false_iff]; exact ⟨decide_eq_false (Int.not_lt.mpr h1), decide_eq_false (Int.not_le.mpr h2)⟩
   · simpa [Str.length] using h'
 · obtain ⟨l, hl, h⟩ := bd_s h
   obtain ⟨hk, h⟩ := q0h h
   obtain ⟨h1, h2⟩ := small_bd hk
   obtain ⟨j, hj, hv⟩ := bd_s h
   rcases sqOf_s hl with rfl | hl
   · induction hx.tp with | mk q1 q2 q3 q4 => ?_
     obtain ⟨r, hr, hr'⟩ := q4.get hv
     exact Sim.value i fun Q hq => item_tupleT ⟨_, q1.get i, q2, _, q3⟩ h1 h2 (q4.length ▸ hj) hr (hq r s.toks hr') (hs _ _)
   · induction q4y i hx hl with | mk L R => ?_
     obtain ⟨r, hr, hr'⟩ := R.get hv
     refine Sim.value i fun Q hq => tail_any L.typeIs slot_list_getitem.lookup ?_ (hs _ _)
     have hq := hq r s.toks hr'
     rw [← List.getElem?_toArray] at hr
     rw [← R.length] at hj
     unfold seqIndex? at hj
     by_cases hk0 : k < 0
     · rw [if_pos hk0] at hj
       obtain ⟨hb, hj⟩ := q0h (k := some _) hj
       obtain ⟨hb, _⟩ := Bool.and_eq_true_iff.mp hb
       have hb := of_decide_eq_true hb
       cases Option.some.inj hj
       exact wpAny_getItem_list_neg L hk0 (by rw [List.size_toArray]; omega) h1 hr hq
     · rw [if_neg hk0] at hj
       obtain ⟨_, hj⟩ := q0h (k := some _) hj
       cases Option.some.inj hj
       exact wpAny_getItem_list L (Int.not_lt.mp hk0) h2 hr hq
theorem se_item {value slice : Expr} {p : Pos} {f g : St → Res V} (hv : SE u c value f) (hi : SE u c slice g) (hs : ∀ o i, subscripted slice false o i = operate [o, i] (getItem o i)) :
   SE u c (.Subscript value slice p) (fun σ => (f σ).bind fun a σ => (g σ).bind fun b σ => ores (q5a σ.hp a b) σ) := fun W σ s i => by
 rw [arm_eval_Subscript]
 refine Sim.bind (t := eval value c.env) (hv W σ s i) fun x a σ1 W1 s1 _ e1 i1 hx => Sim.bind (t := PySem.holding [x] (eval slice c.env)) (Sim.holding (hi W1 σ1 s1 i1)) fun y b σ2 W2 s2 _ e2 i2 hy => Sim.standAt ?_
 exact Sim.ores fun v h => item_ok (value := value) i2 (hx.ev e2) hy h hs
noncomputable def bdOf (d : Nat) (v : V) : Option Nat := V.casesOn v (some d) (fun _ => none) (fun k => oIf (0 ≤ k) (some k.toNat)) (fun _ => none) (fun _ => none) (fun _ => none) (fun _ _ => none) (fun _ => none) (fun _ => none) (fun _ _ => none)
noncomputable def slL {α : Type} (l : List α) (a b : Nat) : List α := (l.take b).drop a
noncomputable def slB {α β : Type} (l : List α) (lo hi : V) (k : List α → β) : Option β := (bdOf 0 lo).bind fun a => (bdOf l.length hi).bind fun b => oIf (l.length ≤ 100000) (some (k (slL l a b)))
noncomputable def slV (H : List AO) (o lo hi : V) : Option V := (oS o fun l => slB l lo hi .str).or ((lsOf H o).bind fun l => slB l lo hi .lst)
theorem slB_s {α β : Type} {l : List α} {lo hi : V} {k : List α → β} {x : β} (h : slB l lo hi k = some x) : ∃ a b, bdOf 0 lo = some a ∧ bdOf l.length hi = some b ∧ l.length ≤ 100000 ∧ x = k (slL l a b) := by
 obtain ⟨a, h1, h⟩ := bd_s h
 obtain ⟨b, h2, h⟩ := bd_s h
 obtain ⟨h3, h⟩ := q0h h
 exact ⟨a, b, h1, h2, h3, (Option.some.inj h).symm⟩
theorem q7t {α : Type} (l : List α) (a k : Nat) : ((List.range k).map (a + ·)).filterMap (l[·]?) = (l.drop a).take k := by
 induction k with
 | zero => rw [List.range_zero, List.map_nil, List.filterMap_nil, List.take_zero]
 | succ k ih =>
   rw [List.range_succ, List.map_append, List.filterMap_append, ih, List.take_add_one, List.getElem?_drop]
   refine congrArg _ ?_
   show List.filterMap (l[·]?) [a + k] = _
   cases h : l[a + k]? with
   | none => exact List.filterMap_cons_none h
   | some x => exact List.filterMap_cons_some h
theorem q4w {α : Type} (l : List α) (a b : Nat) : (l.drop (min a l.length)).take (min b l.length - min a l.length) = slL l a b := by
 refine List.ext_getElem? fun i => ?_
 unfold slL
 rw [List.getElem?_take, List.getElem?_drop, List.getElem?_drop, List.getElem?_take]
 by_cases h : a + i < l.length
 · rw [Nat.min_eq_left (Nat.le_of_lt (Nat.lt_of_le_of_lt (Nat.le_add_right _ _) h))]
   by_cases h2 : a + i < b
   · rw [if_pos h2, if_pos (by omega)]
   · rw [if_neg h2, if_neg (by omega)]
 · rw [List.getElem?_eq_none (i := a + i) (Nat.not_lt.mp h), List.getElem?_eq_none (i := min a l.length + i) ?_, ite_self, ite_self]
   omega
inductive AtB (v : V) : Option (Int × Tok) → Prop where
 | none (h : v = .none) : AtB v none
 | int {i : Int} {t : Tok} (h : v = .int i) : AtB v (some (i, t))
theorem nat_min (a b : Nat) : ((min a b : Nat) : Int) = min (a : Int) (b : Int) := by
 rcases Nat.le_total a b with h | h
 · rw [Nat.min_eq_left h, Int.min_eq_left (Int.ofNat_le.mpr h)]
 · rw [Nat.min_eq_right h, Int.min_eq_right (Int.ofNat_le.mpr h)]
theorem clip_is {n d : Nat} {x : V} {k : Nat} {o : Option (Int × Tok)} (h : bdOf d x = some k) (ho : AtB x o) (hd : d ≤ n) :
   (match o.map (·.1) with
     | none => (d : Int)
     | some i => max 0 (min (if i < 0 then i + (n : Int) else i) (n : Int))) = ((min k n : Nat) : Int) := by
 cases ho with
 | none e =>
   subst e
   cases Option.some.inj h
   exact congrArg Int.ofNat (Nat.min_eq_left hd).symm
 | @int i t e =>
   subst e
   obtain ⟨h0, h⟩ := q0h h
   cases Option.some.inj h
   show max 0 (min (if i < 0 then i + (n : Int) else i) (n : Int)) = _
   rw [if_neg (Int.not_lt.mpr h0)]
   obtain ⟨j, rfl⟩ := Int.eq_ofNat_of_zero_le h0
   rw [Int.toNat_natCast, nat_min]
   exact Int.max_eq_right (Int.le_min.mpr ⟨Int.natCast_nonneg _, Int.natCast_nonneg _⟩)
theorem ssi_is {n a b : Nat} {lo hi : V} {ol oh : Option (Int × Tok)} (ha : bdOf 0 lo = some a) (hb : bdOf n hi = some b) (hl : AtB lo ol) (hh : AtB hi oh) :
   Builtin.Str.strSliceIndices (ol.map (·.1)) (oh.map (·.1)) 1 n = (List.range (min b n - min a n)).map (min a n + ·) := by
 have h1 := clip_is (n := n) ha hl (Nat.zero_le _)
 have h2 := clip_is (n := n) hb hh (Nat.le_refl _)
 rw [← sliceRange_one, ← h1, ← h2]
 rfl
end
section
variable {u : U} {c : Cx} {W : Wd} {σ : St} {s : Shared}
noncomputable def SEo (u : U) (c : Cx) (e : Option Expr) (f : St → Res V) : Prop := ∀ W σ s, Inv u c W σ s → Sim u c (Rep u) (valueOrNone (evalOpt e c.env)) (f σ) W s
theorem seo_none : SEo u c none (fun σ => .ok .none σ) := fun W σ s i => Sim.pure i .none
theorem seo_some {e : Expr} {f : St → Res V} (h : SE u c e f) : SEo u c (some e) f := fun W σ s i => h W σ s i
noncomputable def sliceObj (vl vu : Value) : Obj := { cls := .type "slice", data := .fields #[vl, vu, .none] }
inductive IsPt (v : V) : Value → Prop where | mk (o : Option (Int × Tok)) (a : AtB v o) (b : IsPart (partValue o) (o.map (·.1))) : IsPt v (partValue o)
theorem ofPart {r : Value} {v : V} {d k : Nat} (hr : Rep u W r v) (h : bdOf d v = some k) : IsPt v r := by
 cases v with
 | none => cases hr.nn; exact .mk none (.none rfl) .none
 | int i => induction hr.it with | mk t => exact .mk (some (i, t)) (.int rfl) (.int _ _)
 | _ => exact nn h
inductive IsSl (u : U) (W : Wd) (l h : V) : Value → Prop where | mk (ad : Addr) (vl vu : Value) (m : (ad, sliceObj vl vu) ∈ W.fz) (hl : Rep u W vl l) (hh : Rep u W vu h) : IsSl u W l h (.ref ad)
theorem sl_len' {α : Type} {l : List α} {a b : Nat} : (slL l a b).length ≤ l.length := Nat.le_trans (by unfold slL; rw [List.length_drop]; exact Nat.sub_le _ _) (List.length_take_le' b l)
theorem str_run {t : List Nat} {m n : Nat} {lo hi : V} {ol oh : Option (Int × Tok)} {tk : Tok} (h1 : bdOf 0 lo = some m) (h2 : bdOf t.length hi = some n) (a1 : AtB lo ol) (b1 : AtB hi oh) (hsz : t.length ≤ 100000) {Q : Value → Shared → Prop}
   (hq : ∀ t' k, Q (.str ⟨(slL t m n).toArray⟩ t') { s with toks := k }) : (sliceMade ⟨t.toArray⟩ tk ol oh none).post Q s := by
 have e : slicePicked ⟨t.toArray⟩ ol oh none = (List.range (min n t.length - min m t.length)).map (min m t.length + ·) := by
   have q := ssi_is (n := t.length) h1 h2 a1 b1
   unfold slicePicked
   simpa [Str.length] using q
 have e2 : ((List.range (min n t.length - min m t.length)).map (min m t.length + ·)).filterMap (fun j => (⟨t.toArray⟩ : Str).cps[j]?) = slL t m n := by
   have := q7t t (min m t.length) (min n t.length - min m t.length)
   rw [q4w] at this
   simpa using this
 unfold sliceMade
 rw [e, e2]
 refine post_val_or_str ?_
 have key : (if (((none : Option (Int × Tok)).map (·.1)).getD 1 == 1 && ((List.range (min n t.length - min m t.length)).map (min m t.length + ·)).length == (⟨t.toArray⟩ : Str).length) = true then (⟨t.toArray⟩ : Str) else ⟨(slL t m n).toArray⟩) = ⟨(slL t m n).toArray⟩ := by
   split
   · rename_i hc
     simp only [List.length_map, List.length_range, Bool.and_eq_true, beq_iff_eq, Str.length, List.size_toArray] at hc
     have hb := Nat.min_le_right n t.length
     have ha := Nat.min_le_right m t.length
     refine congrArg (fun l : List Nat => (⟨l.toArray⟩ : Str)) ?_
     rw [← q4w]
     clear e e2 hq
     generalize min n t.length = b at *
     generalize min m t.length = a at *
     cases show a = 0 by omega
     exact (List.take_of_length_le (Nat.le_of_eq hc.2.symm)).symm
   · rfl
 rw [key]
 exact ⟨by rw [q2w, szl]; exact Nat.le_trans sl_len' (Nat.le_trans hsz (by decide)), hq⟩
theorem lst_run {vs : List Value} {m n : Nat} {lo hi : V} {ol oh : Option (Int × Tok)} (h1 : bdOf 0 lo = some m) (h2 : bdOf vs.length hi = some n) (a1 : AtB lo ol) (b1 : AtB hi oh) : slicePick vs.toArray (ol.map (·.1)) (oh.map (·.1)) none = (slL vs m n).toArray := by
 unfold slicePick
 have e1 : sliceRange (sliceBounds (ol.map (·.1)) (oh.map (·.1)) none vs.toArray.size).1 (sliceBounds (ol.map (·.1)) (oh.map (·.1)) none vs.toArray.size).2.1 (sliceBounds (ol.map (·.1)) (oh.map (·.1)) none vs.toArray.size).2.2
     = Builtin.Str.strSliceIndices (ol.map (·.1)) (oh.map (·.1)) 1 vs.length := by rw [List.size_toArray]; rfl
 rw [e1, ssi_is h1 h2 a1 b1]
 refine congrArg List.toArray ?_
 have := q7t vs (min m vs.length) (min n vs.length - min m vs.length)
 rw [q4w] at this
 simpa using this
theorem slice_ok (i : Inv u c W σ s) {value : Expr} {lo hi : Option Expr} {p : Pos} {x sl : Value} {a l h v : V} (hx : Rep u W x a) (hsl : IsSl u W l h sl) (hv : slV σ.hp a l h = some v) :
   Sim u c (Rep u) (subscriptTail value (.Slice lo hi none p) x sl) (.ok v σ) W s := by
 cases hsl with | mk ad vl vu hm hl hh => ?_
 have hsl := (i.N _ (q0u hm)).1
 rcases or_s hv with hv | hv
 · obtain ⟨t, rfl, hv⟩ := oS_s hv
   obtain ⟨m, n, h1, h2, hsz, rfl⟩ := slB_s hv
   induction hx.sr with | mk tk => ?_
   induction ofPart hl h1 with | mk ol a1 a3 => ?_
   induction ofPart hh h2 with | mk oh b1 b3 => ?_
   refine Sim.value i fun Q hq => tail_any (typeIs_str s _ _) slot_str_getitem.lookup (wpAny_getItem_str_slice (l := ol) (u := oh) (st := none) ⟨_, hsl, rfl, rfl⟩ rfl ?_) rfl
   exact str_run h1 h2 a1 b1 hsz fun t' k => hq _ k (.str _ _)
 · obtain ⟨ls, hls, hv⟩ := bd_s hv
   obtain ⟨m, n, h1, h2, hsz, rfl⟩ := slB_s hv
   induction q4y i hx hls with | @mk la vs L R => ?_
   induction ofPart hl h1 with | mk ol a1 a3 => ?_
   induction ofPart hh h2 with | mk oh b1 b3 => ?_
   rw [← R.length] at h2 hsz
   refine Sim.newF (o := { cls := .type "list", data := .seq (slL vs m n).toArray }) i (fun Q hq => tail_any L.typeIs slot_list_getitem.lookup (wpAny_getItem_list_slice (st := none) L ⟨_, hsl, rfl, rfl⟩ a3 b3 .none nofun ?_ ?_) rfl) (.lst (.inl (.head _)) rfl rfl (((R.take n).drop m).ev (W.addF_ev _ _)))
   · rw [lst_run h1 h2 a1 b1]
     exact hq _ s.toks (i.F.push _) (News.push i.F i.N _)
   · rw [List.size_toArray, szl]
     exact Nat.le_trans hsz (by decide)
theorem se_slice {value : Expr} {lo hi : Option Expr} {p p' : Pos} {f g h : St → Res V} (hv : SE u c value f) (hl : SEo u c lo g) (hh : SEo u c hi h) :
   SE u c (.Subscript value (.Slice lo hi none p) p') (fun σ => (f σ).bind fun a σ => (g σ).bind fun l σ => (h σ).bind fun r σ => ores (slV σ.hp a l r) σ) := fun W σ s i => by
 rw [arm_eval_Subscript]
 refine Sim.bind (t := eval value c.env) (hv W σ s i) fun x a σ1 W1 s1 _ e1 i1 hx => ?_
 have B : Sim u c (fun W r (b : V × V) => IsSl u W b.1 b.2 r) (eval (.Slice lo hi none p) c.env) ((g σ1).bind fun l σ => (h σ).bind fun r σ => .ok (l, r) σ) W1 s1 := by
   rw [arm_eval_Slice]
   refine (hl W1 σ1 s1 i1).bind fun vl l σ2 W2 s2 _ e2 i2 hvl => (Sim.holding (hh W2 σ2 s2 i2)).bind fun vu r σ3 W3 s3 _ e3 i3 hvu => ?_
   refine Sim.congr (fun Q E q => wpAny_bind (wpAny_holding (wpAny_pure q))) ?_
   exact wpAny_newObj_type (s := s3) ⟨W3.addF s3.heap.objs.size (sliceObj vl vu), W3.addF_ev _ _, i3.addF (tk := s3.toks) (i3.F.push _) (News.push i3.F i3.N _) i3.fresh, .mk _ vl vu (.head _) ((hvl.ev e3).ev (W3.addF_ev _ _)) (hvu.ev (W3.addF_ev _ _))⟩ (by show 3 ≤ sizeLine + 2; rw [szl]; decide)
 have e : ((g σ1).bind fun l σ => (h σ).bind fun r σ => ores (slV σ.hp a l r) σ) = (((g σ1).bind fun l σ => (h σ).bind fun r σ => .ok (l, r) σ).bind fun b σ => ores (slV σ.hp a b.1 b.2) σ) := by
   cases g σ1 with
   | ok l σ2 =>
     show (h σ2).bind _ = ((h σ2).bind _).bind _
     cases h σ2 <;> rfl
   | ex C m σ2 => rfl
   | bad => rfl
 rw [e]
 exact Sim.bind (t := PySem.holding [x] (eval (.Slice lo hi none p) c.env)) (Sim.holding B) fun r b σ2 W2 s2 _ e2 i2 q => Sim.standAt (Sim.ores fun v hq => slice_ok (value := value) i2 (lo := lo) (hi := hi) (hx.ev e2) q hq)
end
section
variable {u : U} {c : Cx} {W : Wd} {σ : St} {s : Shared}
noncomputable def len5 (n : Nat) : Option V := oIf (n ≤ 100000) (some (.int n))
noncomputable def lenV (H : List AO) (vs : List V) : Option V := o1 vs fun v => (oS v fun l => len5 l.length).or ((sqOf H v).bind fun l => len5 l.length)
theorem se_bi {x : Str} {np pos : Pos} {es : List Expr} {id : String} {fa : St → Res (List V)} {g : List AO → List V → Option V} (hx : SE u c (.Name x np) (fun σ => .ok (.val (.builtin id)) σ)) (ha : SEs u c es fa) (hn : (starEach es c.env).all (!·.1) = true)
   (h : ∀ W σ s rs vs v, Inv u c W σ s → Reps u W rs vs → g σ.hp vs = some v → Sim u c (Rep u) (call (.builtin id) rs) (.ok v σ) W s) :
   SE u c (.Call (.Name x np) es [] pos) (fun σ => (fa σ).bind fun vs σ => ores (g σ.hp vs) σ) :=
 j4h hx (fun _ _ h => q6r h) ha hn q2c fun W σ s rs vs i hr => Sim.ores fun v e => h W σ s rs vs v i hr e
theorem se_ty {x : Str} {np pos : Pos} {es : List Expr} {id : String} {fa : St → Res (List V)} {g : List AO → List V → Option V} (hx : SE u c (.Name x np) (fun σ => .ok (.val (.type id)) σ)) (ha : SEs u c es fa) (hn : (starEach es c.env).all (!·.1) = true)
   (h : ∀ W σ s rs vs v, Inv u c W σ s → Reps u W rs vs → g σ.hp vs = some v → Sim u c (Rep u) (call (.type id) rs) (.ok v σ) W s) :
   SE u c (.Call (.Name x np) es [] pos) (fun σ => (fa σ).bind fun vs σ => ores (g σ.hp vs) σ) :=
 j4h hx (fun _ _ h => q6r h) ha hn j2v fun W σ s rs vs i hr => Sim.ores fun v e => h W σ s rs vs v i hr e
inductive IsSq (u : U) (W : Wd) (h : Heap) (l : List V) : Value → Prop where | mk {a : Addr} {vs : List Value} (L : IsTup h a vs.toArray ∨ h.IsList a vs.toArray) (r : Reps u W vs l) : IsSq u W h l (.ref a)
theorem sqOf_is (i : Inv u c W σ s) {r : Value} {v : V} {l : List V} (hr : Rep u W r v) (h : sqOf σ.hp v = some l) : IsSq u W s.heap l r := by
 rcases sqOf_s h with rfl | h
 · induction hr.tp with | mk h1 h2 h3 h4 => exact .mk (.inl ⟨_, h1.get i, h2, _, h3⟩) h4
 · induction q4y i hr h with | mk L R => exact .mk (.inr L) R
theorem q4u {rs : List Value} {v : V} (h : Reps u W rs [v]) {P : List Value → Prop} (k : ∀ r, Rep u W r v → P [r]) : P rs := by
 induction h.cs with
 | mk a b => cases b.nl; exact k _ a
theorem lt63 {n : Nat} (h : n ≤ 100000) : (n : Int) < 2 ^ 63 := Int.lt_of_le_of_lt (Int.ofNat_le.mpr h) (by decide)
theorem len_ok (i : Inv u c W σ s) {rs : List Value} {vs : List V} {v : V} (hr : Reps u W rs vs) (h : lenV σ.hp vs = some v) : Sim u c (Rep u) (call (.builtin "len") rs) (.ok v σ) W s := by
 obtain ⟨w, rfl, h⟩ := o1_s h
 refine q4u hr (P := fun rs => Sim u c (Rep u) (call (.builtin "len") rs) (.ok v σ) W s) fun r hr1 => ?_
 rcases or_s h with h | h
 · obtain ⟨l, rfl, h⟩ := oS_s h
   obtain ⟨hl, h⟩ := q0h h
   induction hr1.sr with | mk t => exact .int i h fun Q hq => PyProof.Rows.len_str (by rw [q2w]; exact Int.not_le.mpr (lt63 hl)) (by rw [q2w]; exact hq _ _)
 · obtain ⟨l, hl, h⟩ := bd_s h
   obtain ⟨hb, h⟩ := q0h h
   induction sqOf_is i hr1 hl with | @mk a ws hs R => ?_
   rw [← R.length] at hb h
   rw [← List.size_toArray] at hb h
   exact .int i h fun Q hq => hs.elim (fun hs => len_tuple hs (lt63 hb) (hq _ _)) fun hs => Calls.call_len_list hs (lt63 hb) (hq _ _)
theorem se_len {x : Str} {np pos : Pos} {es : List Expr} {fa : St → Res (List V)} (hx : SE u c (.Name x np) (fun σ => .ok (.val (.builtin "len")) σ)) (ha : SEs u c es fa) (hn : (starEach es c.env).all (!·.1) = true) :
   SE u c (.Call (.Name x np) es [] pos) (fun σ => (fa σ).bind fun vs σ => ores (lenV σ.hp vs) σ) :=
 se_bi hx ha hn fun W σ s rs vs v i hr h => len_ok i hr h
noncomputable def absV (vs : List V) : Option V := o1 vs fun v => oI v fun k => some (.int (if k < 0 then -k else k))
theorem se_abs {x : Str} {np pos : Pos} {es : List Expr} {fa : St → Res (List V)} (hx : SE u c (.Name x np) (fun σ => .ok (.val (.builtin "abs")) σ)) (ha : SEs u c es fa) (hn : (starEach es c.env).all (!·.1) = true) :
   SE u c (.Call (.Name x np) es [] pos) (fun σ => (fa σ).bind fun vs σ => ores (absV vs) σ) :=
 se_bi (g := fun _ vs => absV vs) hx ha hn fun W σ s rs vs v i hr h => by
   obtain ⟨w, rfl, h⟩ := o1_s h
   obtain ⟨k, rfl, h⟩ := oI_s h
   refine q4u hr (P := fun rs => Sim u c (Rep u) (call (.builtin "abs") rs) (.ok v σ) W s) fun r hr1 => ?_
   induction hr1.it with | mk t => exact .int i h fun Q hq => PyProof.Rows.call_abs_int hq
noncomputable def two (vs : List V) : Option (Int × Int) := o2 vs fun a b => oII a b fun a b => some (a, b)
theorem two_reps {rs : List Value} {vs : List V} {a b : Int} (h : Reps u W rs vs) (e : two vs = some (a, b)) : ∃ t v, rs = [.int a t, .int b v] := by
 obtain ⟨x, y, rfl, e⟩ := o2_s e
 induction h.cs with | mk h1 g => ?_
 induction g.cs with | mk h2 g2 => ?_
 cases g2.nl
 exact q1p h1 h2 e (P := fun x y => ∃ t v, [x, y] = [.int a t, .int b v]) fun m n t t' e => by cases e; exact ⟨t, t', rfl⟩
noncomputable def maxV (vs : List V) : Option V := (two vs).map fun p => .int (max p.1 p.2)
theorem se_max (ok : c.Ok) {x : Str} {np pos : Pos} {es : List Expr} {fa : St → Res (List V)} (hx : SE u c (.Name x np) (fun σ => .ok (.val (.builtin "max")) σ)) (ha : SEs u c es fa) (hn : (starEach es c.env).all (!·.1) = true) :
   SE u c (.Call (.Name x np) es [] pos) (fun σ => (fa σ).bind fun vs σ => ores (maxV vs) σ) :=
 se_bi (g := fun _ vs => maxV vs) hx ha hn fun W σ s rs vs v i hr h => by
   obtain ⟨⟨a, b⟩, e, rfl⟩ := q3p h
   obtain ⟨t, u', rfl⟩ := two_reps hr e
   refine PySem.max_two_ints ok.handled fun h' tk hk => ⟨W, .refl W, i.keeps hk, ?_⟩
   show Rep u W _ (.int (max a b))
   by_cases q : b > a
   · rw [if_pos q, Int.max_eq_right (Int.le_of_lt q)]; exact .int _ _
   · rw [if_neg q, Int.max_eq_left (Int.not_lt.mp q)]; exact .int _ _
noncomputable def bigs (l : List V) : Option (List Int) := mapO (fun v => oI v some) l
theorem bigs_are {l : List V} {rs : List Value} {ns : List Int} (H : Reps u W rs l) (h : bigs l = some ns) : IntsAre rs ns ∧ ns.length = l.length := by
 induction l generalizing rs ns with
 | nil => cases H.nl; cases Option.some.inj h; exact ⟨.nil, rfl⟩
 | cons v l ih =>
   obtain ⟨b, r, h1, h2, rfl⟩ := q5r h
   obtain ⟨k, rfl, h1⟩ := oI_s h1
   cases Option.some.inj h1
   induction H.cs with | mk a b => ?_
   induction a.it with | mk t => ?_
   obtain ⟨q1, q2⟩ := ih b h2
   exact ⟨.cons _ _ q1, congrArg (· + 1) q2⟩
noncomputable def minL : List Int → Int
 | [] => 0
 | [a] => a
 | a :: b :: l => min a (minL (b :: l))
theorem minL_mem : ∀ {l : List Int}, l ≠ [] → minL l ∈ l
 | [], h => absurd rfl h
 | [a], _ => .head _
 | a :: b :: l, _ => by
   have := minL_mem (l := b :: l) nofun
   show min a (minL (b :: l)) ∈ _
   rcases Int.le_total a (minL (b :: l)) with q | q
   · rw [Int.min_eq_left q]; exact .head _
   · rw [Int.min_eq_right q]; exact .tail _ this
theorem minL_le : ∀ {l : List Int} {a : Int}, a ∈ l → minL l ≤ a
 | [], _, h => nomatch h
 | [b], a, h => Int.le_of_eq (List.mem_singleton.mp h).symm
 | b :: d :: l, a, h => (List.mem_cons.mp h).elim (fun e => e ▸ Int.min_le_left _ _) fun h => Int.le_trans (Int.min_le_right _ _) (minL_le (l := d :: l) h)
noncomputable def minV (H : List AO) (vs : List V) : Option V := o1 vs fun v => (lsOf H v).bind fun l => (bigs l).bind fun ns => oIf (ns ≠ []) (some (.int (minL ns)))
theorem se_min (ok : c.Ok) {x : Str} {np pos : Pos} {es : List Expr} {fa : St → Res (List V)} (hx : SE u c (.Name x np) (fun σ => .ok (.val (.builtin "min")) σ)) (ha : SEs u c es fa) (hn : (starEach es c.env).all (!·.1) = true) :
   SE u c (.Call (.Name x np) es [] pos) (fun σ => (fa σ).bind fun vs σ => ores (minV σ.hp vs) σ) :=
 se_bi hx ha hn fun W σ s rs vs v i hr h => by
   obtain ⟨w, rfl, h⟩ := o1_s h
   obtain ⟨l, hl, h⟩ := bd_s h
   obtain ⟨ns, hb, h⟩ := bd_s h
   obtain ⟨hne', h⟩ := q0h h
   cases Option.some.inj h
   refine q4u hr (P := fun rs => Sim u c (Rep u) (call (.builtin "min") rs) (.ok (.int (minL ns)) σ) W s) fun r hr1 => ?_
   induction q4y i hr1 hl with | @mk a ws L R => ?_
   obtain ⟨hi, hlen⟩ := bigs_are R hb
   obtain ⟨xs, e⟩ := hi.allInts.items
   have hns : ns = xs.toList.map (·.1) := by rw [← hi.numsOf, ← nums_intItems, ← e]
   have hls : ns.length = xs.size := by rw [hns, List.length_map, Array.length_toList]
   have hsz : 0 < xs.size := hls ▸ List.length_pos_iff.mpr hne'
   rw [e] at L
   refine PySem.min_intList ok.handled L hsz fun v h' tk hv hk => ?_
   obtain ⟨t, rfl⟩ := intItems_at hv
   obtain ⟨h1, h2⟩ := argBest_lt (numAt xs) (xs.size - 1)
   generalize argBest (fun i j => decide (numAt xs i < numAt xs j)) (xs.size - 1) = k at *
   have key : numAt xs k = minL ns := by
     refine Int.le_antisymm ?_ (minL_le ?_)
     · obtain ⟨j, hj, ej⟩ := mem_getD (minL_mem hne')
       rw [← ej, hns, ← numAt_eq]
       exact h2 j (by omega)
     · rw [numAt_eq, ← hns]; exact getD_mem (by omega)
   rw [key]
   exact ⟨W, .refl W, i.keeps hk, .int _ _⟩
noncomputable def intV (vs : List V) : Option V := o1 vs fun v => (oB v fun b => some (.int (if b then 1 else 0))).or (oS v fun l => oIf ((∀ k ∈ l, 48 ≤ k ∧ k ≤ 57) ∧ l ≠ [] ∧ l.length ≤ 640) (some (.int (PySem.NumText.digitsVal l))))
theorem se_toint {x : Str} {np pos : Pos} {es : List Expr} {fa : St → Res (List V)} (hx : SE u c (.Name x np) (fun σ => .ok (.val (.type "int")) σ)) (ha : SEs u c es fa) (hn : (starEach es c.env).all (!·.1) = true) :
   SE u c (.Call (.Name x np) es [] pos) (fun σ => (fa σ).bind fun vs σ => ores (intV vs) σ) :=
 se_ty (g := fun _ vs => intV vs) hx ha hn fun W σ s rs vs v i hr h => by
   obtain ⟨w, rfl, h⟩ := o1_s h
   refine q4u hr (P := fun rs => Sim u c (Rep u) (call (.type "int") rs) (.ok v σ) W s) fun r hr1 => ?_
   rcases or_s h with h | h
   · obtain ⟨b, rfl, h⟩ := oB_s h
     cases hr1.bl
     exact .int i h fun Q hq => PySem.call_int_bool (hq _ _)
   · obtain ⟨l, rfl, h⟩ := oS_s h
     obtain ⟨hq, h⟩ := q0h h
     induction hr1.sr with | mk t => exact .int i h fun Q hQ => KIN.call_text (PySem.intText_digits (x := ⟨l.toArray⟩) hq.1 hq.2.1 (by rw [q2w]; exact Nat.le_trans hq.2.2 (by decide))) (by rw [q2w]; exact hq.2.2) (hQ _ _)
noncomputable def listV (H : List AO) (vs : List V) : Option V := o1 vs fun v => (sqOf H v).bind fun l => oIf (l.length ≤ 100000) (some (.lst l))
theorem se_tolist {x : Str} {np pos : Pos} {es : List Expr} {fa : St → Res (List V)} (hx : SE u c (.Name x np) (fun σ => .ok (.val (.type "list")) σ)) (ha : SEs u c es fa) (hn : (starEach es c.env).all (!·.1) = true) :
   SE u c (.Call (.Name x np) es [] pos) (fun σ => (fa σ).bind fun vs σ => ores (listV σ.hp vs) σ) :=
 se_ty hx ha hn fun W σ s rs vs v i hr h => by
   obtain ⟨w, rfl, h⟩ := o1_s h
   obtain ⟨l, hl, h⟩ := bd_s h
   obtain ⟨hb, h⟩ := q0h h
   cases Option.some.inj h
   refine q4u hr (P := fun rs => Sim u c (Rep u) (call (.type "list") rs) (.ok (.lst l) σ) W s) fun r hr1 => ?_
   induction sqOf_is i hr1 hl with | @mk a ws hs R => ?_
   have ⟨T, o, n, hT, ho, hc, hd⟩ : ∃ T o n, (T = "list" ∨ T = "tuple") ∧ s.heap.get? a = some o ∧ o.cls = .type T ∧ o.data = .seq ws.toArray n := by
     rcases hs with ⟨o, h1, h2, n, h3⟩ | ⟨o, h1, h2, n, h3⟩
     · exact ⟨_, o, n, .inr rfl, h1, h2, h3⟩
     · exact ⟨_, o, n, .inl rfl, h1, h2, h3⟩
   refine PySem.call_list_seq a hT ho hc hd (fun h' c' hk hn => ?_) (by rw [List.size_toArray, R.length, szl]; exact Nat.le_trans hb (by decide))
   have hL : c.env.locals < s.heap.objs.size := by
     obtain ⟨o, _, _, q, _⟩ := i.F.ns
     exact Heap.lt_size q
   have N' : News u.B c.env.locals h' ((s.heap.objs.size, ({ cls := .type "list", dict := none, data := .seq ws.toArray c', slots := #[] } : Obj)) :: W.led) := fun p hp => by
     rcases List.mem_cons.mp hp with rfl | hp
     · exact ⟨hn, Nat.ne_of_gt hL, Heap.get?_none_of_le (Nat.le_trans i.F.above (Nat.le_of_lt hL))⟩
     · exact ⟨hk _ _ (i.N p hp).1, (i.N p hp).2⟩
   exact ⟨_, W.addF_ev _ _, i.addF (tk := s.toks) (i.F.grownK hk) N' i.fresh, .lst (.inl (.head _)) rfl rfl (R.ev (W.addF_ev _ _))⟩
end
section
variable {u : U} {c : Cx} {W : Wd} {σ : St} {s : Shared}
noncomputable abbrev St0 (l : List Nat) : Str := ⟨l.toArray⟩
noncomputable def lowc (k : Nat) : Nat := if 65 ≤ k ∧ k ≤ 90 then k + 32 else k
theorem low_ascii : ∀ k, k < 128 → Unicode.lowerOf k = [lowc k] := by decide +kernel
theorem lower_is (l : List Nat) (h : ∀ k ∈ l, k < 128) : Txt.lower (St0 l) = St0 (l.map lowc) := by
 unfold Txt.lower placed
 have e : (l.toArray.mapIdx fun i c => (Unicode.lowerAt l.toArray i).toArray) = (l.map fun k => #[lowc k]).toArray := by
   apply Array.ext
   · simp
   · intro i h1 h2
     simp only [Array.getElem_mapIdx, List.getElem_toArray, List.getElem_map]
     have hi : i < l.length := by simpa using h1
     unfold Unicode.lowerAt
     rw [List.getElem?_toArray, List.getElem?_eq_getElem hi]
     have hk := h l[i] (List.getElem_mem hi)
     have h3 : (l[i] == 0x3A3) = false := by rw [beq_eq_false_iff_ne]; omega
     simp only [h3, Bool.false_and, Bool.false_eq_true, if_false]
     rw [low_ascii _ hk]
 show (⟨(l.toArray.mapIdx fun i c => (Unicode.lowerAt l.toArray i).toArray).flatten⟩ : Str) = _
 rw [e]
 have e2 : ∀ m : List Nat, (m.map fun k => #[lowc k]).toArray.flatten = (m.map lowc).toArray := fun m => by
   apply Array.toList_inj.mp
   rw [Array.toList_flatten]
   simp only [List.map_map]
   induction m with
   | nil => rfl
   | cons a m ih => simp_all
 rw [e2]
theorem at_one (l : List Nat) (k i : Nat) : StrLaws.At (St0 l) (St0 [k]) (St0 l).length i ↔ l[i]? = some k := StrLaws.subAt_one (St0 l) k i
theorem occ_one (l : List Nat) (k : Nat) : (k ∉ l ∧ Builtin.Str.occurrences (St0 l) (St0 [k]) 0 (St0 l).length 1 = []) ∨ (k ∈ l ∧ ∃ r, Builtin.Str.occurrences (St0 l) (St0 [k]) 0 (St0 l).length 1 = l.idxOf k :: r) := by
 rcases StrLaws.occ_head (St0 l) (St0 [k]) 1 (Nat.le_refl _) with ⟨h1, h2⟩ | ⟨i, r, h1, h2, h3⟩
 · refine .inl ⟨fun hk => ?_, h1⟩
   obtain ⟨i, hi, e⟩ := List.getElem_of_mem hk
   exact h2 i ((at_one l k i).mpr (by rw [List.getElem?_eq_getElem hi, e]))
 · have q := (at_one l k i).mp h2
   have hk : k ∈ l := List.mem_of_getElem? q
   refine .inr ⟨hk, r, ?_⟩
   have hlt : l.idxOf k < l.length := List.idxOf_lt_length_of_mem hk
   have q2 : l[l.idxOf k]? = some k := by rw [List.getElem?_eq_getElem hlt, List.getElem_idxOf]
   have h4 : ¬ l.idxOf k < i := fun z => h3 _ z ((at_one l k _).mpr q2)
   have h5 : l.idxOf k ≤ i := by
     obtain ⟨hi, e⟩ := List.getElem?_eq_some_iff.mp q
     rw [Nat.le_iff_lt_or_eq]
     by_cases z : i < l.idxOf k
     · exfalso
       have := List.not_of_lt_findIdx (p := (· == k)) (xs := l) (i := i) z
       simp [e] at this
     · omega
   rw [h1, show i = l.idxOf k by omega]
theorem j6r (l : List Nat) (i j : Nat) : Builtin.Str.strSub (St0 l) i j = St0 ((l.drop i).take (j - i)) := by
 have := StrLaws.strSub_toList (St0 l) i j
 generalize Builtin.Str.strSub (St0 l) i j = x at this
 obtain ⟨a⟩ := x
 show (⟨a⟩ : Str) = ⟨_⟩
 rw [← show a.toList = (l.drop i).take (j - i) from this]
noncomputable def q7n (l : List Nat) (k : Nat) : List Nat × List Nat × List Nat := if k ∈ l then (l.take (l.idxOf k), [k], l.drop (l.idxOf k + 1)) else (l, [], [])
theorem j7d (l : List Nat) (k : Nat) : Txt.partition (St0 l) (St0 [k]) = (St0 (q7n l k).1, St0 (q7n l k).2.1, St0 (q7n l k).2.2) := by
 unfold Txt.partition q7n
 rcases occ_one l k with ⟨h1, h2⟩ | ⟨h1, r, h2⟩
 · rw [h2, if_neg h1]; rfl
 · rw [h2, if_pos h1]
   simp only [j6r]
   rw [List.drop_zero, Nat.sub_zero]
   have e : (St0 [k]).length = 1 := rfl
   have e2 : (St0 l).length = l.length := q2w l
   rw [e, e2]
   have : (l.drop (l.idxOf k + 1)).take (l.length - (l.idxOf k + 1)) = l.drop (l.idxOf k + 1) := List.take_of_length_le (by simp)
   rw [this]
noncomputable def repc (a b k : Nat) : Nat := if k = a then b else k
theorem q7k (a b : Nat) : ∀ l : List Nat, a ∉ l → l.map (repc a b) = l
 | [], _ => rfl
 | k :: r, h => by
   have h1 : ¬ k = a := fun e => h (e ▸ List.mem_cons_self ..)
   simp only [List.map_cons]
   rw [q7k a b r fun m => h (List.mem_cons_of_mem _ m)]
   unfold repc
   rw [if_neg h1]
theorem j6z (a b : Nat) : ∀ parts : List Str, (∀ p ∈ parts, a ∉ p.cps.toList) → (Str.join ⟨#[a]⟩ parts).cps.toList.map (repc a b) = (Str.join ⟨#[b]⟩ parts).cps.toList
 | [], _ => rfl
 | [p], h => q7k a b _ (h p (List.mem_singleton.mpr rfl))
 | p :: q :: r, h => by
   have ih := j6z a b (q :: r) fun x ha => h x (List.mem_cons_of_mem _ ha)
   show (p ++ ⟨#[a]⟩ ++ Str.join ⟨#[a]⟩ (q :: r)).cps.toList.map (repc a b) = (p ++ ⟨#[b]⟩ ++ Str.join ⟨#[b]⟩ (q :: r)).cps.toList
   simp only [Str.cps_append, Array.toList_append, List.map_append]
   rw [ih, q7k a b _ (h p (List.mem_cons_self ..))]
   simp [repc]
theorem replace_is (l : List Nat) (a b : Nat) : Txt.replace (St0 l) (St0 [a]) (St0 [b]) = St0 (l.map (repc a b)) := by
 have h : (Txt.replace (St0 l) ⟨#[a]⟩ ⟨#[b]⟩).cps.toList = (St0 l).cps.toList.map (repc a b) := by
   rw [StrLaws.replace_one, ← j6z a b _ (StrLaws.split_free (St0 l) a), StrLaws.join_split]
 show Txt.replace (St0 l) ⟨#[a]⟩ ⟨#[b]⟩ = _
 generalize Txt.replace (St0 l) ⟨#[a]⟩ ⟨#[b]⟩ = x at h
 obtain ⟨arr⟩ := x
 show (⟨arr⟩ : Str) = ⟨_⟩
 rw [← show arr.toList = l.map (repc a b) from h]
theorem lstrip_is (l m : List Nat) : Txt.lstripChars (St0 l) (St0 m) = St0 (l.dropWhile m.contains) := by
 have key : ∀ l : List Nat, l.drop (l.takeWhile m.contains).length = l.dropWhile m.contains := by
   intro l
   induction l with
   | nil => rfl
   | cons a l ih =>
     by_cases h : m.contains a
     · simp only [List.takeWhile_cons, List.dropWhile_cons, h, if_true, List.length_cons, List.drop_succ_cons]; exact ih
     · simp only [List.takeWhile_cons, List.dropWhile_cons, h, Bool.false_eq_true, if_false]; rfl
 have hc : (St0 m).cps.contains = m.contains := by funext k; simp
 unfold Txt.lstripChars Txt.stripBy
 rw [hc]
 have e1 : PySem.stripLo m.contains true (St0 l) = (l.takeWhile m.contains).length := by unfold PySem.stripLo; rfl
 have e2 : ∀ n, PySem.stripHi m.contains false (St0 l) n = l.length := fun n => by unfold PySem.stripHi; exact q2w l
 have hs : PySem.stripped m.contains true false (St0 l) = St0 (l.dropWhile m.contains) := by
   unfold PySem.stripped
   rw [e1, e2, j6r, ← key l]
   congr 2
   exact List.take_of_length_le (by simp)
 split
 · rename_i h
   unfold PySem.stripSame at h
   rw [e1, e2] at h
   simp only [Bool.and_eq_true, beq_iff_eq] at h
   rw [← key l, h.1]; rfl
 · exact hs
theorem q9v {β : Type} {rep : Wd → Value → β → Prop} {o : Expr} {name : Str} {apos pos : Pos} {es : List Expr} (hbase : attributeBase o name c.env (eval o c.env) = eval o c.env)
   (hfew : ((backTo pos (starEach es c.env)).all (fun x => !x.1) && (backToKw pos (keywordEach [] c.env)).all (fun x => x.1.isSome) && decide (es.length + ([] : List Keyword).length + (if ([] : List Keyword).isEmpty then 0 else 1) < 30)) = true)
   (hline : (apos.endLine == pos.line) = true) {ro : Res β} (H : Sim u c rep (eval o c.env) ro W s) {k : β → St → Res V}
   (key : ∀ a σ1 ov s1, Got u c rep W σ1 a ov s1 → k a σ1 ≠ .bad → ∀ (Q E : Value → Shared → Prop), (∀ t : Sem Value, Sim u c (Rep u) t (k a σ1) W s1 → wpAny u.M c.A t Q E s1) → MethodOnS u.prog u.w c.A E name ov pos (backTo pos (starEach es c.env)) Q s1) :
   Sim u c (Rep u) (eval (.Call (.Attribute o name apos) es [] pos) c.env) (ro.bind k) W s := by
 cases ro with
 | bad => trivial
 | ex C m σ1 => exact wpAny_Call_method_lateS hbase hfew hline (wpAny_mono H (fun _ _ x => x.elim) fun _ _ x => x)
 | ok a σ1 =>
   have key := key a σ1
   show Sim u c (Rep u) _ (k a σ1) W s
   revert key
   generalize k a σ1 = r
   intro key
   cases r with
   | bad => trivial
   | ok v σ2 => exact wpAny_Call_method_lateS hbase hfew hline (wpAny_mono H (fun ov s1 G => key ov s1 G nofun _ _ fun t h => h) fun _ _ x => x.elim)
   | ex C m σ2 => exact wpAny_Call_method_lateS hbase hfew hline (wpAny_mono H (fun ov s1 G => key ov s1 G nofun _ _ fun t h => h) fun _ _ x => x.elim)
noncomputable def onS (v : V) (k : List Nat → Res V) : Res V := V.casesOn v .bad (fun _ => .bad) (fun _ => .bad) k (fun _ => .bad) (fun _ => .bad) (fun _ _ => .bad) (fun _ => .bad) (fun _ => .bad) (fun _ _ => .bad)
theorem onS_s {v : V} {k : List Nat → Res V} (h : onS v k ≠ .bad) : ∃ l, v = .str l := by cases v with | str l => exact ⟨l, rfl⟩ | _ => exact absurd rfl h
theorem q9x {o : Expr} {name : Str} {apos pos : Pos} {es : List Expr} {id : String} {f : St → Res V} {fa : St → Res (List V)} {g : List Nat → List V → Option V} (slot : Slot "str" name id) (hty : typeOf (.builtin id) = pure (.type "method_descriptor"))
   (ho : SE u c o f) (ha : SEs u c es fa)
   (hbase : attributeBase o name c.env (eval o c.env) = eval o c.env)
   (hfew : ((backTo pos (starEach es c.env)).all (fun x => !x.1) && (backToKw pos (keywordEach [] c.env)).all (fun x => x.1.isSome) && decide (es.length + ([] : List Keyword).length + (if ([] : List Keyword).isEmpty then 0 else 1) < 30)) = true)
   (hline : (apos.endLine == pos.line) = true) (hn : (starEach es c.env).all (!·.1) = true)
   (h : ∀ W σ s l t rs vs v, Inv u c W σ s → Reps u W rs vs → g l vs = some v → Sim u c (Rep u) (call (.builtin id) (.str (St0 l) t :: rs)) (.ok v σ) W s) :
   SE u c (.Call (.Attribute o name apos) es [] pos) (fun σ => (f σ).bind fun a σ => onS a fun l => (fa σ).bind fun vs σ => ores (g l vs) σ) := fun W σ s i =>
 q9v hbase hfew hline (ho W σ s i) fun a σ1 ov s1 G nb Q E run => by
   obtain ⟨l, rfl⟩ := onS_s nb
   obtain ⟨W', e, i1, hr⟩ := G
   induction hr.sr with | mk t => ?_
   exact ⟨"str", id, F.plainAttrs_str, slot, hty, typeIs_str _ _ _, (fun _ e => nomatch e), run _ ((q2o ha hn q2c i1 fun W2 σ2 s2 rs vs e2 i2 hrs => Sim.ores fun v hg => h W2 σ2 s2 l t rs vs v i2 hrs hg).ev e)⟩
noncomputable def o0 {α β : Type} (l : List β) (k : Option α) : Option α := List.casesOn l k fun _ _ => none
theorem o0_s {α β : Type} {l : List β} {k : Option α} {x : α} (h : o0 l k = some x) : l = [] ∧ k = some x := by
 cases l with
 | nil => exact ⟨rfl, h⟩
 | cons => exact nn h
noncomputable def lowerV (l : List Nat) (vs : List V) : Option V := o0 vs (oIf ((∀ k ∈ l, k < 128) ∧ l.length ≤ 100000) (some (.str (l.map lowc))))
theorem lower_ok (i : Inv u c W σ s) {l : List Nat} {t : Tok} {rs : List Value} {vs : List V} {v : V} (hr : Reps u W rs vs) (h : lowerV l vs = some v) : Sim u c (Rep u) (call (.builtin "str.lower") (.str (St0 l) t :: rs)) (.ok v σ) W s := by
 obtain ⟨rfl, h2⟩ := o0_s h
 obtain ⟨hq, h3⟩ := q0h h2
 cases Option.some.inj h3
 cases hr.nl
 have e := lower_is l hq.1
 have hl : (Txt.lower (St0 l)).length ≤ sizeLine := by rw [e, q2w, List.length_map, szl]; exact Nat.le_trans hq.2 (by decide)
 refine Sim.value i fun Q hQ => PySem.call_gives F.slot_str_lower (typeIs_str _ _ _) F.entry_str_lower (F.args_str_lower_1 _) (gives_str_lower (St0 l) t (decide_eq_false (Nat.not_lt.mpr hl))) ?_
 show (Made.str (Txt.lower (St0 l))).post Q s
 exact ⟨hl, by rw [e]; exact hQ _ _ (.str _ _)⟩
noncomputable def indexV (l : List Nat) (vs : List V) : Option V := o1 vs fun v => oS v fun m => o1 m fun k => oIf (k ∈ l) (some (.int (l.idxOf k)))
theorem index_ok (i : Inv u c W σ s) {l : List Nat} {t : Tok} {rs : List Value} {vs : List V} {v : V} (hr : Reps u W rs vs) (h : indexV l vs = some v) : Sim u c (Rep u) (call (.builtin "str.index") (.str (St0 l) t :: rs)) (.ok v σ) W s := by
 obtain ⟨w, rfl, h2⟩ := o1_s h
 obtain ⟨m, rfl, h3⟩ := oS_s h2
 obtain ⟨k, rfl, h4⟩ := o1_s h3
 obtain ⟨hk, h⟩ := q0h h4
 refine q4u hr (P := fun rs => Sim u c (Rep u) (call (.builtin "str.index") (.str (St0 l) t :: rs)) (.ok v σ) W s) fun r a => ?_
 induction a.sr with | mk t2 => ?_
 rcases occ_one l k with ⟨h1, _⟩ | ⟨_, r, h2⟩
 · exact absurd hk h1
 · exact .int i h fun Q hQ => PySem.SC.index h2 (hQ _ _)
noncomputable def lstripV (l : List Nat) (vs : List V) : Option V := o1 vs fun v => oS v fun m => oIf (l.length ≤ 100000) (some (.str (l.dropWhile m.contains)))
theorem lstrip_ok (i : Inv u c W σ s) {l : List Nat} {t : Tok} {rs : List Value} {vs : List V} {v : V} (hr : Reps u W rs vs) (h : lstripV l vs = some v) : Sim u c (Rep u) (call (.builtin "str.lstrip") (.str (St0 l) t :: rs)) (.ok v σ) W s := by
 obtain ⟨w, rfl, h⟩ := o1_s h
 obtain ⟨m, rfl, h⟩ := oS_s h
 obtain ⟨hb, h⟩ := q0h h
 cases Option.some.inj h
 refine q4u hr (P := fun rs => Sim u c (Rep u) (call (.builtin "str.lstrip") (.str (St0 l) t :: rs)) (.ok (.str (l.dropWhile m.contains)) σ) W s) fun r a => ?_
 induction a.sr with | mk t2 => ?_
 refine Sim.value i fun Q hQ => PySem.call_gives F.slot_str_lstrip (typeIs_str _ _ _) F.entry_str_lstrip (F.args_str_lstrip_2 _ _) (gives_str_lstrip_chars (St0 l) (St0 m) t _) ?_
 refine post_val_or_made (fun _ => fits_stripped _ _ _ (by rw [q2w, szl]; exact Nat.le_trans hb (by decide))) fun t' k => ?_
 show Q (.str (Txt.lstripChars (St0 l) (St0 m)) t') _
 rw [lstrip_is]; exact hQ _ _ (.str _ _)
noncomputable def partV (l : List Nat) (vs : List V) : Option V := o1 vs fun v => oS v fun m => o1 m fun k => oIf (l.length ≤ 100000) (some (.tup [.str (q7n l k).1, .str (q7n l k).2.1, .str (q7n l k).2.2]))
theorem part_ok (i : Inv u c W σ s) {l : List Nat} {t : Tok} {rs : List Value} {vs : List V} {v : V} (hr : Reps u W rs vs) (h : partV l vs = some v) : Sim u c (Rep u) (call (.builtin "str.partition") (.str (St0 l) t :: rs)) (.ok v σ) W s := by
 obtain ⟨w, rfl, h2⟩ := o1_s h
 obtain ⟨m, rfl, h3⟩ := oS_s h2
 obtain ⟨k, rfl, h4⟩ := o1_s h3
 obtain ⟨hb, h⟩ := q0h h4
 cases Option.some.inj h
 refine q4u hr (P := fun rs => Sim u c (Rep u) (call (.builtin "str.partition") (.str (St0 l) t :: rs)) (.ok _ σ) W s) fun r a => ?_
 induction a.sr with | mk t2 => ?_
 refine partitionN i.F i.N (by simp [Str.length]) (fun ta tb tc h' tk F' N' => ?_) (by rw [q2w, szl]; exact Nat.le_trans hb (by decide))
 rw [j7d l k] at N'
 exact ⟨_, W.addF_ev _ _, i.addF (tk := tk) F' N' i.fresh, .tup (.inl (.head _)) rfl rfl (.cons (.str _ _) (.cons (.str _ _) (.cons (.str _ _) .nil)))⟩
end
section
variable {u : U} {c : Cx} {W : Wd} {σ : St} {s : Shared}
noncomputable def Wd.addH (W : Wd) (a : Addr) (os : List (Addr × Obj)) : Wd := { W with hp := W.hp ++ [(a, os)] }
theorem addH_adr (W : Wd) (a : Addr) (os : List (Addr × Obj)) : (W.addH a os).adr = W.adr ++ [a] := List.map_append
theorem Wd.addH_ev (W : Wd) (a : Addr) (os : List (Addr × Obj)) : Ev W (W.addH a os) :=
 ⟨fun _ h => h, by rw [addH_adr]; exact List.prefix_append _ _, rfl, TI.SameUp.refl _⟩
theorem q6j (W : Wd) (a : Addr) (os : List (Addr × Obj)) : (W.addH a os).adr[W.hp.length]? = some a := by
 rw [addH_adr, show W.hp.length = W.adr.length by unfold Wd.adr; rw [List.length_map], List.getElem?_concat_length]
theorem Hps.snoc {hs : List (Addr × List (Addr × Obj))} {xs : List AO} {a : Addr} {os : List (Addr × Obj)} {x : AO} (H : Hps u W hs xs) (hx : RepO u W a os x) : Hps u W (hs ++ [(a, os)]) (xs ++ [x]) := by
 induction H with
 | nil => exact .cons hx .nil
 | cons h1 h2 ih => exact .cons h1 ih
theorem Hps.len {hs : List (Addr × List (Addr × Obj))} {xs : List AO} (H : Hps u W hs xs) : hs.length = xs.length := H.length
theorem j8d {hs : List (Addr × List (Addr × Obj))} {a : Addr} {os : List (Addr × Obj)} : (hs ++ [(a, os)]).flatMap (·.2) = hs.flatMap (·.2) ++ os := by
 rw [List.flatMap_append, List.flatMap_cons, List.flatMap_nil, List.append_nil]
theorem q3j {hs : List (Addr × List (Addr × Obj))} {a : Addr} {os : List (Addr × Obj)} {p : Addr × Obj} (h : p ∈ (hs ++ [(a, os)]).flatMap (·.2)) : p ∈ hs.flatMap (·.2) ∨ p ∈ os := List.mem_append.mp (j8d ▸ h)
theorem addH_s {W : Wd} {a : Addr} {os : List (Addr × Obj)} {p : Addr × Obj} (h : p ∈ (W.addH a os).mu) : p ∈ os ∨ p ∈ W.mu :=
 (List.mem_append.mp h).elim (fun h => (List.mem_append.mp h).elim (fun h => (q3j h).elim (fun h => .inr (q1t h)) .inl) fun h => .inr (q2e h)) fun h => .inr (q4m h)
theorem Inv.addH (i : Inv u c W σ s) {a : Addr} {os : List (Addr × Obj)} {x : AO} {h' : Heap} {tk : Nat} (F' : Fr u.B c.env.locals h' W.m) (N' : News u.B c.env.locals h' (os ++ W.led))
   (hout : ∀ p ∈ os, p.1 ∉ W.led.map (·.1)) (hnd : (os.map (·.1)).Nodup) (hx : RepO u W a os x) :
   Inv u c (W.addH a os) { σ with hp := σ.hp ++ [x] } { s with heap := h', toks := tk } := by
 have e := W.addH_ev a os
 have S := i.ap.sep
 have out : ∀ p ∈ os, ∀ q ∈ W.led, p.1 ≠ q.1 := fun p hp q hq z => hout p hp (z ▸ q2f hq)
 refine ⟨F', fun p hp => N' p ((List.mem_append.mp hp).elim (fun hp => List.mem_append_right _ (q0u hp)) fun hp => (addH_s hp).elim (List.mem_append_left _) fun hp => List.mem_append_right _ (q0k hp)), Sep.apart ⟨?_, S.tt, S.ff, fun p hp q hq => ?_, fun p hp q hq => ?_, S.tf, fun p hp q hq => ?_⟩,
   fun x v hv => (i.loc x v hv).ev e rfl, (i.hp.snoc hx).ev e, (fun p hp => (i.tb p hp).sub e.sub), i.frs, i.dic, i.gens, i.os⟩
 · show (((W.hp ++ [(a, os)]).flatMap (·.2)).map (·.1)).Nodup
   rw [j8d]
   exact nd_of S.hh hnd fun p hp q hq => (out q hq p (q0k (q1t hp))).symm
 · exact (q3j hp).elim (fun hp => S.ht p hp q hq) fun hp => out p hp q (q0k (q2e hq))
 · exact (q3j hp).elim (fun hp => S.hf p hp q hq) fun hp => out p hp q (q1b hq)
 · exact (addH_s hq).elim (fun hq => (out q hq p (q0u hp)).symm) fun hq => S.zm p hp q hq
theorem Inv.fresh' (i : Inv u c W σ s) : s.heap.objs.size ∉ W.led.map (·.1) := q4e fun p hp => Nat.ne_of_lt (i.lt hp)
theorem se_lstT {es : List Expr} {p : Pos} {f : St → Res (List V)} (h : SEs u c es f) : SE u c (.List es p) (fun σ => (f σ).bind fun l σ => if l.length ≤ 1000 then .ok (.obj σ.hp.length) { σ with hp := σ.hp ++ [.lst l] } else .bad) := fun W σ s i => by
 rw [arm_eval_List]
 refine Sim.standAt ((h p W σ s i).bind fun x a σ1 W1 s1 _ e1 i1 hx => ?_)
 split
 · rename_i hl
   refine newList_N (s := s1) i1.F i1.N (fun h' F' N' => ?_) (by rw [hx.length, szl]; exact Nat.le_trans hl (by decide))
   refine ⟨_, W1.addH_ev _ _, i1.addH (tk := s1.toks) (os := [(s1.heap.objs.size, { cls := .type "list", data := .seq x.toArray })]) F' N' (fun p hp => ?_) (List.nodup_cons.mpr ⟨nofun, .nil⟩) (.lst hx), .obj (by rw [← i1.hp.length]; exact q6j _ _ _)⟩
   rw [List.mem_singleton.mp hp]; exact i1.fresh'
 · trivial
end
section
variable {u : U} {c : Cx} {W : Wd} {σ : St} {s : Shared}
inductive IsTl (u : U) (W : Wd) (h : Heap) (k : Nat) (l : List V) : Value → Prop where
 | mk {a : Addr} {vs : List Value} {n : Nat} (hk : W.hp[k]? = some (a, [(a, { cls := .type "list", data := .seq vs.toArray n })])) (r : Reps u W vs l) (g : h.get? a = some { cls := .type "list", data := .seq vs.toArray n }) : IsTl u W h k l (.ref a)
theorem j4p (i : Inv u c W σ s) {x : Value} {k : Nat} {l : List V} (hx : Rep u W x (.obj k)) (hl : σ.hp[k]? = some (.lst l)) : IsTl u W s.heap k l x := by
 induction hx.ob with | mk ha => ?_
 obtain ⟨os, q1, q2⟩ := i.obj ha hl
 cases q2 with
 | lst q3 => exact .mk q1 q3 (i.N _ (q2t q1 (.head _))).1
noncomputable def updL {α : Type} (k : Nat) (σ : St) (f : List V → Option (List V)) (x : α) : Res α := Option.casesOn (σ.hp[k]?.bind fun o => (lsO o).bind f) .bad fun l => .ok x { σ with hp := σ.hp.set k (.lst l) }
theorem updL_ok {α β : Type} {rep : Wd → α → β → Prop} {t : Sem α} {k : Nat} {f : List V → Option (List V)} {b : β} (h : ∀ l m, σ.hp[k]? = some (.lst l) → f l = some m → Sim u c rep t (.ok b { σ with hp := σ.hp.set k (.lst m) }) W s) : Sim u c rep t (updL k σ f b) W s := by
 unfold updL
 cases e : σ.hp[k]?.bind fun o => (lsO o).bind f with
 | none => trivial
 | some m =>
   obtain ⟨o, h1, h2⟩ := bd_s e
   obtain ⟨l, h3, h4⟩ := bd_s h2
   cases lsO_s h3
   exact h l m h1 h4
noncomputable def q5h (v : V) (k : Nat) (σ : St) : Res V := updL k σ (fun l => oIf (l.length ≤ 100000) (some (l ++ [v]))) .none
theorem push_ok (i : Inv u c W σ s) {x y : Value} {k : Nat} {v : V} (hx : Rep u W x (.obj k)) (hy : Rep u W y v) : Sim u c (Rep u) (call (.builtin "list.append") [x, y]) (q5h v k σ) W s :=
 updL_ok fun l m hl hm => by
   obtain ⟨hb, hm⟩ := q0h hm
   cases Option.some.inj hm
   induction j4p i hx hl with | @mk a vs n hk hr ho => ?_
   refine append_at ho (fun h' hs ho' => ?_) (by rw [List.size_toArray, hr.length, szl]; omega)
   refine ⟨_, j0n hk, i.setH (tk := s.toks) hk (os' := [(a, { cls := .type "list", data := .seq (vs ++ [y]).toArray (n + 1) })]) rfl (fun b hb => hs.2 b fun q => hb (by rw [q]; exact .head _)) (fun p hp => ?_) (.lst (hr.append (.cons hy .nil))), .none⟩
   rw [List.mem_singleton.mp hp]
   simpa using ho'
noncomputable def onO {α : Type} (v : V) (k : Nat → Res α) : Res α := V.casesOn v .bad (fun _ => .bad) (fun _ => .bad) (fun _ => .bad) (fun _ => .bad) (fun _ => .bad) (fun _ _ => .bad) k (fun _ => .bad) (fun _ _ => .bad)
theorem onO_s {α : Type} {v : V} {k : Nat → Res α} (h : onO v k ≠ .bad) : ∃ l, v = .obj l := by cases v with | obj l => exact ⟨l, rfl⟩ | _ => exact absurd rfl h
noncomputable def isT (k : Nat) (H : List AO) : Option Unit := H[k]?.bind fun o => (lsO o).map fun _ => ()
theorem isT_s {k : Nat} {H : List AO} {x : Unit} (h : isT k H = some x) : ∃ l, H[k]? = some (.lst l) := by
 obtain ⟨o, h1, h2⟩ := bd_s h
 obtain ⟨l, h3, _⟩ := q3p h2
 exact ⟨l, lsO_s h3 ▸ h1⟩
theorem se_push {o e : Expr} {apos pos : Pos} {f g : St → Res V} (ho : SE u c o f) (he : SE u c e g) (hes : starEach [e] c.env = [(false, eval e c.env)])
   (hbase : attributeBase o (Str.ofString "append") c.env (eval o c.env) = eval o c.env) (hline : (apos.endLine == pos.line) = true) :
   SE u c (.Call (.Attribute o (Str.ofString "append") apos) [e] [] pos) (fun σ => (f σ).bind fun a σ => onO a fun k => (ores (isT k σ.hp) σ).bind fun _ σ => (g σ).bind fun v σ => q5h v k σ) := fun W σ s i => by
 have hfew : ((backTo pos (starEach [e] c.env)).all (fun x => !x.1) && (backToKw pos (keywordEach [] c.env)).all (fun x => x.1.isSome) && decide ([e].length + ([] : List Keyword).length + (if ([] : List Keyword).isEmpty then 0 else 1) < 30)) = true := by rw [hes]; rfl
 refine q9v hbase hfew hline (ho W σ s i) fun a σ1 ov s1 G nb Q E run => ?_
 obtain ⟨k, rfl⟩ := onO_s nb
 change (ores (isT k σ1.hp) σ1).bind _ ≠ _ at nb
 change ∀ t, Sim u c (Rep u) t ((ores (isT k σ1.hp) σ1).bind _) W s1 → _ at run
 cases hl : isT k σ1.hp with
 | none => rw [hl] at nb; exact absurd rfl nb
 | some z =>
   rw [hl] at run
   obtain ⟨l, hl⟩ := isT_s hl
   obtain ⟨W', ev, i1, hr⟩ := G
   induction j4p i1 hr hl with | mk hk hrs hg => ?_
   have ha : SEs u c [e] (fun σ => (g σ).bind fun v σ => .ok [v] σ) := fun pos W σ s i => q4r he q5n (by rw [hes]; rfl) pos W σ s i
   have S := (q2o (g := fun vs σ => List.casesOn vs .bad fun v r => List.casesOn r (q5h v k σ) fun _ _ => .bad) (first := [.ref _]) ha (by rw [hes]; rfl) q2c i1 (f := .builtin "list.append") (pos := pos) fun W2 σ2 s2 rs vs e2 i2 hrs => by
     cases hrs with
     | nil => trivial
     | cons h1 h2 => cases h2 with
       | nil => exact push_ok i2 (hr.ev e2) h1
       | cons _ _ => trivial).ev ev
   refine ⟨"list", "list.append", F.plainAttrs_list, PySem.slot_list_append, PySem.type_list_append, ⟨_, hg, rfl⟩, fun a e => by cases e; exact ⟨_, hg, rfl⟩, run _ ?_⟩
   show Sim u c (Rep u) _ ((g σ1).bind fun v σ => q5h v k σ) W s1
   revert S
   cases g σ1 <;> exact fun S => S
noncomputable def dropN (v : V) (σ : St) : Res Fl := V.casesOn v (.ok .next σ) (fun _ => .bad) (fun _ => .bad) (fun _ => .bad) (fun _ => .bad) (fun _ => .bad) (fun _ _ => .bad) (fun _ => .bad) (fun _ => .bad) (fun _ _ => .bad)
theorem sx_expr (ok : c.Ok) {e : Expr} {p : Pos} {f : St → Res V} (h : SE u c e f) (hs : swapsWith e none p.line c.env = pure false) : SX u c (.Expr e p) (fun σ => (f σ).bind dropN) := fun W σ s i => by
 have hi : interactive c.env = false := by unfold interactive; rw [ok.kind]; rfl
 rw [PySem.exec_Expr c.env e p hi hs]
 refine Sim.standAt ((h W σ s i).bind fun x a σ1 W1 s1 _ e1 i1 hx => ?_)
 cases a with
 | none =>
   cases hx.nn
   rw [dropValue_plain (by intro a; simp)]
   exact Sim.pure i1 .next
 | _ => trivial
theorem setItem_at {a : Addr} {vs : List Value} {n : Nat} {k : Int} {t : Tok} {v : Value} {E : Value → Shared → Prop} {Q : Unit → Shared → Prop} (ho : s.heap.get? a = some { cls := .type "list", data := .seq vs.toArray n })
   (h0 : 0 ≤ k) (hfit : k < 2 ^ 63) (hn : k.toNat < vs.length)
   (hQ : ∀ h', Heap.SameBut a s.heap h' → h'.get? a = some { cls := .type "list", data := .seq (vs.set k.toNat v).toArray n } → Q () { s with heap := h' }) :
   wpAny u.M c.A (setItem (.ref a) (.int k t) v) Q E s := by
 have hl : s.heap.IsList a vs.toArray := ⟨_, ho, rfl, _, rfl⟩
 have hfin : (s.heap.update a (Obj.mapSeq (·.setIfInBounds k.toNat v))).get? a = some { cls := .type "list", data := .seq (vs.set k.toNat v).toArray n } := by
   have e : Obj.mapSeq (·.setIfInBounds k.toNat v) { cls := .type "list", data := .seq vs.toArray n } = ({ cls := .type "list", data := .seq (vs.set k.toNat v).toArray n } : Obj) := by
     simp [Obj.mapSeq]
   rw [Heap.get?_update_self _ ho (by rw [e]; rfl), e]
 unfold setItem
 try with_reducible refine wpAny_holding ?_
 first | refine wpAny_bind (wpAny_pure ?_) | skip
 refine wpAny_bind (wpAny_sequenceKey hl.typeIs (by decide) ?_)
 refine wpAny_bind (wpAny_callSpecial?_slot (name := Str.ofString "__setitem__") hl.typeIs slot_list_setitem
   (wpAny_call_entry slot_list_setitem hl.typeIs entry_list_setitem ?_ (args_list_setitem _ _ _)))
 show wpAny _ _ (Builtin.List.listSubscript? (.int k t) >>= _) _ _ s
 refine wpAny_bind (wpAny_listSubscript_int (fitsIndex_of h0 hfit) ?_)
 obtain ⟨j, rfl⟩ := Int.eq_ofNat_of_zero_le h0
 have hj : j < vs.toArray.size := by simpa using hn
 have hx' : vs.toArray[j]? = some vs.toArray[j] := Array.getElem?_eq_getElem hj
 show wpAny _ _ ((seqItemAt a j >>= fun r => pure (r.map (j, ·))) >>= _) _ _ s
 refine wpAny_bind (wpAny_bind (wpAny_seqItemAt ho rfl (wpAny_pure ?_)))
 rw [hx']
 show wpAny _ _ (setSeqItemAt a j v >>= _) _ _ s
 refine wpAny_bind (wpAny_setSeqItemAt ho rfl ?_)
 first
   | exact wpAny_bind (wpAny_pure (wpAny_pure ⟨.none, rfl, wpAny_pure (hQ _ (Heap.SameBut.update ..) hfin)⟩))
   | exact wpAny_pure ⟨.none, rfl, wpAny_pure (hQ _ (Heap.SameBut.update ..) hfin)⟩
noncomputable def putI (v o k : V) (σ : St) : Res Unit := onO o fun j => (ores (oI k some) σ).bind fun k σ => updL j σ (fun l => oIf (0 ≤ k ∧ k < l.length ∧ l.length ≤ 100000) (some (l.set k.toNat v))) ()
theorem Reps.set {rs : List Value} {vs : List V} {r : Value} {v : V} (k : Nat) (h : Reps u W rs vs) (hr : Rep u W r v) : Reps u W (rs.set k r) (vs.set k v) := by
 induction vs generalizing rs k with
 | nil => cases h.nl; exact .nil
 | cons w vs ih =>
   induction h.cs with | mk a b => ?_
   cases k with
   | zero => exact .cons hr b
   | succ k => exact .cons a (ih k b)
theorem putI_ok (i : Inv u c W σ s) {x y z : Value} {o k v : V} (hx : Rep u W x o) (hy : Rep u W y k) (hz : Rep u W z v) : Sim u c (fun _ _ _ => True) (setItem x y z) (putI v o k σ) W s := by
 cases o with
 | obj j =>
   cases k with
   | int k =>
     induction hy.it with | mk t => ?_
     refine updL_ok fun l m hl hm => ?_
     obtain ⟨hq, hm⟩ := q0h hm
     cases Option.some.inj hm
     induction j4p i hx hl with | @mk a vs n hk hr ho => ?_
     refine setItem_at ho hq.1 (Int.lt_trans hq.2.1 (lt63 hq.2.2)) (by rw [hr.length]; exact (Int.toNat_lt hq.1).mpr hq.2.1) fun h' hs ho' => ?_
     refine ⟨_, j0n hk, i.setH (tk := s.toks) hk (os' := [(a, { cls := .type "list", data := .seq (vs.set k.toNat z).toArray n })]) rfl (fun b hb => hs.2 b fun q => hb (by rw [q]; exact .head _)) (fun p hp => ?_) (.lst (hr.set _ hz)), trivial⟩
     rw [List.mem_singleton.mp hp]; exact ho'
   | _ => trivial
 | _ => trivial
theorem sx_setI {o k value : Expr} {tp p : Pos} {f g h : St → Res V} (hv : SE u c value f) (ho : SE u c o g) (hk : SE u c k h)
   (hs : swapsWithSole [.Subscript o k tp] value p.line c.env = pure false) (hw : swappedStores [.Subscript o k tp] value c.env = pure none) :
   SX u c (.Assign [.Subscript o k tp] value p) (fun σ => (f σ).bind fun v σ => (g σ).bind fun a σ => (h σ).bind fun j σ => (putI v a j σ).bind fun _ σ => .ok .next σ) := fun W σ s i => by
 rw [PyProof.Rows.exec_Assign]
 refine Sim.standAt ?_
 rw [hs]
 refine Sim.congr (fun Q E q => wpAny_bind (wpAny_pure q)) ?_
 rw [if_neg (by decide)]
 refine (hv W σ s i).bind fun r v σ1 W1 s1 _ e1 i1 hr => ?_
 rw [hw]
 refine Sim.congr (fun Q E q => wpAny_bind (wpAny_pure q)) ?_
 have inner : Sim u c (fun _ (_ : Unit) (_ : Unit) => True) (assign (.Subscript o k tp) c.env r) ((g σ1).bind fun a σ => (h σ).bind fun j σ => putI v a j σ) W1 s1 := by
   rw [arm_assign_Subscript]
   refine (Sim.holding (ho W1 σ1 s1 i1)).bind fun x a σ2 W2 s2 _ e2 i2 hx => (Sim.holding (hk W2 σ2 s2 i2)).bind fun y j σ3 W3 s3 _ e3 i3 hy => Sim.standAt ?_
   have key := Sim.holding (vs := [r, x, y]) (putI_ok i3 (hx.ev e3) hy ((hr.ev e2).ev e3))
   revert key
   generalize putI v a j σ3 = q
   intro key
   cases q with
   | bad => trivial
   | ex _ _ _ => exact wpAny_bind (wpAny_mono key (fun _ _ x => x.elim) fun _ _ x => x)
   | ok _ σ4 => exact wpAny_bind (wpAny_mono key (fun _ s' q => wpAny_release q) fun _ _ x => x)
 have e : ((g σ1).bind fun a σ => (h σ).bind fun j σ => (putI v a j σ).bind fun _ σ => .ok Fl.next σ) = (((g σ1).bind fun a σ => (h σ).bind fun j σ => putI v a j σ).bind fun _ σ => .ok Fl.next σ) := by
   cases g σ1 with
   | ok a σ2 =>
     show (h σ2).bind _ = ((h σ2).bind _).bind _
     cases h σ2 <;> rfl
   | _ => rfl
 rw [e]
 exact Sim.bind (t := assign (.Subscript o k tp) c.env r) inner fun _ _ _ W4 s4 _ e4 i4 _ => Sim.pure i4 .next
end
section
variable {u : U} {c : Cx} {W : Wd} {σ : St} {s : Shared}
noncomputable def Wd.drop (W : Wd) (it : Addr) : Wd := { W with fz := W.fz.filter fun p => p.1 != it }
theorem q7p {W : Wd} {it : Addr} {p : Addr × Obj} : p ∈ (W.drop it).fz ↔ p ∈ W.fz ∧ p.1 ≠ it := by
 show p ∈ W.fz.filter _ ↔ _
 rw [List.mem_filter]
 simp
structure Dr (u : U) (W : Wd) (it : Addr) : Prop where
 nd : ∀ o, (it, o) ∈ W.fz → q2n o
theorem Dr.sub {it : Addr} (d : Dr u W it) : Sub W (W.drop it) := ⟨fun p h n => q7p.mpr ⟨h, fun e => n (d.nd p.2 (e ▸ h))⟩, fun _ _ h => h⟩
theorem drop_led {W : Wd} {it : Addr} {p : Addr × Obj} (h : p ∈ (W.drop it).led) : p ∈ W.led := (List.mem_append.mp h).elim (fun h => q0u (q7p.mp h).1) fun h => q0k (W := W) h
theorem Inv.drop (i : Inv u c W σ s) {it : Addr} (d : Dr u W it) : Inv u c (W.drop it) σ s :=
 ⟨i.F, fun p hp => i.N p (drop_led hp), ⟨i.ap.nd, fun p hp => i.ap.fz p (q7p.mp hp).1⟩,
   fun x v hv => ⟨fun hk => ((i.loc x v hv).1 hk).imp fun r h => ⟨h.1, h.2.sub d.sub⟩, (i.loc x v hv).2⟩, i.hp.sub d.sub, (fun p hp => (i.tb p hp).sub d.sub), i.frs, i.dic, i.gens, i.os⟩
theorem Ev.le {W W' : Wd} (e : Ev W W') : Le W W' := ⟨e.fz, fun _ _ h => e.get h⟩
set_option genCtorIdx false in
inductive Src where
 | seq (v : V)
 | rng (a b : Int)
noncomputable def q4d (src : Src) (H : List AO) (i : Nat) : Option (Option V) := Src.casesOn src (fun v => (oS v fun l => some (l[i]?.map fun k => V.str [k])).or ((lsOf H v).map (·[i]?))) (fun a b => some (if a + i < b then some (.int (a + i)) else none))
noncomputable def q0z (src : Src) (H : List AO) : Nat := Src.casesOn src (fun v => ((oS v fun l => some (l.length + 1)).or ((lsOf H v).map fun l => l.length + 1)).getD 0) (fun a b => (b - a).toNat + 1)
inductive Same1 (s : Shared) (it : Addr) : Shared → Prop where | mk {h' : Heap} {tk : Nat} (k : ∀ b o, b ≠ it → s.heap.get? b = some o → h'.get? b = some o) : Same1 s it { s with heap := h', toks := tk }
inductive Nx (u : U) (W : Wd) (St : Heap → Prop) (s : Shared) : Option V → Option Value → Prop where
 | none : Nx u W St s none none
 | some {v : V} {y : Value} (r : Rep u W y v) (h : St s.heap) : Nx u W St s (some v) (some y)
structure Iter (u : U) (c : Cx) (W₀ : Wd) (src : Src) (it : Addr) (St : Nat → Heap → Prop) : Prop where
 frame : ∀ i h h', St i h → (∀ o, h.get? it = some o → h'.get? it = some o) → St i h'
 data : ∀ i h, St i h → ∃ o, h.get? it = some o ∧ q2n o
 self : ∀ i (s : Shared) (Q : Value → Shared → Prop) (E : Value → Shared → Prop), St i s.heap → Q (.ref it) s → wpAny u.M c.A (pyIter (.ref it)) Q E s
 next : ∀ (c' : Cx) i W σ s r, c'.Ok → c'.A = c.A → Le W₀ W → Inv u c' W σ s → it ∉ W.led.map (·.1) → St i s.heap → q4d src σ.hp i = some r →
   wpAny u.M c.A (pyNext (.ref it)) (fun x s' => Same1 s it s' ∧ Nx u W (St (i + 1)) s' r x) (fun _ _ => False) s
noncomputable def RepS (u : U) (W : Wd) (r : Value) (src : Src) : Prop := Src.casesOn src (fun v => Rep u W r v ∧ ∀ l, v = .str l → l.all (· < 128) = true)
 (fun a b => ∃ ra t1 t2 t3, r = .ref ra ∧ (ra, ({ cls := .type "range", data := .fields #[.int a t1, .int b t2, .int 1 t3] } : Obj)) ∈ W.fz ∧ Builtin.Range.small a b 1 = true)
inductive j2a (u : U) (c : Cx) (W : Wd) (src : Src) (s : Shared) : Value → Shared → Prop where
 | mk (St : Nat → Heap → Prop) (o : Obj) (I : Iter u c W src s.heap.objs.size St) (h0 : St 0 (s.heap.push o)) : j2a u c W src s (.ref s.heap.objs.size) { s with heap := s.heap.push o }
theorem j4s {o : Obj} {n : String} (q2 : o.cls = .type n) (h : n ≠ "tuple" ∧ n ≠ "list" ∧ n ≠ "dict") (h2 : ∀ fd, o.data ≠ .func fd) (h3 : ∀ vs q t, o.data = .fields vs → vs[1]? ≠ some (.str q t)) : q2n o :=
 ⟨fun z => h.1 (by injection q2.symm.trans z), fun z => h.2.1 (by injection q2.symm.trans z), fun z => h.2.2 (by injection q2.symm.trans z), fun C z => (nomatch q2.symm.trans z), h2, h3⟩
theorem iter_seq (ok : c.Ok) (i : Inv u c W σ s) {r : Value} {v : V} {l : List V} (hr : Rep u W r v) (hl : lsOf σ.hp v = some l) (hns : ∀ m, v ≠ .str m) :
   wpAny u.M c.A (pyIter r) (j2a u c W (.seq v) s) (fun _ _ => False) s := by
 cases q4y i hr hl with | @mk a vs L R => ?_
 refine wpAny_pyIter_list L ⟨fun k h => h.IsListIter s.heap.objs.size a k, _, ⟨fun k h h' ⟨o, q, r⟩ e => ⟨o, e _ q, r⟩, fun k h ⟨o, q1, q2, q3⟩ => ⟨o, q1, ?_⟩, fun k s Q E hst q => wpAny_pyIter_listiter hst q, fun c' k W' σ' s' r ok' hA e' i' hit hst hn => ?_⟩, ⟨_, Heap.get?_push_size _ rfl, rfl, by rfl⟩⟩
 · exact j4s q2 (by decide) (fun fd z => nomatch q3.symm.trans z) fun vs q t z w => by rw [q3] at z; cases z; cases w
 · rcases or_s hn with hn | hn
   · obtain ⟨m, e, _⟩ := oS_s hn
     exact absurd e (hns m)
   obtain ⟨l', hl', rfl⟩ := q3p hn
   cases q4y i' (hr.le e') hl' with | mk L' R' => ?_
   cases hx : l'[k]? with
   | none =>
     refine wpAny_pyNext_list_end ok.handled hst L' ?_ fun h' hs => ⟨.mk (tk := s'.toks) hs, .none⟩
     rw [List.getElem?_toArray, List.getElem?_eq_none_iff, R'.length]
     exact List.getElem?_eq_none_iff.mp hx
   | some y =>
     obtain ⟨r, h1, h2⟩ := R'.get hx
     exact wpAny_pyNext_list_item hst L' (x := r) (by rw [List.getElem?_toArray]; exact h1) fun h' hit' hs => ⟨.mk (tk := s'.toks) hs.extBut, .some h2 hit'⟩
theorem iter_str (ok : c.Ok) (i : Inv u c W σ s) {l : List Nat} {t : Tok} (ha : l.all (· < 128) = true) :
   wpAny u.M c.A (pyIter (.str (St0 l) t)) (j2a u c W (.seq (.str l)) s) (fun _ _ => False) s := by
 refine wpAny_pyIter_ascii (by simpa using ha) ⟨fun k h => h.IsStrIter s.heap.objs.size "str_ascii_iterator" (St0 l) t k, _, ⟨fun k h h' ⟨o, q, r⟩ e => ⟨o, e _ q, r⟩, fun k h ⟨o, q1, q2, q3⟩ => ⟨o, q1, ?_⟩, fun k s Q E hst q => wpAny_pyIter_striter_ascii hst q, fun c' k W' σ' s' r ok' hA e' i' hit hst hn => ?_⟩, ⟨_, Heap.get?_push_size _ rfl, rfl, by rfl⟩⟩
 · exact j4s q2 (by decide) (fun fd z => nomatch q3.symm.trans z) fun vs q t z w => by rw [q3] at z; cases z; cases w
 · cases Option.some.inj hn
   cases hx : l[k]? with
   | none => exact wpAny_pyNext_ascii_end ok.handled hst (by rw [List.getElem?_toArray]; exact hx) fun h' hs => ⟨.mk (tk := s'.toks) hs, .none⟩
   | some y => exact wpAny_pyNext_ascii_item hst (c := y) (by rw [List.getElem?_toArray]; exact hx) fun h' hit' hs => ⟨.mk hs.extBut, .some (.str [y] _) hit'⟩
theorem iter_rng (ok : c.Ok) (i : Inv u c W σ s) {r : Value} {a b : Int} (hr : RepS u W r (.rng a b)) :
   wpAny u.M c.A (pyIter r) (j2a u c W (.rng a b) s) (fun _ _ => False) s := by
 obtain ⟨ra, t1, t2, t3, rfl, hm, hsm⟩ := hr
 refine wpAny_pyIter_range (i.N _ (q0u hm)).1 hsm ⟨fun k h => IsRangeIter h s.heap.objs.size (a + (k : Nat)) ((b - a).toNat - (k : Nat)) 1, _, ⟨fun k h h' q e => e _ q, fun k h q => ⟨_, q, j4s rfl (by decide) (fun fd => nofun) fun vs q t z w => by cases z; cases w⟩, fun k s Q E hst q => wpAny_pyIter_rangeiter hst q, fun c' k W' σ' s' r ok' hA e' i' hit hst hn => ?_⟩, ?_⟩
 · cases Option.some.inj hn
   by_cases hlt : a + k < b
   · rw [if_pos hlt]
     refine wpAny_pyNext_range_item hst (by omega) fun h' hit' hs => ⟨.mk hs.extBut, .some (.int _ _) ?_⟩
     show IsRangeIter h' _ (a + ((k + 1 : Nat) : Int)) (((b - a).toNat : Int) - ((k + 1 : Nat) : Int)) 1
     rw [Int.natCast_add, ← Int.add_assoc, ← Int.sub_sub]; exact hit'
   · rw [if_neg hlt]
     exact wpAny_pyNext_range_end ok.handled hst (by omega) fun h' hs => ⟨.mk (tk := s'.toks) hs, .none⟩
 · show IsRangeIter (s.heap.push _) _ (a + 0) (((b - a).toNat : Int) - 0) 1
   have e : Builtin.Range.rangeSize a b 1 = ((b - a).toNat : Int) := by rw [PySem.rangeSize_one]; split <;> omega
   rw [Int.add_zero, Int.sub_zero, ← e]
   exact Heap.get?_push_size _ rfl
end
section
variable {u : U} {c : Cx} {W : Wd} {σ : St} {s : Shared}
noncomputable def SI (u : U) (c : Cx) (e : Expr) (f : St → Res Src) : Prop := ∀ W σ s, Inv u c W σ s → Sim u c (RepS u) (eval e c.env) (f σ) W s
noncomputable def seqS (H : List AO) (v : V) : Option Src := (oS v fun l => oIf (l.all (· < 128) = true) (some (.seq v))).or ((lsOf H v).map fun _ => .seq v)
theorem seqS_s {H : List AO} {v : V} {src : Src} (h : seqS H v = some src) : src = .seq v ∧ ∀ l, v = .str l → l.all (· < 128) = true := by
 rcases or_s h with h | h
 · obtain ⟨l, rfl, h⟩ := oS_s h
   obtain ⟨hq, h⟩ := q0h h
   exact ⟨(Option.some.inj h).symm, fun m e => by cases e; exact hq⟩
 · obtain ⟨l, hl, h⟩ := q3p h
   exact ⟨h.symm, fun m e => by subst e; exact nn hl⟩
theorem si_val {e : Expr} {f : St → Res V} (h : SE u c e f) : SI u c e (fun σ => (f σ).bind fun v σ => ores (seqS σ.hp v) σ) := fun W σ s i => by
 have H := h W σ s i
 show Sim u c (RepS u) (eval e c.env) ((f σ).bind fun v σ => ores (seqS σ.hp v) σ) W s
 revert H
 generalize f σ = r
 intro H
 cases r with
 | bad => trivial
 | ex C m σ1 => exact H
 | ok v σ1 =>
   show Sim u c (RepS u) (eval e c.env) (ores (seqS σ1.hp v) σ1) W s
   refine Sim.ores fun src hs => ?_
   obtain ⟨rfl, h2⟩ := seqS_s hs
   exact wpAny_mono H (fun r s1 h_ => h_.k fun W' e1 i1 hr => ⟨W', e1, i1, hr, h2⟩) fun _ _ x => x
noncomputable def rngV (vs : List V) : Option Src := (o1 vs fun v => oI v fun n => oIf (0 ≤ n ∧ n ≤ 100000) (some (.rng 0 n))).or (o2 vs fun a b => oII a b fun a b => oIf (0 ≤ a ∧ a ≤ 100000 ∧ 0 ≤ b ∧ b ≤ 100000) (some (.rng a b)))
theorem j0g {x : Int} (h1 : 0 ≤ x) (h2 : x ≤ 100001) : Builtin.Range.rangeFitsLong x = true := by
 unfold Builtin.Range.rangeFitsLong
 rw [Bool.and_eq_true_iff, decide_eq_true_eq, decide_eq_true_eq]
 omega
theorem j6s {a b : Int} (h1 : 0 ≤ a) (h2 : a ≤ 100000) (h3 : 0 ≤ b) (h4 : b ≤ 100000) : Builtin.Range.small a b 1 = true := by
 unfold Builtin.Range.small
 rw [PySem.rangeSize_one]
 have h5 : 0 ≤ (if a < b then b - a else 0) ∧ (if a < b then b - a else 0) ≤ 100001 := by split <;> omega
 rw [show b + (1 - 1) = b by omega]
 simp only [j0g h1 (by omega), j0g h3 (by omega), j0g (x := 1) (by decide) (by decide), j0g h5.1 h5.2, Bool.true_and, Bool.and_true]
 rw [if_pos (show (1 : Int) > 0 by decide), Bool.or_true]
theorem si_range {x : Str} {np pos : Pos} {es : List Expr} {fa : St → Res (List V)} (hx : SE u c (.Name x np) (fun σ => .ok (.val (.type "range")) σ)) (ha : SEs u c es fa) (hn : (starEach es c.env).all (!·.1) = true) :
   SI u c (.Call (.Name x np) es [] pos) (fun σ => (fa σ).bind fun vs σ => ores (rngV vs) σ) := fun W σ s i => by
 rw [arm_eval_Call_Name']
 refine Sim.bindOk (t := eval (.Name x np) c.env) (hx W σ s i) fun r W1 s1 e1 i1 hr => ?_
 rw [q6r hr]
 have H := ha pos W1 σ s1 i1
 show Sim u c (RepS u) _ ((fa σ).bind fun vs σ => ores (rngV vs) σ) W1 s1
 revert H
 generalize fa σ = r
 intro H
 cases r with
 | bad => trivial
 | ex C m σ1 => exact q1r (q3c hn) (wpAny_mono H (fun _ _ x => x.elim) fun _ _ x => x)
 | ok vs σ1 =>
   show Sim u c (RepS u) _ (ores (rngV vs) σ1) W1 s1
   refine Sim.ores fun src hv => ?_
   refine q1r (q3c hn) (q8k H fun W2 rs s2 e2 i2 hrs => ⟨(j2v (c := c) (id := "range") W2 σ1 s2 i2).imp fun k h => ⟨h.1, h.2 _⟩, ?_⟩)
   rcases or_s hv with hv | hv
   · obtain ⟨v, rfl, h2⟩ := o1_s hv
     obtain ⟨n, rfl, h3⟩ := oI_s h2
     obtain ⟨hq, h4⟩ := q0h h3
     cases Option.some.inj h4
     refine q4u hrs (P := fun rs => wpAny u.M c.A (call (.type "range") ([] ++ rs)) _ _ s2) fun r a => ?_
     induction a.it with | mk t => ?_
     exact call_range_1 ⟨_, e2.trans (W2.addF_ev _ _), i2.addF (tk := s2.toks + 1 + 1) (i2.F.push _) (News.push i2.F i2.N _) i2.fresh, _, _, _, _, rfl, .head _, j6s (by decide) (by decide) hq.1 hq.2⟩
   · obtain ⟨a, b, rfl, h2⟩ := o2_s hv
     cases hrs.cs with | mk h1 g => ?_
     induction g.cs with | mk h3 g2 => ?_
     cases g2.nl
     refine q1p h1 h3 h2 (P := fun x y => wpAny u.M c.A (call (.type "range") ([] ++ [x, y])) (Got u c (RepS u) W1 σ1 src) No s2) fun m n t t' e => ?_
     obtain ⟨hq, e⟩ := q0h e
     cases Option.some.inj e
     exact call_range_2 ⟨_, e2.trans (W2.addF_ev _ _), i2.addF (tk := s2.toks + 1) (i2.F.push _) (News.push i2.F i2.N _) i2.fresh, _, _, _, _, rfl, .head _, j6s hq.1 hq.2.1 hq.2.2.1 hq.2.2.2⟩
theorem iter_src (ok : c.Ok) (i : Inv u c W σ s) {r : Value} {src : Src} (hr : RepS u W r src) (hf : q0z src σ.hp ≠ 0) :
   wpAny u.M c.A (pyIter r) (j2a u c W src s) (fun _ _ => False) s := by
 cases src with
 | seq v =>
   obtain ⟨h1, h2⟩ := hr
   cases v with
   | str l => induction h1.sr with | mk t => exact iter_str ok i (h2 l rfl)
   | lst l => exact iter_seq ok i h1 rfl nofun
   | obj k =>
     cases hl : lsOf σ.hp (.obj k) with
     | none =>
       have hf : ((lsOf σ.hp (.obj k)).map fun l => l.length + 1).getD 0 ≠ 0 := hf
       rw [hl] at hf
       exact absurd rfl hf
     | some l => exact iter_seq ok i h1 hl nofun
   | _ => exact absurd rfl hf
 | rng a b => exact iter_rng ok i hr
noncomputable def forF (src : Src) (put : V → St → Res Unit) (g : St → Res Fl) (n : Nat) : Nat → St → Res Fl := Nat.rec (fun _ _ => .bad) (fun _ ih k σ => Option.casesOn (q4d src σ.hp k) .bad fun r => Option.casesOn r (.ok .next σ) fun v =>
 (put v σ).bind fun _ σ => (g σ).bind fun fl σ => Fl.casesOn fl (ih (k + 1) σ) fun v => .ok (.ret v) σ) n
theorem drop_ev {W W1 W2 : Wd} {it : Addr} {o : Obj} (h : it ∉ W.led.map (·.1)) (e : Ev (W.addF it o) W2) : Ev W (W2.drop it) :=
 ⟨fun p hp => q7p.mpr ⟨e.fz p (List.mem_cons_of_mem _ hp), fun q => h (q ▸ q2f (q0u hp))⟩, e.hp, e.tb, e.fr⟩
theorem hold_it (i : Inv u c W σ s) {it : Addr} {o : Obj} (hl : it ∉ W.led.map (·.1)) (hL : it ≠ c.env.locals) (hB : u.B.get? it = none) (ho : s.heap.get? it = some o) : Inv u c (W.addF it o) σ s :=
 i.addF (h' := s.heap) (tk := s.toks) i.F (fun p hp => (List.mem_cons.mp hp).elim (fun e => e ▸ ⟨ho, hL, hB⟩) (i.N p)) fun z => hl (by
   obtain ⟨p, hp, e⟩ := List.mem_map.mp z
   exact e ▸ q2f (q0k hp))
inductive Freed (u : U) (c : Cx) (W : Wd) (σ : St) (s : Shared) (it : Addr) (o : Obj) : Prop where
 | mk (i : Inv u c (W.drop it) σ s) (hl : it ∉ (W.drop it).led.map (·.1)) (hL : it ≠ c.env.locals) (hB : u.B.get? it = none) (ho : s.heap.get? it = some o)
theorem free_it {W2 : Wd} {σ2 : St} {s2 : Shared} (i2 : Inv u c W2 σ2 s2) {it : Addr} {o : Obj} (hm : (it, o) ∈ W2.fz) (hd : q2n o) : Freed u c W2 σ2 s2 it o := by
 have N := i2.N _ (q0u hm)
 have d : Dr u W2 it := ⟨fun o' h' => by
   have e : o = o' := Option.some.inj (N.1.symm.trans (i2.N _ (q0u h')).1)
   exact e ▸ hd⟩
 exact ⟨i2.drop d, q4e fun p hp e => (List.mem_append.mp hp).elim (fun hp => (q7p.mp hp).2 e) fun hp => i2.ap.sep.zm _ hm p hp e.symm, N.2.1, N.2.2, N.1⟩
inductive ForI (u : U) (c : Cx) (W₀ W : Wd) (src : Src) (it : Addr) (St : Nat → Heap → Prop) (put : V → Mi.St → Res Unit) (g : Mi.St → Res Fl) (r : Res Fl) (n : Nat) (s : Shared) : Prop where
 | mk (k : Nat) (W' : Wd) (σ' : Mi.St) (e0 : Le W₀ W') (e : Ev W W') (i : Inv u c W' σ' s) (hl : it ∉ W'.led.map (·.1)) (hL : it ≠ c.env.locals) (hB : u.B.get? it = none) (st : St k s.heap) (h : forF src put g n k σ' = r)
theorem for_code (fn : c.Fn) (ok : c.Ok) {x : String} {px : Pos} {body : List Stmt} {g : St → Res Fl} {cell : Bool} (hk : c.env.kindOf (Str.ofString x) = some (if cell then .cell else .local)) (hb : SB u c body g)
   {W₀ : Wd} {src : Src} {it : Addr} {St : Nat → Heap → Prop} (I : Iter u c W₀ src it St) {r : Res Fl} (hne : r ≠ .bad) {n : Nat} (h : ForI u c W₀ W src it St (q1k cell x) g r n s) :
   codeAny u.M c.A (.forLoop (.Name (Str.ofString x) px) (.ref it) body [] c.env) (q6d u c W r) s := by
 suffices H : ∀ (R : Result → Shared → Prop) (J : Nat → Shared → Prop), (∀ x s, q6d u c W r x s → R x s) → (∀ n s, ForI u c W₀ W src it St (q1k cell x) g r n s → J n s) → (∀ n s, J n s → ForI u c W₀ W src it St (q1k cell x) g r n s) → codeAny u.M c.A (.forLoop (.Name (Str.ofString x) px) (.ref it) body [] c.env) R s from H _ _ (fun _ _ h => h) (fun _ _ h => h) fun _ _ h => h
 intro R J hR hJ hJ2
 refine codeAny_forLoop J (fun n s h => ?_) n (hJ _ _ h)
 have h := hJ2 _ _ h
 obtain ⟨k, W', σ', e0, e, i, hl, hL, hB, hst, h⟩ := h
 cases n with
 | zero => exact absurd h.symm hne
 | succ n =>
   change Option.casesOn (motive := fun _ => Res Fl) (q4d src σ'.hp k) _ _ = r at h
   cases hn : q4d src σ'.hp k with
   | none => rw [hn] at h; exact absurd h.symm hne
   | some q =>
     rw [hn] at h
     refine wpAny_mono (I.next c k W' σ' s q ok rfl e0 i hl hst hn) (fun z s1 h1 => ?_) fun _ _ x => x.elim
     obtain ⟨h1, hz⟩ := h1
     cases h1 with | @mk h' tk hsame => ?_
     have i1 := i.other (tk := tk) hl hL hB hsame
     cases hz with
     | none =>
       exact wpAny_execs_nil (hR (.ok .next) _ (h ▸ (⟨W', e, i1, .next⟩ : Got u c (q2m u) W σ' .next .next _)))
     | @some v y hy hst1 =>
       obtain ⟨o, ho, hd⟩ := I.data _ _ hst1
       have i2 := hold_it i1 hl hL hB ho
       have e2 := W'.addF_ev it o
       have eW : Ev W (W'.addF it o) := e.trans e2
       have h : (q1k cell x v σ').bind _ = r := h
       have P : Sim u c (fun _ (_ : Unit) (_ : Unit) => True) (do standAt px; bindName c.env (Str.ofString x) y) (q1k cell x v σ') (W'.addF it o) { s with heap := h', toks := tk } := Sim.standAt (q9w ok i2 (x := x) (cell := cell) hk (hy.ev e2))
       refine P.use (fun _ σ2 q1 _ s2 G => ?_) (fun C m σ2 q1 e' s2 T => T.note fn ok fun s3 T3 => ?_) fun q => hne (by rw [← h, q]; rfl)
       · obtain ⟨W2, e3, i3, _⟩ := G
         rw [q1] at h
         have h : (g σ2).bind _ = r := h
         refine (hb W2 σ2 s2 i3).use (fun fl σ3 q2 f' s3 G => ?_) (fun C m σ3 q2 e' s3 T => T.note fn ok fun s4 T4 => ?_) fun q => hne (by rw [← h, q]; rfl)
         · obtain ⟨W3, e4, i4, hfl⟩ := G
           rw [q2] at h
           cases hfl with
           | next =>
             obtain ⟨j1, j2, j3, j4, j5⟩ := free_it i4 (e4.fz _ (e3.fz _ (.head _))) hd
             have ev3 : Ev W' (W3.drop it) := drop_ev (W1 := W') hl (e3.trans e4)
             exact ⟨n, Nat.lt_succ_self n, hJ _ _ ⟨k + 1, _, σ3, ⟨fun p hp => ev3.fz p (e0.fz p hp), fun a b hh => ev3.get (e0.ad a b hh)⟩, e.trans ev3, j1, j2, j3, j4, I.frame _ _ _ hst1 fun o' q => by cases Option.some.inj (ho.symm.trans q); exact j5, h⟩⟩
           | ret hr => exact hR (.ok (.ret _)) _ (h ▸ (⟨W3, (eW.trans e3).trans e4, i4, .ret hr⟩ : Got u c (q2m u) W σ3 (.ret _) (.ret _) _))
         · rw [q2] at h
           exact hR (.error _) _ (h ▸ T4.ev (eW.trans e3))
       · rw [q1] at h
         exact hR (.error _) _ (h ▸ T3.ev eW)
theorem sx_for (fn : c.Fn) (ok : c.Ok) {x : String} {px : Pos} {iter : Expr} {body : List Stmt} {p : Pos} {f : St → Res Src} {g : St → Res Fl} {cell : Bool} (hi : SI u c iter f) (hk : c.env.kindOf (Str.ofString x) = some (if cell then .cell else .local)) (hb : SB u c body g)
   (hs : ∀ x, foldedSetIterable iter c.env x = pure x) :
   SX u c (.For (.Name (Str.ofString x) px) iter body [] p) (fun σ => (f σ).bind fun src σ => forF src (q1k cell x) g (q0z src σ.hp) 0 σ) := fun W σ s i => by
 rw [PySem.exec_For]
 refine Sim.standAt ((hi W σ s i).bind fun r src σ1 W1 s1 _ e1 i1 hr => ?_)
 rw [hs]
 refine Sim.congr (fun Q E q => wpAny_bind (wpAny_pure (wpAny_bind (wpAny_standAt q)))) ?_
 have hL : c.env.locals < s1.heap.objs.size := by
   obtain ⟨o, _, _, h1, _⟩ := i1.F.ns
   exact Heap.lt_size h1
 have key : ∀ q, forF src (q1k cell x) g (q0z src σ1.hp) 0 σ1 = q → q ≠ .bad → ∀ v s2, j2a u c W1 src s1 v s2 → codeAny u.M c.A (.forLoop (.Name (Str.ofString x) px) v body [] c.env) (q6d u c W1 q) s2 := fun q hq hne v s2 h => by
   cases h with | mk St o I h0 => ?_
   exact for_code fn ok hk hb I hne ⟨0, W1, σ1, (Ev.refl W1).le, .refl W1, i1.keeps (tk := s1.toks) fun b o' q => Heap.get?_push_of_some _ q, i1.fresh', Nat.ne_of_gt hL, Heap.get?_none_of_le (Nat.le_trans i1.F.above (Nat.le_of_lt hL)), h0, hq⟩
 have T : ∀ q, forF src (q1k cell x) g (q0z src σ1.hp) 0 σ1 = q → q ≠ .bad → wpAny u.M c.A (pyIter r) (j2a u c W1 src s1) (fun _ _ => False) s1 := fun q hq hne => iter_src ok i1 hr fun z => hne (by rw [← hq, z]; rfl)
 cases hr : forF src (q1k cell x) g (q0z src σ1.hp) 0 σ1 with
 | bad => trivial
 | ok fl σ' => exact wpAny_bind (wpAny_holding (wpAny_mono (T _ hr nofun) (fun v s2 h => wpAny_runOwn (codeAny_mono (key _ hr nofun v s2 h) fun r s3 h => by cases r with
   | ok f => exact h
   | error e => exact h.elim)) fun _ _ x => x.elim))
 | ex C m σ' => exact wpAny_bind (wpAny_holding (wpAny_mono (T _ hr nofun) (fun v s2 h => wpAny_runOwn (codeAny_mono (key _ hr nofun v s2 h) fun r s3 h => by cases r with
   | ok f => exact h.elim
   | error e => exact Threw.k h fun W' e1 R1 => q6v R1 e1)) fun _ _ x => x.elim))
end
section
variable {u : U} {c : Cx} {W : Wd} {σ : St} {s : Shared}
noncomputable def STL (u : U) (c : Cx) (ifs : List Expr) (f : St → Res Bool) : Prop := ∀ W σ s, Inv u c W σ s → Sim u c (fun _ a b => a = b)
 (forIn ifs true fun e r => if r = true then do let ok ← isTrue e c.env (eval e c.env); pure (ForInStep.yield ok) else pure (ForInStep.yield r)) (f σ) W s
theorem stl_nil : STL u c [] (fun σ => .ok true σ) := fun W σ s i => Sim.pure i rfl
theorem stl_one {e : Expr} {f : St → Res Bool} (h : ST u c e f) : STL u c [e] f := fun W σ s i => by
 have H := h W σ s i
 revert H
 generalize f σ = r
 intro H
 cases r with
 | bad => trivial
 | ok b σ' => exact wpAny_tests_one H
 | ex C m σ' => exact wpAny_tests_one H
noncomputable def okB {α β : Type} (r : Res α) (k : α → St → Res β) : Res β := Res.casesOn r k (fun _ _ _ => .bad) .bad
theorem okB_s {α β : Type} {r : Res α} {k : α → St → Res β} {x : β} (h : okB r k = .ok x σ) : ∃ a σ1, r = .ok a σ1 ∧ k a σ1 = .ok x σ := by
 cases r with
 | ok a σ1 => exact ⟨a, σ1, rfl, h⟩
 | ex => cases h
 | bad => cases h
noncomputable def q9t (src : Src) (x : String) (t : St → Res Bool) (g : St → Res V) (d n : Nat) : Nat → St → Res Unit := Nat.rec (fun _ _ => .bad) (fun _ ih k σ => Option.casesOn (q4d src σ.hp k) .bad fun r => Option.casesOn r (.ok () σ) fun v =>
 okB (t (σ.set x v)) fun b σ1 => if b = true then okB (g σ1) fun y σ2 => okB (q5h y d σ2) fun _ σ3 => ih (k + 1) σ3 else ih (k + 1) σ1) n
noncomputable def clo (env : Env) (names : List (Str × NameKind)) : List (Str × Addr) := ((names.filter (·.2 == .free)).map fun p => (p.1, (env.cells.lookup p.1).getD 0)).reverse
theorem j3e {env : Env} {scope : Scope} (h : ∀ p ∈ scope.names, p.2 = .free → ∃ a, env.cells.lookup p.1 = some a) : closureFor scope env = pure (clo env scope.names) := by
 simp only [closureFor]
 have key : ∀ (l : List (Str × NameKind)) (acc : List (Str × Addr)), (∀ p ∈ l, p.2 = .free → ∃ a, env.cells.lookup p.1 = some a) →
     (forIn l acc fun (x : Str × NameKind) (cs : List (Str × Addr)) => (match x with
       | (name, kind) => if (kind == NameKind.free) = true then do let a ← cellOf env name; pure (ForInStep.yield ((name, a) :: cs)) else pure (ForInStep.yield cs) : Sem (ForInStep (List (Str × Addr))))) = pure (clo env l ++ acc) := by
   intro l
   induction l with
   | nil => intro acc _; rfl
   | cons p l ih =>
     intro acc h
     obtain ⟨n, k⟩ := p
     rw [List.forIn_cons]
     dsimp only
     cases hk : (k == NameKind.free) with
     | true =>
       have hk' : k = .free := by simpa using hk
       obtain ⟨a, ha⟩ := h (n, k) (.head _) hk'
       rw [if_pos rfl]
       have e : cellOf env n = pure a := by unfold cellOf; rw [show env.cells.lookup n = some a from ha]
       rw [e]
       simp only [pure_bind]
       rw [ih _ fun p hp => h p (.tail _ hp)]
       unfold clo
       simp only [List.filter_cons, hk, if_true, List.map_cons, List.reverse_cons, List.append_assoc, List.cons_append, List.nil_append, show env.cells.lookup n = some a from ha, Option.getD_some]
     | false =>
       rw [if_neg Bool.false_ne_true]
       simp only [pure_bind]
       rw [ih _ fun p hp => h p (.tail _ hp)]
       unfold clo
       simp only [List.filter_cons, hk, Bool.false_eq_true, if_false]
 have := key scope.names [] h
 rw [List.append_nil] at this
 first
   | exact this
   | (rw [this]; rfl)
   | (simp only [this]; rfl)
theorem j3f {env : Env} {names : List (Str × NameKind)} {n : Str} {a : Addr} (hn : (n, NameKind.free) ∈ names) (h : env.cells.lookup n = some a) : (clo env names).lookup n = some a := by
 have all : ∀ p ∈ clo env names, p.2 = (env.cells.lookup p.1).getD 0 := fun p hp => by
   obtain ⟨q, _, rfl⟩ := List.mem_map.mp (List.mem_reverse.mp hp)
   rfl
 have hm : (n, a) ∈ clo env names := List.mem_reverse.mpr (List.mem_map.mpr ⟨(n, .free), List.mem_filter.mpr ⟨hn, rfl⟩, by simp [h]⟩)
 cases hq : (clo env names).lookup n with
 | none =>
   have z := List.lookup_eq_none_iff.mp hq _ hm
   simp at z
 | some b =>
   obtain ⟨l1, l2, e, _⟩ := List.lookup_eq_some_iff.mp hq
   have := all (n, b) (by rw [e]; simp)
   simp only [h, Option.getD_some] at this
   rw [this]
noncomputable def compCx (c : Cx) (scope : Scope) (C : Addr) : Cx := ⟨compEnvC scope (clo c.env scope.names) C c.env, c.A, c.fenvs, c.room⟩
theorem compCx_ok (ok : c.Ok) {scope : Scope} {C : Addr} (hk : scope.kind = .function) : (compCx c scope C).Ok := ⟨hk, ok.glob, ok.blt, ok.frames, ok.handled, ok.depth, ok.units, ok.one⟩
inductive Looped (u : U) (c : Cx) (W : Wd) (σ : St) (r : Result) (s : Shared) : Prop where
 | mk (h : r = .ok .next) (W' : Wd) (e : Ev W W') (i : Inv u c W' σ s)
theorem Looped.ev {W W' : Wd} {r : Result} (e : Ev W W') (h : Looped u c W' σ r s) : Looped u c W σ r s := h.casesOn fun a b d i => ⟨a, b, e.trans d, i⟩
theorem comp_code (ok : c.Ok) {elt iter : Expr} {x : String} {px pos : Pos} {ifs : List Expr} {scope : Scope} {t : St → Res Bool} {g : St → Res V} (hk : c.env.kindOf (Str.ofString x) = some .local) (ht : STL u c ifs t) (hg : SE u c elt g)
   {W₀ : Wd} {src : Src} {it D : Addr} {d : Nat} {A : Around} (hA : c.A = A) {St : Nat → Heap → Prop} {c₀ : Cx} (hA₀ : c₀.A = A) (I : Iter u c₀ W₀ src it St) {σ' : Mi.St} (n : Nat) : ∀ (k : Nat) (W : Wd) (σ : Mi.St) (s : Shared), Le W₀ W → Inv u c W σ s → it ∉ W.led.map (·.1) → it ≠ c.env.locals → u.B.get? it = none → St k s.heap →
   W.adr[d]? = some D → q9t src x t g d n k σ = .ok () σ' →
   codeAny u.M A (.compLoop (.ListComp elt [⟨.Name (Str.ofString x) px, iter, ifs, 0⟩] scope pos) 0 (.ref it) (.ref D) c.env) (Looped u c W σ') s := by
 subst hA
 induction n with
 | zero => intro k W σ s _ _ _ _ _ _ _ h; cases h
 | succ n ih =>
   intro k W σ s ev i hl hL hB hst hD hres
   refine codeAny_of_tree ?_
   rw [Around.under_of_weight (A := c.A) (c := .compLoop (.ListComp elt [⟨.Name (Str.ofString x) px, iter, ifs, 0⟩] scope pos) 0 (.ref it) (.ref D) c.env) rfl]
   refine wpAny_noted (m := compTurn (.ListComp elt [⟨.Name (Str.ofString x) px, iter, ifs, 0⟩] scope pos) 0 (.ref it) (.ref D) c.env) ?_
   rw [compTurn_list]
   revert ih
   generalize hcode : Code.compLoop (.ListComp elt [⟨.Name (Str.ofString x) px, iter, ifs, 0⟩] scope pos) 0 (.ref it) (.ref D) c.env = code
   have hquiet : code.quiet = true := by rw [← hcode]; rfl
   clear hcode
   intro ih
   refine wpAny_bind (wpAny_standAt ?_)
   change Option.casesOn (motive := fun _ => Res Unit) (q4d src σ.hp k) _ _ = _ at hres
   cases hn : q4d src σ.hp k with
   | none => rw [hn] at hres; cases hres
   | some r =>
     rw [hn] at hres
     have N := I.next c k W σ s r ok hA₀.symm ev i hl hst hn
     rw [hA₀] at N
     refine wpAny_bind (wpAny_mono N (fun z s1 h1 => ?_) fun _ _ x => x.elim)
     obtain ⟨h1, hz⟩ := h1
     induction h1 with | @mk h' tk hsame => ?_
     have i1 := i.other (tk := tk) hl hL hB hsame
     induction hz with
     | none =>
       cases hres
       exact wpAny_pure ⟨rfl, W, .refl W, i1⟩
     | @some v y hy hst1 =>
       obtain ⟨b, σ1, hb, h2⟩ := okB_s hres
       clear hres hn N
       obtain ⟨o, ho, hd⟩ := I.data _ _ hst1
       have i2 := hold_it i1 hl hL hB ho
       have e2 := W.addF_ev it o
       refine wpAny_bind (wpAny_of_eq (show letOwnedTupleGo (.Name (Str.ofString x) px) (.ref it) y = pure () from rfl) ?_)
       have P : Sim u c (fun _ (_ : Unit) (_ : Unit) => True) (do standAt px; bindName c.env (Str.ofString x) y) (.ok () (σ.set x v)) (W.addF it o) { s with heap := h', toks := tk } := Sim.standAt (sim_set ok i2 hk (hy.ev e2))
       refine wpAny_bind (m := do standAt px; bindName c.env (Str.ofString x) y) (q8k P fun W2 _ s2 e3 i3 _ => ?_)
       have T := ht W2 _ s2 i3
       rw [hb] at T
       refine wpAny_bind (q8k T fun W3 b' s3 e4 i4 hb' => ?_)
       subst hb'
       have go : ∀ (W4 : Wd) (σ4 : Mi.St) (s4 : Shared), Ev W2 W4 → Inv u c W4 σ4 s4 → q9t src x t g d n (k + 1) σ4 = .ok () σ' → codeAny u.M c.A code (Looped u c W σ') s4 := by
         intro W4 σ4 s4 e5 i5 hr
         obtain ⟨j1, j2, j3, j4, j5⟩ := free_it i5 (e5.fz _ (e3.fz _ (.head _))) hd
         have ev3 : Ev W (W4.drop it) := drop_ev (W1 := W) hl (e3.trans e5)
         exact codeAny_mono (ih (k + 1) _ σ4 s4 ⟨fun p hp => ev3.fz p (ev.fz p hp), fun a b hh => ev3.get (ev.ad a b hh)⟩ j1 j2 j3 j4 (I.frame _ _ _ hst1 fun o' q => by cases Option.some.inj (ho.symm.trans q); exact j5) (ev3.get hD) hr) fun r s5 h => h.ev ev3
       cases b' with
       | false =>
         rw [if_neg Bool.false_ne_true]
         exact wpAny_pure ⟨hquiet, go W3 σ1 s3 e4 i4 h2⟩
       | true =>
         rw [if_pos rfl]
         obtain ⟨y2, σ2, hgv, h3⟩ := okB_s (k := fun y σ2 => okB (q5h y d σ2) fun _ σ3 => q9t src x t g d n (k + 1) σ3) h2
         obtain ⟨w, σ3, hp, h4⟩ := okB_s h3
         have G := hg W3 σ1 s3 i4
         rw [hgv] at G
         refine wpAny_bind (wpAny_bind (q8k G fun W4 z s4 e5 i5 hz => ?_))
         have Pu := push_ok i5 (x := .ref D) (k := d) (.obj (e5.get (e4.get (e3.get (e2.get hD))))) hz
         rw [hp] at Pu
         refine wpAny_bind (q8k Pu fun W5 _ s5 e6 i6 _ => wpAny_pure ?_)
         exact wpAny_pure ⟨hquiet, go W5 σ3 s5 ((e4.trans e5).trans e6) i6 h4⟩
end
section
variable {u : U} {c : Cx} {W : Wd} {σ : St} {s : Shared}
noncomputable def q9s (fs : List String) (σ : St) : List (String × V) := fs.filterMap fun n => (σ.get n).map (n, ·)
theorem q5t {fs : List String} {σ : St} {x : String} {v : V} (h : (q9s fs σ).lookup x = some v) : x ∈ fs ∧ σ.get x = some v := by
 induction fs with
 | nil => exact nn h
 | cons n fs ih =>
   unfold q9s at h ih
   rw [List.filterMap_cons] at h
   cases hq : σ.get n with
   | none =>
     rw [hq] at h
     exact ⟨.tail _ (ih h).1, (ih h).2⟩
   | some w =>
     rw [hq] at h
     change ((n, w) :: _).lookup x = some v at h
     rw [lookup_cons] at h
     by_cases hx : x = n
     · rw [if_pos hx] at h
       exact ⟨hx ▸ .head _, hx ▸ hq.trans h⟩
     · rw [if_neg hx] at h
       exact ⟨.tail _ (ih h).1, (ih h).2⟩
structure q8e (c : Cx) (scope sc' : Scope) (x : String) (fs : List String) : Prop where
 rel : relabel scope c.env = sc'
 kind : scope.kind = .function
 isx : sc'.names.lookup (Str.ofString x) = some .local
 lk : ∀ y ∈ scope.names, y.2 = .local → scope.names.lookup y.1 = some .local
 cell : ∀ y ∈ scope.names, y.2 ≠ .cell
 fe : scope.names.filter (·.2 == .free) = fs.map fun n => (Str.ofString n, NameKind.free)
 fk : ∀ n ∈ fs, c.env.kindOf (Str.ofString n) = some .cell ∨ c.env.kindOf (Str.ofString n) = some .free
 nk : ∀ n ∈ fs, sc'.names.lookup (Str.ofString n) ≠ some .local
inductive j6k (u : U) (c : Cx) (W : Wd) (σ σ2 : St) : Value → Shared → Prop where
 | mk {D : Addr} {os : List (Addr × Obj)} {s1 : Shared} {oL : Obj} {c2 : Cx} {m : Str → Option Value} {W2 : Wd} {s2 : Shared} {h' : Heap} (hL : s1.heap.get? c.env.locals = some oL) (i1 : Inv u c W σ s1) (i1' : Inv u c (W.addH D os) { σ with hp := σ.hp ++ [.lst []] } s1)
     (ev : Ev ⟨m, W.fz, W.hp ++ [(D, os)], W.tb, (c.env.locals, oL) :: W.fr⟩ W2) (i2 : Inv u c2 W2 σ2 s2) (hB : u.B.get? c2.env.locals = none) (hne : c2.env.locals ≠ c.env.locals) (hsb : Heap.SameBut c2.env.locals s2.heap h') : j6k u c W σ σ2 (.ref D) { s2 with heap := h' }
theorem Inv.big (i : Inv u c W σ s) {a : Addr} (ha : s.heap.objs.size ≤ a) : a ≠ c.env.locals ∧ u.B.get? a = none ∧ a ∉ W.led.map (·.1) := by
 obtain ⟨o, _, _, q, _⟩ := i.F.ns
 have hL := Heap.lt_size q
 exact ⟨Nat.ne_of_gt (Nat.lt_of_lt_of_le hL ha), Heap.get?_none_of_le (Nat.le_trans i.F.above (Nat.le_trans (Nat.le_of_lt hL) ha)), q4e fun p hp => Nat.ne_of_lt (Nat.lt_of_lt_of_le (i.lt hp) ha)⟩
theorem free_name {scope sc' : Scope} {x n : String} {fs : List String} (K : q8e c scope sc' x fs) (h : n ∈ fs) : (Str.ofString n, NameKind.free) ∈ scope.names :=
 (List.mem_filter.mp (K.fe ▸ List.mem_map_of_mem h : (Str.ofString n, NameKind.free) ∈ scope.names.filter (·.2 == .free))).1
theorem comp_core (ok : c.Ok) {elt iter : Expr} {x : String} {px pos : Pos} {ifs : List Expr} {scope sc' : Scope} {fs : List String} {t : St → Res Bool} {g : St → Res V} (K : q8e c scope sc' x fs)
   (ht : ∀ c' : Cx, c'.Ok → c'.room = c.room → c'.env.scope = sc' → STL u c' ifs t) (hg : ∀ c' : Cx, c'.Ok → c'.room = c.room → c'.env.scope = sc' → SE u c' elt g)
   {r : Value} {src : Src} (i : Inv u c W σ s) (hr : RepS u W r src) {σ2 : St}
   (hres : q9t src x t g σ.hp.length (q0z src σ.hp) 0 ⟨q9s fs σ, σ.hp ++ [.lst []]⟩ = .ok () σ2) {Q : Value → Shared → Prop} {E : Value → Shared → Prop} (hQ : ∀ v s', j6k u c W σ σ2 v s' → Q v s') :
   wpAny u.M c.A (pyIter r) (fun it s₂ => wpAny u.M c.A (newList []) (fun acc s₃ => wpAny u.M c.A (newFunctionEnv scope c.env.globals (clo c.env scope.names) [] c.env.qual none .none (some c.env)) (fun cenv s₄ =>
     codeAny u.M c.A (.compStart (.ListComp elt [⟨.Name (Str.ofString x) px, iter, ifs, 0⟩] scope pos) 0 it acc { cenv with scope := relabel scope c.env }) (compPost u.M c.A E none Q acc cenv.locals) s₄) E s₃) E s₂) E s := by
 have hf : q0z src σ.hp ≠ 0 := fun q => by rw [q] at hres; cases hres
 refine wpAny_mono (iter_src ok i hr hf) (fun it s1 h1 => ?_) fun _ _ x => x.elim
 induction h1 with | mk St o I h0 => ?_
 obtain ⟨oio, hio, hdio⟩ := I.data _ _ h0
 have hsz1 : (s.heap.push o).objs.size = s.heap.objs.size + 1 := Heap.size_push ..
 generalize hD : (s.heap.push o).objs.size = D at hsz1
 refine wpAny_newObj_type (s := { s with heap := s.heap.push o }) ?_ (Nat.zero_le _)
 generalize hol : ({ cls := .type "list", dict := none, data := .seq ([] : List Value).toArray } : Obj) = ol
 show wpAny _ _ _ _ _ { s with heap := (s.heap.push o).push ol }
 rw [hD]
 have i2 : Inv u c W σ { s with heap := (s.heap.push o).push ol } := i.keeps (tk := s.toks) fun b o' q => Heap.get?_push_of_some _ (Heap.get?_push_of_some _ q)
 have hD2 : ((s.heap.push o).push ol).get? D = some ol := by rw [← hD]; exact Heap.get?_push_size _ (by rw [← hol]; rfl)
 have bD := i.big (a := D) (hsz1 ▸ Nat.le_succ _)
 have bI := i.big (Nat.le_refl _)
 have hDI : D ≠ s.heap.objs.size := hsz1 ▸ Nat.succ_ne_self _
 have i3 : Inv u c (W.addH D [(D, ol)]) { σ with hp := σ.hp ++ [.lst []] } { s with heap := (s.heap.push o).push ol } := i2.addH (tk := s.toks) i2.F (fun p hp => by
     rcases List.mem_append.mp hp with hp | hp
     · rw [List.mem_singleton.mp hp]; exact ⟨hD2, bD.1, bD.2.1⟩
     · exact i2.N p hp) (fun p hp => by rw [List.mem_singleton.mp hp]; exact bD.2.2) (List.nodup_cons.mpr ⟨nofun, .nil⟩) (hol ▸ .lst .nil)
 obtain ⟨oL, esL, epL, hL, _⟩ := i2.F.ns
 refine wpAny_newFunctionEnv (s := { s with heap := (s.heap.push o).push ol }) K.cell (fun x hx => nomatch hx) (fun h3 hns hsb => ?_) K.kind
 generalize hC : ((s.heap.push o).push ol).objs.size = C at hns hsb
 have hCD : C = D + 1 := by rw [← hC, Heap.size_push, hD]
 have bC := i.big (a := C) (by rw [hCD, hsz1]; exact Nat.le_succ_of_le (Nat.le_succ _))
 have k3 : ∀ b o', ((s.heap.push o).push ol).get? b = some o' → h3.get? b = some o' := fun b o' q => hsb.extBut b o' (Nat.ne_of_lt (hC ▸ Heap.lt_size q)) (Heap.get?_push_of_some _ q)
 have i4 := q7q (tk := s.toks + ([] : List (Str × Value)).length) (loc := q9s fs σ) i3 hL (c2 := compCx c scope C) hC.symm (fun e he => .inl he) (hC ▸ hns) k3 (fun x v hx => by
   obtain ⟨h1, h2⟩ := q5t hx
   obtain ⟨k, a, q1, q2, q3⟩ := (i3.loc x v h2).2 (K.fk x h1)
   have hkn : (compCx c scope C).env.kindOf (Str.ofString x) = sc'.names.lookup (Str.ofString x) := K.rel ▸ rfl
   exact ⟨fun hk => absurd (hkn ▸ hk) (K.nk x h1), fun _ => ⟨k, a, q1, q2, j3f (free_name K h1) q3⟩⟩)
 have ok' : (compCx c scope C).Ok := compCx_ok ok K.kind
 have hit : St 0 h3 := I.frame _ _ _ h0 fun o' q => by
   cases Option.some.inj (hio.symm.trans q)
   exact k3 _ _ (Heap.get?_push_of_some _ hio)
 have hCI : s.heap.objs.size ≠ C := by rw [hCD, hsz1]; exact Nat.ne_of_lt (Nat.lt_succ_of_lt (Nat.lt_succ_self _))
 have L1 := comp_code ok' (elt := elt) (iter := iter) (x := x) (px := px) (pos := pos) (ifs := ifs) (scope := scope) (d := σ.hp.length) (D := D) (A := c.A) (c₀ := c) (σ' := σ2) (K.rel ▸ K.isx : (relabel scope c.env).names.lookup _ = _) (ht _ ok' rfl K.rel) (hg _ ok' rfl K.rel) rfl rfl I (q0z src σ.hp) 0
   (⟨fun x => ([] : List (Str × Value)).reverse.lookup x, (W.addH D [(D, ol)]).fz, (W.addH D [(D, ol)]).hp, (W.addH D [(D, ol)]).tb, (c.env.locals, oL) :: (W.addH D [(D, ol)]).fr⟩ : Wd) _ _
   ⟨fun _ h => h, fun a b h => (W.addH_ev D [(D, ol)]).get h⟩ i4 (q4e fun p hp => q4n hp (fun h e => bI.2.2 (e ▸ q2f (q0u h))) (fun h e => (q3j h).elim (fun h => bI.2.2 (e ▸ q2f (q0k (q1t h)))) fun h => hDI (by rw [List.mem_singleton.mp h] at e; exact e))
     (fun h e => bI.2.2 (e ▸ q2f (q0k (q2e h)))) fun h e => (List.mem_cons.mp h).elim (fun h => bI.1 (by rw [h] at e; exact e.symm)) fun h => bI.2.2 (e ▸ q2f (q1b h))) hCI bI.2.1 hit (by
     show (W.addH D [(D, ol)]).adr[σ.hp.length]? = some D
     rw [← i.hp.len]; exact q6j _ _ _) hres
 have L2 := codeAny_mono L1 (R' := compPost u.M c.A E none Q (.ref D) C) fun r s' h => by
   obtain ⟨rfl, W2, e2, i2'⟩ := h
   exact ⟨W2.m, i2'.F.ns, fun h' hs' => hQ _ _ (.mk hL i2 i3 e2 i2' bC.2.1 bC.1 hs')⟩
 exact codeAny_compStart_list L2 (I.self 0 _ _ _ hit L2)
noncomputable def outC (k : Nat) (σ σ2 : St) : Res V := q1g σ (finR k (.ok (.ret (.obj k)) σ2))
noncomputable def outCT (k : Nat) (σ σ2 : St) : Res V := if (σ2.hp.take (k + 1)).all (q0b (k + 1)) then .ok (.obj k) { σ with hp := σ2.hp.take (k + 1) } else .bad
noncomputable def j5w (k : Nat) (σ : St) (r : Res Unit) : Res V := okB r fun _ σ2 => outC k σ σ2
noncomputable def j5v (k : Nat) (σ : St) (r : Res Unit) : Res V := okB r fun _ σ2 => outCT k σ σ2
theorem j7e {W : Wd} {c2 : Cx} {W2 : Wd} {σ2 : St} {s2 : Shared} (i2 : Inv u c2 W2 σ2 s2) (h : ∀ p ∈ W.led, p ∈ W2.led) : c2.env.locals ∉ W.led.map (·.1) := q4e fun p hp => (i2.N p (h p hp)).2.1
theorem cells_bound (i : Inv u c W σ s) {scope sc' : Scope} {x : String} {fs : List String} (K : q8e c scope sc' x fs) (hall : fs.all (fun n => (σ.get n).isSome) = true) (p : Str × NameKind) (hp : p ∈ scope.names) (hk : p.2 = .free) : ∃ a, c.env.cells.lookup p.1 = some a := by
 have hm : p ∈ scope.names.filter (·.2 == .free) := List.mem_filter.mpr ⟨hp, beq_iff_eq.mpr hk⟩
 rw [K.fe] at hm
 obtain ⟨n, hn, rfl⟩ := List.mem_map.mp hm
 obtain ⟨v, hv⟩ := Option.isSome_iff_exists.mp (List.all_eq_true.mp hall n hn)
 obtain ⟨k, a, _, _, q⟩ := (i.loc n v hv).2 (K.fk n hn)
 exact ⟨a, q⟩
theorem se_compG (ok : c.Ok) {elt iter : Expr} {x : String} {px pos : Pos} {ifs : List Expr} {scope sc' : Scope} {fs : List String} {f : St → Res Src} {t : St → Res Bool} {g : St → Res V} (hi : SI u c iter f) (K : q8e c scope sc' x fs) (hs : ∀ x, foldedSetIterable iter c.env x = pure x)
   (ht : ∀ c' : Cx, c'.Ok → c'.room = c.room → c'.env.scope = sc' → STL u c' ifs t) (hg : ∀ c' : Cx, c'.Ok → c'.room = c.room → c'.env.scope = sc' → SE u c' elt g)
   (out : Nat → St → St → Res V) (hout : ∀ (W : Wd) (σ σ2 : St) v s', j6k u c W σ σ2 v s' → j3m u c W (out σ.hp.length σ σ2) v s') :
   SE u c (.ListComp elt [⟨.Name (Str.ofString x) px, iter, ifs, 0⟩] scope pos) (fun σ => if fs.all (fun n => (σ.get n).isSome) then (f σ).bind fun src σ => if fs.all (fun n => (σ.get n).isSome) then
     okB (q9t src x t g σ.hp.length (q0z src σ.hp) 0 ⟨q9s fs σ, σ.hp ++ [.lst []]⟩) fun _ σ2 => out σ.hp.length σ σ2 else .bad else .bad) := fun W σ s i => by
 show Sim u c (Rep u) _ (if fs.all (fun n => (σ.get n).isSome) = true then _ else _) W s
 by_cases hall : fs.all (fun n => (σ.get n).isSome) = true
 case neg => rw [if_neg hall]; trivial
 rw [if_pos hall, PySem.eval_ListComp]
 have hclos := j3e (env := c.env) (scope := scope) (cells_bound i K hall)
 have H := hi W σ s i
 revert H
 generalize f σ = rf
 intro H
 cases rf with
 | bad => trivial
 | ex C m σ1 => exact wpAny_comprehension_free rfl hs hclos K.kind K.lk (wpAny_mono H (fun _ _ x => x.elim) fun _ _ x => x)
 | ok src σ1 =>
   show Sim u c (Rep u) _ (if fs.all (fun n => (σ1.get n).isSome) = true then _ else _) W s
   by_cases hall1 : fs.all (fun n => (σ1.get n).isSome) = true
   case neg => rw [if_neg hall1]; trivial
   rw [if_pos hall1]
   cases hres : q9t src x t g σ1.hp.length (q0z src σ1.hp) 0 ⟨q9s fs σ1, σ1.hp ++ [.lst []]⟩ with
   | bad => trivial
   | ex C m σ2 => trivial
   | ok z σ2 =>
     have key : ∀ (Q E : Value → Shared → Prop), (∀ W1, Ev W W1 → ∀ v s', j6k u c W1 σ1 σ2 v s' → Q v s') →
         wpAny u.M c.A (comprehension (.ListComp elt [⟨.Name (Str.ofString x) px, iter, ifs, 0⟩] scope pos) scope c.env (firstIterPos [⟨.Name (Str.ofString x) px, iter, ifs, 0⟩] pos) (newList []) (firstAsync [⟨.Name (Str.ofString x) px, iter, ifs, 0⟩]) (firstIter [⟨.Name (Str.ofString x) px, iter, ifs, 0⟩] c.env)) Q E s :=
       fun Q E hQ => wpAny_comprehension_free rfl hs hclos K.kind K.lk (q8k H fun W1 r s1 e1 i1 hr => comp_core ok K ht hg i1 hr hres (hQ W1 e1))
     have ho := fun (W1 : Wd) v s' => hout W1 σ1 σ2 v s'
     revert ho
     show _ → Sim u c (Rep u) _ (out σ1.hp.length σ1 σ2) W s
     generalize out σ1.hp.length σ1 σ2 = ro
     intro ho
     cases ro with
     | bad => trivial
     | ex C m σ3 => exact key _ _ fun W1 e1 v s' h => (ho W1 v s' h).elim
     | ok v σ3 => exact key _ _ fun W1 e1 v s' h => Got.ev e1 (ho W1 v s' h)
theorem se_comp (ok : c.Ok) {elt iter : Expr} {x : String} {px pos : Pos} {ifs : List Expr} {scope sc' : Scope} {fs : List String} {f : St → Res Src} {t : St → Res Bool} {g : St → Res V} (hi : SI u c iter f) (K : q8e c scope sc' x fs) (hs : ∀ x, foldedSetIterable iter c.env x = pure x)
   (ht : ∀ c' : Cx, c'.Ok → c'.room = c.room → c'.env.scope = sc' → STL u c' ifs t) (hg : ∀ c' : Cx, c'.Ok → c'.room = c.room → c'.env.scope = sc' → SE u c' elt g) :
   SE u c (.ListComp elt [⟨.Name (Str.ofString x) px, iter, ifs, 0⟩] scope pos) (fun σ => if fs.all (fun n => (σ.get n).isSome) then (f σ).bind fun src σ => if fs.all (fun n => (σ.get n).isSome) then
     j5w σ.hp.length σ (q9t src x t g σ.hp.length (q0z src σ.hp) 0 ⟨q9s fs σ, σ.hp ++ [.lst []]⟩) else .bad else .bad) :=
 se_compG ok hi K hs ht hg outC fun W σ σ2 v s' h => by
   induction h with | @mk D os s1 oL c2 m W2 s2 h' hL i1 i1' ev i2 hB hne hsb => ?_
   have ev0 : Ev ⟨m, W.fz, W.hp, W.tb, (c.env.locals, oL) :: W.fr⟩ ⟨m, W.fz, W.hp ++ [(D, os)], W.tb, (c.env.locals, oL) :: W.fr⟩ := ⟨fun _ h => h, (W.addH_ev D os).hp, rfl, TI.SameUp.refl _⟩
   have hD : W2.adr[σ.hp.length]? = some D := i1.hp.len ▸ ev.get (q6j ⟨m, W.fz, W.hp, W.tb, (c.env.locals, oL) :: W.fr⟩ D os)
   unfold outC
   cases hfin : finR σ.hp.length (.ok (.ret (.obj σ.hp.length)) σ2) with
   | bad => trivial
   | ex C w σ3 =>
     obtain ⟨v, σ', q⟩ := j5i (n := σ.hp.length) (fl := .ret (.obj σ.hp.length)) (σ := σ2) (hfin ▸ nofun)
     cases hfin.symm.trans q
   | ok v σ3 =>
     obtain ⟨W', b1, b2, b3, b4⟩ := finR_ok' i1 hL (f := .ret (.ref D)) (ev0.trans ev) i2 (.ret (.obj hD)) hfin
     exact ⟨W', b1, b2.other (tk := s2.toks) (j7e i2 b4) hne hB (fun b o hb q => hsb.extBut b o hb q), b3⟩
theorem se_compT (ok : c.Ok) {elt iter : Expr} {x : String} {px pos : Pos} {ifs : List Expr} {scope sc' : Scope} {fs : List String} {f : St → Res Src} {t : St → Res Bool} {g : St → Res V} (hi : SI u c iter f) (K : q8e c scope sc' x fs) (hs : ∀ x, foldedSetIterable iter c.env x = pure x)
   (ht : ∀ c' : Cx, c'.Ok → c'.room = c.room → c'.env.scope = sc' → STL u c' ifs t) (hg : ∀ c' : Cx, c'.Ok → c'.room = c.room → c'.env.scope = sc' → SE u c' elt g) :
   SE u c (.ListComp elt [⟨.Name (Str.ofString x) px, iter, ifs, 0⟩] scope pos) (fun σ => if fs.all (fun n => (σ.get n).isSome) then (f σ).bind fun src σ => if fs.all (fun n => (σ.get n).isSome) then
     j5v σ.hp.length σ (q9t src x t g σ.hp.length (q0z src σ.hp) 0 ⟨q9s fs σ, σ.hp ++ [.lst []]⟩) else .bad else .bad) :=
 se_compG ok hi K hs ht hg outCT fun W σ σ2 v s' h => by
   induction h with | @mk D os s1 oL c2 m W2 s2 h' hL i1 i1' ev i2 hB hne hsb => ?_
   have hlen' : (W.addH D os).hp.length = σ.hp.length + 1 := by rw [← i1.hp.len]; exact List.length_append
   unfold outCT
   by_cases hab : (σ2.hp.take (σ.hp.length + 1)).all (q0b (σ.hp.length + 1)) = true
   · rw [if_pos hab]
     obtain ⟨b1, b2, b3⟩ := j1y (ex := []) i1' hL i2 ev.fz ev.hp ev.tb ev.fr (by rw [hlen']; exact hab) (fun _ h => nomatch h) (fun _ h => nomatch h)
     rw [hlen'] at b1 b2 b3
     have hC := j7e i2 (q5e (W := W.addH D os) (n := σ.hp.length + 1) (ex := []) fun _ h => nomatch h)
     exact ⟨_, (W.addH_ev D os).trans b1, b3.other (tk := s2.toks) hC hne hB (fun b o hb q => hsb.extBut b o hb q), .obj (b1.get (i1.hp.len ▸ q6j _ _ _))⟩
   · rw [if_neg hab]; trivial
end
section
variable {u : U} {c : Cx} {W : Wd} {σ : St} {s : Shared}
noncomputable def insO (x : AO) : Option (Addr × List (Str × V)) := AO.casesOn x (fun _ => none) (fun C fs => some (C, fs)) (fun _ => none) none
theorem j7z {x : AO} {p : Addr × List (Str × V)} (h : insO x = some p) : x = .ins p.1 p.2 := by
 cases x with
 | ins C fs => rw [← Option.some.inj h]
 | _ => exact nn h
noncomputable def insOf (H : List AO) (v : V) : Option (Addr × List (Str × V)) := V.casesOn v none (fun _ => none) (fun _ => none) (fun _ => none) (fun _ => none) (fun _ => none) (fun C fs => some (C, fs)) (fun k => H[k]?.bind insO) (fun _ => none) (fun _ _ => none)
noncomputable abbrev j2x (C dx : Addr) : Obj := ⟨.ref C, some dx, .plain, #[]⟩
inductive IsInst (u : U) (W : Wd) (h : Heap) (C : Addr) (fs : List (Str × V)) : Value → Prop where
 | mk {x dx : Addr} {es : List DictEntry} {n : Nat} (I : InstAt h x (j2x C dx) C (some (dictOf es n))) (r : RepF u W es fs) : IsInst u W h C fs (.ref x)
theorem insOf_is (i : Inv u c W σ s) {r : Value} {v : V} {C : Addr} {fs : List (Str × V)} (hr : Rep u W r v) (h : insOf σ.hp v = some (C, fs)) : IsInst u W s.heap C fs r := by
 cases v with
 | ins C' fs' =>
   cases Option.some.inj h
   induction hr.is with | mk h1 h3 h4 => exact .mk ⟨h1.get i, rfl, rfl, h3.get i⟩ h4
 | obj k =>
   induction hr.ob with | mk ha => ?_
   obtain ⟨x, hx, h⟩ := bd_s h
   cases j7z h
   obtain ⟨os, q1, q2⟩ := i.obj ha hx
   cases q2 with
   | ins q3 => exact .mk ⟨(i.N _ (q2t q1 (.head _))).1, rfl, rfl, (i.N _ (q2t q1 (.tail _ (.head _)))).1⟩ q3
 | _ => exact nn h
theorem j8b {e : DictEntry} {es : List DictEntry} {name k : Str} {t : Tok} (hk : e.key = .str k t) : getL name (e :: es) = if k == name then some (some e.val) else getL name es := by
 unfold getL
 have e1 : e.key.isStr name = (k == name) := by rw [hk]; rfl
 have e2 : e.refKey = false := by unfold DictEntry.refKey; rw [hk]
 simp only [List.find?_cons, e1, List.any_cons, e2, Bool.false_or]
 cases k == name <;> rfl
inductive GotL (u : U) (W : Wd) (g : Option (Option Value)) : Option V → Prop where
 | some {v : V} (r : Value) (e : g = some (some r)) (h : Rep u W r v) : GotL u W g (some v)
 | none (e : g = some none) : GotL u W g none
theorem j5c {es : List DictEntry} {fs : List (Str × V)} (h : RepF u W es fs) (name : Str) : GotL u W (getL name es) (fs.lookup name) := by
 induction fs generalizing es with
 | nil => cases h; exact .none rfl
 | cons p fs ih =>
   cases h with
   | @cons hh k t r v es _ h1 h2 =>
     rw [j8b (es := es) (name := name) (k := k) (t := t) rfl, q8y]
     by_cases hk : k = name
     · rw [if_pos (beq_iff_eq.mpr hk), if_pos hk.symm]
       exact .some r rfl h1
     · rw [if_neg (fun e => hk (beq_iff_eq.mp e)), if_neg (Ne.symm hk)]
       exact ih h2
structure q7d (K : Frag) (C : Addr) (name : Str) : Prop where
 get : plainGet K C name = true
 dict : hasDictIn K C = true
 fnd : findIn K (.ref C) name = some none
 set : findIn K (.ref C) "__setattr__" = some (some (.builtin "object.__setattr__"))
 over : plainOver K C = true
 take : takerIn K C name = some none
noncomputable def notB (v : V) : Bool := V.casesOn v true (fun _ => true) (fun _ => true) (fun _ => true) (fun _ => true) (fun _ => true) (fun _ _ => true) (fun _ => true) (fun _ => false) (fun _ _ => true)
theorem j2z {r : Value} {v : V} (h : Rep u W r v) (hb : notB v = true) : handedIn r = true := by
 cases h with
 | val => exact absurd hb Bool.false_ne_true
 | _ => rfl
noncomputable def q6m (C : Addr) (name : Str) (H : List AO) (a : V) : Option V := (insOf H a).bind fun p => oIf (p.1 = C) ((p.2.lookup name).bind fun v => oIf (notB v = true) (some v))
theorem attr_ok (uo : u.Ok) (i : Inv u c W σ s) {r : Value} {a v : V} {C : Addr} {name : Str} {expr : Bool} (A : q7d u.K C name) (hr : Rep u W r a) (h : q6m C name σ.hp a = some v) :
   Sim u c (Rep u) (getAttr r name expr) (.ok v σ) W s := by
 obtain ⟨⟨C', fs⟩, h1, h2⟩ := bd_s h
 obtain ⟨e, h3⟩ := q0h h2
 cases e
 obtain ⟨w, h4, h5⟩ := bd_s h3
 obtain ⟨hb, h6⟩ := q0h h5
 cases Option.some.inj h6
 induction insOf_is i hr h1 with | mk I R => ?_
 have g := j5c R name
 rw [show fs.lookup name = some v from h4] at g
 cases g with
 | some r g1 g2 => exact Sim.value i fun Q hq => PySem.W.get_own i.F uo.X I A.get A.dict A.fnd rfl g1 (j2z g2 hb) (hq _ _ g2)
theorem se_attr (uo : u.Ok) {C : Addr} {o : Expr} {name : Str} {pos : Pos} {f : St → Res V} (A : q7d u.K C name) (ho : SE u c o f) (hbase : attributeBase o name c.env (eval o c.env) = eval o c.env) (hgo : ∀ x r, letTemporaryGo o x r = pure ()) :
   SE u c (.Attribute o name pos) (fun σ => (f σ).bind fun a σ => ores (q6m C name σ.hp a) σ) := fun W σ s i => by
 rw [arm_eval_Attribute, hbase]
 refine (ho W σ s i).bind fun x a σ1 W1 s1 _ e1 i1 hx => Sim.standAt ?_
 refine Sim.ores fun v h => Sim.bindOk (Sim.holding (attr_ok uo i1 A hx h)) fun y W2 s2 e2 i2 hy => ?_
 rw [hgo]
 exact Sim.congr (fun Q E q => wpAny_bind (wpAny_pure q)) (Sim.pure i2 hy)
noncomputable def setF (name : Str) (v : V) : List (Str × V) → List (Str × V)
 | [] => [(name, v)]
 | p :: r => if p.1 == name then (p.1, v) :: r else p :: setF name v r
theorem RepF.put {es : List DictEntry} {fs : List (Str × V)} {name : Str} {r : Value} {v : V} {hsh : Int} {t : Tok} (h : RepF u W es fs) (hr : Rep u W r v) : RepF u W (putL name hsh (.str name t) r es) (setF name v fs) := by
 induction fs generalizing es with
 | nil => cases h; exact .cons hr .nil
 | cons p fs ih =>
   cases h with
   | @cons hh k t' r' v' es _ h1 h2 =>
     unfold putL setF
     rw [show (({ hash := hh, key := Value.str k t', val := r' } : DictEntry).key.isStr name) = (k == name) from rfl]
     cases hk : k == name with
     | true => exact .cons hr h2
     | false => exact .cons h1 (ih h2)
theorem putL_len {name : Str} {hsh : Int} {key v : Value} {es : List DictEntry} : (putL name hsh key v es).length ≤ es.length + 1 := by
 induction es with
 | nil => exact Nat.le_refl _
 | cons e r ih =>
   unfold putL
   split
   · exact Nat.le_succ _
   · exact Nat.succ_le_succ ih
theorem RepF.length {es : List DictEntry} {fs : List (Str × V)} (h : RepF u W es fs) : es.length = fs.length := by
 induction fs generalizing es with
 | nil => cases h; rfl
 | cons p fs ih => cases h with
   | cons h1 h2 => exact congrArg (· + 1) (ih h2)
theorem split_mu (i : Inv u c W σ s) {p : Addr × Obj} (hp : p ∈ W.mu) : ∃ pre post, W.led = pre ++ p :: post ∧ (∀ q ∈ pre, q.1 ≠ p.1) ∧ ∀ q ∈ post, q.1 ≠ p.1 := by
 obtain ⟨m1, m2, e⟩ := List.append_of_mem hp
 have nd := i.ap.nd
 rw [e] at nd
 obtain ⟨n1, n2, n3⟩ := j2r nd
 refine ⟨W.fz ++ m1, m2, by unfold Wd.led; rw [e, List.append_assoc], fun q hq => (List.mem_append.mp hq).elim (fun hq => i.ap.sep.zm q hq p hp) fun hq => n3 q hq p (.head _), fun q hq z => (List.nodup_cons.mp n2).1 (by have z2 := q2f hq; rw [show q.1 = p.1 from z] at z2; exact z2)⟩
noncomputable def putA (C : Addr) (name : Str) (v o : V) (σ : St) : Res Unit := onO o fun k => Option.casesOn (σ.hp[k]?.bind fun x => (insO x).bind fun p => oIf (p.1 = C ∧ p.2.length < 100) (some p.2)) .bad fun fs => .ok () { σ with hp := σ.hp.set k (.ins C (setF name v fs)) }
theorem putA_ok (uo : u.Ok) (i : Inv u c W σ s) {x z : Value} {o v : V} {C : Addr} {name : Str} (A : q7d u.K C name) (hx : Rep u W x o) (hz : Rep u W z v) : Sim u c (fun _ _ _ => True) (setAttr x name z) (putA C name v o σ) W s := by
 cases o with
 | obj k =>
   show Sim u c _ _ (Option.casesOn (motive := fun _ => Res Unit) (σ.hp[k]?.bind fun x => (insO x).bind fun p => oIf (p.1 = C ∧ p.2.length < 100) (some p.2)) _ _) W s
   cases he : σ.hp[k]?.bind fun x => (insO x).bind fun p => oIf (p.1 = C ∧ p.2.length < 100) (some p.2) with
   | none => trivial
   | some fs =>
     obtain ⟨ao, hl, h2⟩ := bd_s he
     obtain ⟨⟨C', fs'⟩, h3, h4⟩ := bd_s h2
     obtain ⟨⟨rfl, hlen⟩, h5⟩ := q0h h4
     cases Option.some.inj h5
     cases j7z h3
     clear he h2 h3 h4 h5
     induction hx.ob with | @mk a ha => ?_
     obtain ⟨os, q1, q2⟩ := i.obj ha hl
     cases q2 with
     | ins q3 =>
       rename_i dx es n
       have gx := (i.N _ (q2t q1 (.head _))).1
       have gd := (i.N _ (q2t q1 (p := (dx, dictOf es n)) (.tail _ (.head _)))).1
       have hxd : a ≠ dx := fun z => nomatch (congrArg Obj.cls (Option.some.inj ((z ▸ gx).symm.trans gd)) : Value.ref C' = Value.type "dict")
       obtain ⟨pre, post, hled, h1, h2⟩ := split_mu i (mem_mu q1 (.tail _ (.head _)) : (dx, dictOf es n) ∈ W.mu)
       have N := i.N
       rw [hled] at N
       have I : InstAt s.heap a (j2x C' dx) C' (some (dictOf es n)) := ⟨gx, rfl, rfl, gd⟩
       have g := j5c q3 name
       generalize List.lookup name _ = lv at g
       refine PySem.W.set_plain (uo.X.keeps i.F.keep) I A.set (osa_dict (s := { s with toks := s.toks + 1 }) i.F N (uo.X.keeps i.F.keep) I rfl A.over A.take A.dict ?_ h1 h2 (putName_dict _ _ _ _ _ _) rfl ?_ fun h' F' N' => ?_)
       · rw [lookIn_dict]
         cases g with
         | some r e => rw [e]; rfl
         | none e => rw [e]; rfl
       · exact Nat.le_trans putL_len (by rw [q3.length]; omega)
       · have oth : ∀ p ∈ W.led, p.1 ≠ dx → h'.get? p.1 = some p.2 := fun p hp hno => by
           rw [hled] at hp
           rcases List.mem_append.mp hp with hp | hp
           · exact (N' p (List.mem_append_left _ hp)).1
           · rcases List.mem_cons.mp hp with rfl | hp
             · exact absurd rfl hno
             · exact (N' p (List.mem_append_right _ (.tail _ hp))).1
         refine ⟨_, j0n q1, i.setN (tk := s.toks + 1 + 1) q1 (os' := [(a, j2x C' dx), (dx, dictOf (putL name (PyData.keyHash u.w.params name) (.str name (s.toks + 1)) z es) (putN name es n))]) rfl F' (fun p hp hno => oth p hp fun z => hno (z ▸ .tail _ (.head _))) (fun p hp => ?_) (.ins (q3.put hz)), trivial⟩
         rcases List.mem_cons.mp hp with rfl | hp
         · exact oth _ (q2t q1 (.head _)) hxd
         · rw [List.mem_singleton.mp hp]
           exact (N' _ (List.mem_append_right _ (.head _))).1
 | _ => trivial
theorem sx_setA (uo : u.Ok) {C : Addr} {o value : Expr} {name : Str} {tp p : Pos} {f g : St → Res V} (A : q7d u.K C name) (hv : SE u c value f) (ho : SE u c o g)
   (hs : swapsWithSole [.Attribute o name tp] value p.line c.env = pure false) (hw : swappedStores [.Attribute o name tp] value c.env = pure none) :
   SX u c (.Assign [.Attribute o name tp] value p) (fun σ => (f σ).bind fun v σ => (g σ).bind fun a σ => (putA C name v a σ).bind fun _ σ => .ok .next σ) := fun W σ s i => by
 rw [PyProof.Rows.exec_Assign]
 refine Sim.standAt ?_
 rw [hs]
 refine Sim.congr (fun Q E q => wpAny_bind (wpAny_pure q)) ?_
 rw [if_neg (by decide)]
 refine (hv W σ s i).bind fun r v σ1 W1 s1 _ e1 i1 hr => ?_
 rw [hw]
 refine Sim.congr (fun Q E q => wpAny_bind (wpAny_pure q)) ?_
 have inner : Sim u c (fun _ (_ : Unit) (_ : Unit) => True) (assign (.Attribute o name tp) c.env r) ((g σ1).bind fun a σ => putA C name v a σ) W1 s1 := by
   rw [arm_assign_Attribute]
   refine (Sim.holding (ho W1 σ1 s1 i1)).bind fun x a σ2 W2 s2 _ e2 i2 hx => Sim.standAt ?_
   have key := Sim.holding (vs := [r, x]) (putA_ok (C := C) uo i2 A hx (hr.ev e2))
   revert key
   generalize putA C name v a σ2 = q
   intro key
   cases q with
   | bad => trivial
   | ex _ _ _ => exact wpAny_bind (wpAny_mono key (fun _ _ x => x.elim) fun _ _ x => x)
   | ok _ σ4 => exact wpAny_bind (wpAny_mono key (fun _ s' q => wpAny_release q) fun _ _ x => x)
 have e : ((g σ1).bind fun a σ => (putA C name v a σ).bind fun _ σ => .ok Fl.next σ) = (((g σ1).bind fun a σ => putA C name v a σ).bind fun _ σ => .ok Fl.next σ) := by
   cases g σ1 <;> rfl
 rw [e]
 exact Sim.bind (t := assign (.Attribute o name tp) c.env r) inner fun _ _ _ W4 s4 _ e4 i4 _ => Sim.pure i4 .next
noncomputable def addI (a b : V) : Option V := oII a b fun x y => some (.int (x + y))
theorem sx_augA (uo : u.Ok) {C : Addr} {o value : Expr} {name : Str} {tp p : Pos} {f g : St → Res V} (A : q7d u.K C name) (ho : SE u c o g) (hv : SE u c value f) :
   SX u c (.AugAssign (.Attribute o name tp) .Add value p) (fun σ => (g σ).bind fun a σ => (ores (q6m C name σ.hp a) σ).bind fun old σ => (f σ).bind fun v σ => (ores (addI old v) σ).bind fun w σ => (putA C name w a σ).bind fun _ σ => .ok .next σ) := fun W σ s i => by
 rw [arm_exec_AugAssign_2]
 refine Sim.standAt ((ho W σ s i).bind fun x a σ1 W1 s1 _ e1 i1 hx => ?_)
 have mid : Sim u c (Rep u) (holding [x] (do
     standAt tp.atName
     let old ← getAttr x name true
     let v ← holding [old] (eval value c.env)
     standAt p
     operate [old, v] (inplaceOp .Add old v))) ((ores (q6m C name σ1.hp a) σ1).bind fun old σ => (f σ).bind fun v σ => ores (addI old v) σ) W1 s1 := by
   refine Sim.holding (Sim.standAt (Sim.bind (Sim.ores fun v h => attr_ok uo i1 A hx h) fun y v σ2 W2 s2 _ e2 i2 hy => (Sim.holding (hv W2 σ2 s2 i2)).bind fun z b σ3 W3 s3 _ e3 i3 hz => Sim.standAt (Sim.operate (Sim.ores fun w ha => ?_))))
   exact q1p (hy.ev e3) hz ha (P := fun y z => Sim u c (Rep u) (inplaceOp .Add y z) (.ok w σ3) W3 s3) fun m n t t' e => .int i3 e fun Q h => PyProof.Rows.iadd_int (h _ _)
 have e : ((ores (q6m C name σ1.hp a) σ1).bind fun old σ => (f σ).bind fun v σ => (ores (addI old v) σ).bind fun w σ => (putA C name w a σ).bind fun _ σ => .ok Fl.next σ) =
     (((ores (q6m C name σ1.hp a) σ1).bind fun old σ => (f σ).bind fun v σ => ores (addI old v) σ).bind fun w σ => (putA C name w a σ).bind fun _ σ => .ok Fl.next σ) := by
   cases ores (q6m C name σ1.hp a) σ1 with
   | ok old σ2 =>
     show (f σ2).bind _ = ((f σ2).bind _).bind _
     cases f σ2 <;> rfl
   | _ => rfl
 rw [e]
 refine mid.bind fun r w σ2 W2 s2 _ e2 i2 hr => Sim.standAt ?_
 have key := Sim.holding (vs := [r, x]) (putA_ok (C := C) uo i2 A (hx.ev e2) hr)
 refine Sim.bind (rep := fun _ (_ : Unit) (_ : Unit) => True) key fun _ _ σ3 W3 s3 _ e3 i3 _ => ?_
 exact Sim.congr (fun Q E q => wpAny_bind (wpAny_release q)) (Sim.pure i3 .next)
structure MethK (K : Frag) (C : Addr) (name : Str) (fm : Addr) : Prop where
 get : plainGet K C name = true
 fnd : findIn K (.ref C) name = some (some (.ref fm))
 isf : isFn K (.ref fm) = true
noncomputable def j4g (C : Addr) (name : Str) (H : List AO) (a : V) : Bool := Option.casesOn (insOf H a) false fun p => decide (p.1 = C) && (p.2.lookup name).isNone
theorem selfV_is {C : Addr} {name : Str} {H : List AO} {a : V} (h : j4g C name H a = true) : ∃ fs, insOf H a = some (C, fs) ∧ fs.lookup name = none := by
 unfold j4g at h
 cases hq : insOf H a with
 | none => rw [hq] at h; exact absurd h Bool.false_ne_true
 | some p =>
   rw [hq] at h
   obtain ⟨h1, h2⟩ := Bool.and_eq_true_iff.mp h
   exact ⟨p.2, by rw [← of_decide_eq_true h1], Option.isNone_iff_eq_none.mp h2⟩
theorem q4s (uo : u.Ok) (ok : c.Ok) {C fm : Addr} {fo : Obj} {fd : FuncData} {o : Expr} {name : Str} {apos pos : Pos} {es : List Expr} {n : Nat} {fn : Fn} {f : St → Res V} {fa : St → Res (List V)} (M : MethK u.K C name fm) (H : CallOk u (.ref fm) n fn) (hr : n ≤ c.room)
   (hfo : u.B.get? fm = some fo) (hfd : fo.data = .func fd) (ho : SE u c o f) (ha : SEs u c es fa) (hn : (starEach es c.env).all (!·.1) = true)
   (he : ∃ pl, eval (.Call (.Attribute o name apos) es [] pos) c.env = (do
     let ov ← eval o c.env
     standAt apos.atName
     let (f, first) ← holding [ov] (getMethod ov name pl)
     callWith pos f first (backTo pos (starEach es c.env)) [])) :
   SE u c (.Call (.Attribute o name apos) es [] pos) (fun σ => (f σ).bind fun a σ => if j4g C name σ.hp a then (fa σ).bind fun vs σ => q1g σ (fn (a :: vs) σ.hp) else .bad) := fun W σ s i => by
 obtain ⟨pl, he⟩ := he
 rw [he]
 refine (ho W σ s i).bind fun x a σ1 W1 s1 _ e1 i1 hx => Sim.standAt ?_
 by_cases hs : j4g C name σ1.hp a = true
 case neg => rw [if_neg hs]; trivial
 rw [if_pos hs]
 obtain ⟨fs, h1, h2⟩ := selfV_is hs
 induction insOf_is i1 hx h1 with | @mk x' dx es' m I R => ?_
 have g := j5c R name
 rw [h2] at g
 cases g with | none g => ?_
 refine Sim.congr (fun Q E q => wpAny_bind (wpAny_holding (PySem.W.method_inst i1.F uo.X I M.get M.fnd M.isf g q))) ?_
 exact q2o (first := [.ref x']) (g := fun vs σ => q1g σ (fn (a :: vs) σ.hp)) ha hn (keeps_fn uo hfo hfd) i1 fun W2 σ2 s2 rs vs e2 i2 hrs => H c ok hr W2 σ2 s2 (.ref x' :: rs) (a :: vs) i2 (.cons (hx.ev e2) hrs)
end
section
variable {u : U} {c : Cx} {W : Wd} {σ : St} {s : Shared}
noncomputable abbrev tcCode (C : Addr) (rs : List Value) : Code := .builtin "type.__call__" ⟨.ref C :: rs, []⟩
noncomputable def makeCx (c : Cx) (C : Addr) (rs : List Value) : Cx := ⟨c.env, c.A.under (tcCode C rs), c.fenvs, c.room - 1⟩
theorem makeCx_ok (ok : c.Ok) {C : Addr} {rs : List Value} (hr : 2 ≤ c.room) : (makeCx c C rs).Ok := by
 have hd := ok.depth
 have hu := ok.units
 have e : (tcCode C rs).cUnits = 1 := rfl
 refine ⟨ok.kind, ok.glob, ok.blt, ok.frames, ok.handled, ?_, ?_, ?_⟩
 · show c.A.depth + 1 + (c.room - 1) < recursionLimit; omega
 · show c.A.units + (tcCode C rs).cUnits + 10 * (c.room - 1) < cLine
   rw [e]; omega
 · show 1 ≤ c.room - 1; omega
theorem Inv.to {c2 : Cx} (i : Inv u c W σ s) (he : c2.env = c.env) (hf : c2.fenvs = c.fenvs) : Inv u c2 W σ s :=
 ⟨he ▸ i.F, he ▸ i.N, i.ap, fun x v hv => by unfold NameOk; rw [he]; exact i.loc x v hv, i.hp, i.tb, fun e h => he ▸ i.frs e (hf ▸ h), i.dic, i.gens, i.os⟩
structure ClassK (K : Frag) (C fI : Addr) : Prop where
 makes : makesIn K C = true
 init : findIn K (.ref C) "__init__" = some (some (.ref fI))
 fn : typeIn K (.ref fI) = some (.type "function")
 keep : keepIn K (.ref C) = true
theorem j1j (uo : u.Ok) {C : Addr} (h : keepIn u.K (.ref C) = true) : Keeps u c (.ref C) := fun W σ s i => by
 obtain ⟨k, hk, L⟩ := PySem.W.looks_keep (M := u.M) h (uo.X.keeps i.F.keep)
 exact ⟨k, hk.elim .inl fun e => .inr (.inr e), fun E Q q => L.here q⟩
noncomputable def noneB {α : Type} (w : V) (r : Res α) : Res α := V.casesOn w r (fun _ => .bad) (fun _ => .bad) (fun _ => .bad) (fun _ => .bad) (fun _ => .bad) (fun _ _ => .bad) (fun _ => .bad) (fun _ => .bad) (fun _ _ => .bad)
noncomputable def j7o (C : Addr) (fn : Fn) (vs : List V) (σ : St) : Res V := okB (fn (.obj σ.hp.length :: vs) (σ.hp ++ [.ins C []])) fun w σ2 => noneB w (.ok (.obj σ.hp.length) { σ with hp := σ2.hp })
theorem make_ok (uo : u.Ok) (ok : c.Ok) {C fI : Addr} {n : Nat} {fn : Fn} (Kc : ClassK u.K C fI) (H : CodeOk u (.ref fI) n fn) (hr : n + 1 ≤ c.room) (hn : 1 ≤ n) : SC u c (.ref C) [] (fun vs σ => j7o C fn vs σ) := fun W σ s rs vs i hrs => by
 rw [List.nil_append]
 show Sim u c (Rep u) (call (.ref C) rs) (okB (fn (.obj σ.hp.length :: vs) (σ.hp ++ [.ins C []])) _) W s
 cases hres : fn (.obj σ.hp.length :: vs) (σ.hp ++ [.ins C []]) with
 | bad => trivial
 | ex C' m σ2 => trivial
 | ok w σ2 =>
   cases w with
   | none =>
     refine wpAny_call (PySem.W.make_K i.F i.N (uo.X.keeps i.F.keep) Kc.makes Kc.init Kc.fn fun x dx h' F' N' hlt hxd => ?_)
     have i2 : Inv u c (W.addH x [(x, j2x C dx), (dx, dictOf [] 0)]) { σ with hp := σ.hp ++ [.ins C []] } { s with heap := h' } :=
       i.addH (tk := s.toks) F' N' (fun p hp => q4e fun q hq e => (List.mem_cons.mp hp).elim (fun z => by have t := hlt q hq; rw [e, z] at t; exact absurd (Nat.lt_trans t hxd) (Nat.lt_irrefl _)) fun z => by rw [List.mem_singleton.mp z] at e; exact Nat.ne_of_lt (hlt q hq) e)
         (List.nodup_cons.mpr ⟨fun z => Nat.ne_of_gt hxd (List.mem_singleton.mp z), List.nodup_cons.mpr ⟨nofun, .nil⟩⟩) (.ins .nil)
     have hadr : (W.addH x [(x, j2x C dx), (dx, dictOf [] 0)]).adr[σ.hp.length]? = some x := i.hp.len ▸ q6j _ _ _
     have e0 := W.addH_ev x [(x, j2x C dx), (dx, dictOf [] 0)]
     have S := H (makeCx c C rs) (makeCx_ok ok (by omega)) (by show n ≤ c.room - 1; omega) _ _ _ (.ref x :: rs) (.obj σ.hp.length :: vs) (i2.to (c2 := makeCx c C rs) rfl rfl) (.cons (.obj hadr) (hrs.ev e0))
     rw [show fn (.obj σ.hp.length :: vs) (σ.hp ++ [.ins C []]) = _ from hres] at S
     refine codeAny_mono (S nofun) fun r s' hb => ?_
     unfold backR at hb
     split at hb
     · obtain ⟨W', ev, i3, hv⟩ := hb
       cases hv.nn
       exact ⟨rfl, W', e0.trans ev, i3.to (c2 := c) rfl rfl, .obj (ev.get hadr)⟩
     · exact hb.elim
     · exact hb.elim
   | _ => trivial
theorem se_make (uo : u.Ok) (ok : c.Ok) {C fI : Addr} {x : Str} {np pos : Pos} {es : List Expr} {n : Nat} {fn : Fn} {fa : St → Res (List V)} (Kc : ClassK u.K C fI) (H : CodeOk u (.ref fI) n fn) (hr : n + 1 ≤ c.room) (h1 : 1 ≤ n)
   (hx : SE u c (.Name x np) (fun σ => .ok (.val (.ref C)) σ)) (ha : SEs u c es fa) (hn : (starEach es c.env).all (!·.1) = true) : SE u c (.Call (.Name x np) es [] pos) (fun σ => (fa σ).bind fun vs σ => j7o C fn vs σ) :=
 j4h hx (fun _ _ h => q6r h) ha hn (j1j uo Kc.keep) (make_ok uo ok Kc H hr h1)
end
section
variable {u : U} {c : Cx} {W : Wd} {σ : St} {s : Shared}
noncomputable def Wd.addHs (W : Wd) (cs : List (Addr × Obj × AO)) : Wd := { W with hp := W.hp ++ cs.map fun x => (x.1, [(x.1, x.2.1)]) }
theorem addHs_nil (W : Wd) : W.addHs [] = W := by simp [Wd.addHs]
theorem addHs_cons (W : Wd) (x : Addr × Obj × AO) (cs : List (Addr × Obj × AO)) : W.addHs (x :: cs) = (W.addH x.1 [(x.1, x.2.1)]).addHs cs := by simp [Wd.addHs, Wd.addH]
theorem addCells (cs : List (Addr × Obj × AO)) : ∀ (W : Wd) (σ : St), Inv u c W σ s → (∀ x ∈ cs, s.heap.get? x.1 = some x.2.1 ∧ x.1 ≠ c.env.locals ∧ u.B.get? x.1 = none ∧ x.1 ∉ W.led.map (·.1)) → (cs.map (·.1)).Nodup →
   (∀ x ∈ cs, RepO u W x.1 [(x.1, x.2.1)] x.2.2) → Inv u c (W.addHs cs) ⟨σ.loc, σ.hp ++ cs.map (·.2.2)⟩ s := by
 induction cs with
 | nil => intro W σ i _ _ _; rw [addHs_nil, List.map_nil, List.append_nil]; exact i
 | cons x cs ih =>
   intro W σ i h nd hr
   rw [addHs_cons]
   obtain ⟨n1, n2⟩ := List.nodup_cons.mp nd
   obtain ⟨h1, h2, h3, h4⟩ := h x (.head _)
   have e := W.addH_ev x.1 [(x.1, x.2.1)]
   have i2 : Inv u c (W.addH x.1 [(x.1, x.2.1)]) { σ with hp := σ.hp ++ [x.2.2] } s := i.addH (h' := s.heap) (tk := s.toks) i.F (fun p hp => by
     rcases List.mem_append.mp hp with hp | hp
     · rw [List.mem_singleton.mp hp]; exact ⟨h1, h2, h3⟩
     · exact i.N p hp) (fun p hp => by rw [List.mem_singleton.mp hp]; exact h4) (List.nodup_cons.mpr ⟨nofun, .nil⟩) (hr x (.head _))
   have := ih _ _ i2 (fun y hy => by
     obtain ⟨a1, a2, a3, a4⟩ := h y (.tail _ hy)
     refine ⟨a1, a2, a3, q4e fun p hp e => (List.mem_append.mp hp).elim (fun hp => a4 (e ▸ q2f (q0u hp))) fun hp => (addH_s hp).elim (fun hp => n1 (List.mem_map.mpr ⟨y, hy, ?_⟩)) fun hp => a4 (e ▸ q2f (q0k hp))⟩
     rw [List.mem_singleton.mp hp] at e
     exact e.symm) n2 (fun y hy => (hr y (.tail _ hy)).ev e)
   rw [List.append_assoc] at this
   exact this
theorem Inv.withLoc (i : Inv u c W σ s) {loc : List (String × V)} (h : LocOk u c W ⟨loc, σ.hp⟩) : Inv u c W ⟨loc, σ.hp⟩ s := ⟨i.F, i.N, i.ap, h, i.hp, i.tb, i.frs, i.dic, i.gens, i.os⟩
theorem j1x {ko : Str → Option NameKind} {x : Str} : ∀ (l : List (Str × Value)) (m : Str → Option Value), x ∉ l.map (·.1) → bindL ko l m x = m x
 | [], _, _ => rfl
 | (n, v) :: r, m, h => by
   simp only [List.map_cons, List.mem_cons, not_or] at h
   unfold bindL
   rw [j1x r _ h.2]
   split
   · exact if_neg h.1
   · rfl
theorem q7a {ko : Str → Option NameKind} {x : Str} : ∀ (l : List (Str × Value)) (m : Str → Option Value), x ∉ l.map (·.1) → bindC ko l m x = m x
 | [], _, _ => rfl
 | (n, v) :: r, m, h => by
   simp only [List.map_cons, List.mem_cons, not_or] at h
   unfold bindC
   rw [q7a r _ h.2]
   split
   · rfl
   · exact if_neg h.1
theorem j3j {ko : Str → Option NameKind} : ∀ (xs : List String) (rs : List Value) (vs : List V) (m : Str → Option Value), Reps u W rs vs → xs.Nodup → ∀ x v, (xs.zip vs).lookup x = some v →
   (ko (Str.ofString x) = some .local → ∃ r, bindL ko ((xs.map Str.ofString).zip rs) m (Str.ofString x) = some r ∧ Rep u W r v) ∧
   (ko (Str.ofString x) ≠ some .local → ∃ r, bindC ko ((xs.map Str.ofString).zip rs) m (Str.ofString x) = some r ∧ Rep u W r v) := by
 intro xs
 induction xs with
 | nil => intro rs vs m _ _ x v h; simp at h
 | cons y xs ih =>
   intro rs vs m H nd x v h
   cases H with
   | nil => simp at h
   | cons a b =>
     rename_i r v' rs vs
     obtain ⟨n1, n2⟩ := List.nodup_cons.mp nd
     have hno : Str.ofString y ∉ ((xs.map Str.ofString).zip rs).map (·.1) := fun z => by
       obtain ⟨p, hp, e⟩ := List.mem_map.mp z
       obtain ⟨w, hw, e2⟩ := List.mem_map.mp (List.of_mem_zip hp).1
       exact n1 (q2q (e2.trans e) ▸ hw)
     simp only [List.map_cons, List.zip_cons_cons] at h ⊢
     by_cases hx : x = y
     · subst hx
       simp only [List.lookup, beq_self_eq_true, Option.some.injEq] at h
       subst h
       refine ⟨fun hk => ⟨r, ?_, a⟩, fun hk => ⟨r, ?_, a⟩⟩
       · unfold bindL; rw [j1x _ _ hno, if_pos hk]; simp
       · unfold bindC; rw [q7a _ _ hno, if_neg hk]; simp
     · have hb : (x == y) = false := by simpa using hx
       simp only [List.lookup, hb] at h
       exact ⟨fun hk => by unfold bindL; exact (ih rs vs _ b n2 x v h).1 hk, fun hk => by unfold bindC; exact (ih rs vs _ b n2 x v h).2 hk⟩
noncomputable def q7y (xs cs : List String) (vs : List V) (H : List AO) : St :=
 ⟨((xs.zip vs).filter fun p => !cs.contains p.1) ++ cs.zipIdx.map fun p => (p.1, .obj (H.length + p.2)), H ++ cs.map fun n => match (xs.zip vs).lookup n with | some v => .cell v | none => .cell0⟩
theorem q5x : ∀ (names : List (Str × NameKind)) (n : Nat) (acc : List (Str × Addr)), cellsFrom n names acc = ((((names.filter (·.2 == .cell)).map (·.1)).zipIdx n).reverse) ++ acc
 | [], _, _ => rfl
 | (nm, k) :: r, n, acc => by
   unfold cellsFrom
   cases hk : k == NameKind.cell with
   | true =>
     rw [if_pos rfl, q5x r]
     simp only [List.filter_cons, hk, if_true, List.map_cons, List.zipIdx_cons, List.reverse_cons, List.append_assoc, List.cons_append, List.nil_append]
   | false =>
     rw [if_neg Bool.false_ne_true, q5x r]
     simp only [List.filter_cons, hk, Bool.false_eq_true, if_false]
theorem j4x {α : Type} {l : List (Str × α)} {n : Str} {a : α} (h : (n, a) ∈ l) (hu : ∀ b, (n, b) ∈ l → b = a) : l.lookup n = some a := by
 cases hq : l.lookup n with
 | none =>
   have z := List.lookup_eq_none_iff.mp hq _ h
   simp at z
 | some b =>
   obtain ⟨l1, l2, e, _⟩ := List.lookup_eq_some_iff.mp hq
   rw [hu b (by rw [e]; simp)]
theorem cells_at {cs : List String} (nd : cs.Nodup) {names : List (Str × NameKind)} (hcs : (names.filter (·.2 == .cell)).map (·.1) = cs.map Str.ofString) {n i : Nat} {x : String} (h : cs[i]? = some x) : (cellsFrom n names []).lookup (Str.ofString x) = some (n + i) := by
 rw [q5x, hcs, List.append_nil]
 refine j4x (List.mem_reverse.mpr (List.mk_mem_zipIdx_iff_le_and_getElem?_sub.mpr ?_)) fun b hb => ?_
 · refine ⟨Nat.le_add_right _ _, ?_⟩
   rw [Nat.add_sub_cancel_left, List.getElem?_map, h]; rfl
 · have hb := List.mk_mem_zipIdx_iff_le_and_getElem?_sub.mp (List.mem_reverse.mp hb)
   obtain ⟨h1, h2⟩ := hb
   rw [List.getElem?_map] at h2
   obtain ⟨y, hy, e⟩ := Option.map_eq_some_iff.mp h2
   have e := q2q e
   subst e
   have := (List.getElem?_inj (List.getElem?_eq_some_iff.mp hy).1 nd).mp (hy.trans h.symm)
   rw [← this]
   exact (Nat.add_sub_of_le h1).symm
theorem j5x {xs cs : List String} {vs : List V} {H : List AO} {x : String} {v : V} (h : (q7y xs cs vs H).get x = some v) :
   ((xs.zip vs).lookup x = some v ∧ x ∉ cs) ∨ ∃ i, cs[i]? = some x ∧ v = .obj (H.length + i) := by
 unfold St.get q7y at h
 simp only [List.lookup_append] at h
 cases hq : ((xs.zip vs).filter fun p => !cs.contains p.1).lookup x with
 | some w =>
   rw [hq] at h
   simp only [Option.some_or, Option.some.injEq] at h
   subst h
   obtain ⟨l1, l2, e, hno⟩ := List.lookup_eq_some_iff.mp hq
   have hm : (x, w) ∈ (xs.zip vs).filter fun p => !cs.contains p.1 := by rw [e]; simp
   obtain ⟨m1, m2⟩ := List.mem_filter.mp hm
   have hx : x ∉ cs := by simpa using m2
   refine .inl ⟨?_, hx⟩
   have key : ∀ l : List (String × V), (l.filter fun p => !cs.contains p.1).lookup x = l.lookup x := by
     intro l
     induction l with
     | nil => rfl
     | cons p l ih =>
       obtain ⟨k, w'⟩ := p
       by_cases hk : k = x
       · subst hk
         have : (!cs.contains k) = true := by simpa using hx
         rw [List.filter_cons_of_pos (p := fun p : String × V => !cs.contains p.1) this, List.lookup_cons, List.lookup_cons]
         simp
       · have hb : (x == k) = false := by simpa using fun z => hk z.symm
         simp only [List.filter_cons, List.lookup_cons, hb]
         split
         · simp only [List.lookup_cons, hb]; exact ih
         · exact ih
   rw [← key, hq]
 | none =>
   rw [hq] at h
   simp only [Option.none_or] at h
   obtain ⟨l1, l2, e, _⟩ := List.lookup_eq_some_iff.mp h
   have hm : (x, v) ∈ cs.zipIdx.map fun p => (p.1, V.obj (H.length + p.2)) := by rw [e]; simp
   obtain ⟨p, hp, e2⟩ := List.mem_map.mp hm
   have := List.mem_zipIdx_iff_getElem?.mp hp
   injection e2 with e3 e4
   exact .inr ⟨p.2, by rw [← e3]; exact this, e4.symm⟩
theorem j8k (uo : u.Ok) {fa : Addr} {fo : Obj} {fd : FuncData} {body : List Stmt} {k : Nat} {xs cs : List String} {n : Nat} {den : St → Res Fl}
   (ho : u.B.get? fa = some fo) (hd : fo.data = .func fd) (hb : fd.body = .stmts body) (hcd : u.B.CodeRec fd.code fd.qualname)
   (hco : fd.scope.isCoroutine = false) (hgen : fd.scope.isGenerator = false) (hk : fd.scope.kind = .function) (hgl : fd.globals = mainGlobals) (hbl : fd.builtins = builtinsNs) (hclo : fd.closure = [])
   (hcs : (fd.scope.names.filter (·.2 == .cell)).map (·.1) = cs.map Str.ofString)
   (hbind : ∀ rs : List Value, rs.length = k → bindArgs fd ⟨rs, []⟩ = pure ((xs.map Str.ofString).zip rs))
   (hnd : xs.Nodup) (hcnd : cs.Nodup) (hloc : ∀ x ∈ xs, fd.scope.names.lookup (Str.ofString x) = some (if cs.contains x then .cell else .local)) (hck : ∀ x ∈ cs, fd.scope.names.lookup (Str.ofString x) = some .cell) (hn : 1 ≤ n)
   (H : ∀ c : Cx, c.Ok → c.Fn → n ≤ c.room → c.env.scope = fd.scope → c.env.code = fd.code → c.env.func = some fa → c.env.qual = fd.qualname ++ ".<locals>." → SB u c body den) :
   CodeOk u (.ref fa) (n + 1) (fun vs H => if vs.length = k then finR H.length (den (q7y xs cs vs H)) else .bad) := by
 intro c ok hroom W σ s rs vs i hr
 show SimC u c _ (q1g σ (if vs.length = k then finR σ.hp.length (den (q7y xs cs vs σ.hp)) else .bad)) W s
 by_cases hlen : vs.length = k
 case neg => rw [if_neg hlen]; exact fun h => absurd rfl h
 rw [if_pos hlen]
 intro hnb
 have hlen' : rs.length = k := by rw [hr.length]; exact hlen
 obtain ⟨oL, es, ep, hL, hLd, _⟩ := i.F.ns
 have room : c.A.depth < recursionLimit := by have := ok.depth; omega
 have isC : ∀ x ∈ cs, ∀ L, ((cellsFrom L fd.scope.names []).lookup (Str.ofString x)).isSome = true := fun x hx L => by
   obtain ⟨j, hj, e⟩ := List.getElem_of_mem hx
   rw [cells_at hcnd hcs (i := j) (by rw [List.getElem?_eq_getElem hj, e])]; rfl
 have hkind : ∀ x ∈ (xs.map Str.ofString).zip rs, fd.scope.names.lookup x.1 = some .local ∨ (fd.scope.names.lookup x.1 = some .cell ∧ ((cellsFrom (s.heap.objs.size + 1) fd.scope.names []).lookup x.1).isSome = true) := fun x hx => by
   obtain ⟨y, hy, e⟩ := List.mem_map.mp (List.of_mem_zip hx).1
   rw [← e]
   have := hloc y hy
   by_cases hc : cs.contains y = true
   · rw [if_pos hc] at this
     exact .inr ⟨this, isC y (by simpa using hc) _⟩
   · rw [if_neg hc] at this
     exact .inl this
 refine codeAny_call_cells room (i.F.keep _ _ ho) hd (uo.T.nolimit.keeps i.F.keep) (hcd.keeps i.F.keep) hb (hbind rs hlen') hclo hkind (fun s1 x => ?_) hco hgen hk
 generalize henv : callEnvC fd s.heap.objs.size fa = env at x
 have ekind : ∀ n, env.kindOf n = fd.scope.names.lookup n := fun n => by rw [← henv]; rfl
 have eloc : env.locals = s.heap.objs.size := by rw [← henv]; rfl
 have ecell : env.cells = cellsFrom (s.heap.objs.size + 1) fd.scope.names [] := by rw [← henv]; rfl
 have ok' : (q0y c env).Ok := q6w ok (by rw [← henv]; exact hk) (by rw [← henv]; exact hgl) (by rw [← henv]; exact hbl) (by omega)
 have hfn : (q0y c env).Fn := ⟨c.fenvs, rfl, by rw [← henv]; rfl⟩
 have ns := x.toInCall.ns
 rw [eloc] at ns
 obtain ⟨h1, tk, rfl⟩ := x.toInCall.same
 have i1 := q7q (tk := tk) (loc := []) (c2 := q0y c env) i hL eloc (fun e he => by
   rcases List.mem_cons.mp he with rfl | he
   · exact .inr ⟨by rw [← henv]; show fd.scope.kind ≠ _; rw [hk]; decide, by rw [← henv]; rfl⟩
   · exact .inl he) ns x.toInCall.keep (fun y v hy => by cases hy)
 have cell_at : ∀ j y, cs[j]? = some y → env.cells.lookup (Str.ofString y) = some (s.heap.objs.size + 1 + j) := fun j y hy => by rw [ecell]; exact cells_at hcnd hcs hy
 have cellIs : ∀ j y, cs[j]? = some y → h1.IsCell (s.heap.objs.size + 1 + j) (bindC env.kindOf ((xs.map Str.ofString).zip rs) (fun _ => none) (Str.ofString y)) := fun j y hy => x.cell _ _ (cell_at j y hy)
 let csl : List (Addr × Obj × AO) := cs.zipIdx.map fun p => (s.heap.objs.size + 1 + p.2, (h1.get? (s.heap.objs.size + 1 + p.2)).getD ⟨.none, none, .plain, #[]⟩, match (xs.zip vs).lookup p.1 with | some v => .cell v | none => .cell0)
 have hLlt : c.env.locals < s.heap.objs.size := Heap.lt_size hL
 have big : ∀ a, s.heap.objs.size < a → a ≠ env.locals ∧ u.B.get? a = none := fun a ha => by
   refine ⟨by rw [eloc]; exact Nat.ne_of_gt ha, Heap.get?_none_of_le (Nat.le_trans i.F.above (Nat.le_trans (Nat.le_of_lt hLlt) (Nat.le_of_lt ha)))⟩
 have hcslm : ∀ z ∈ csl, ∃ j y, cs[j]? = some y ∧ z = (s.heap.objs.size + 1 + j, (h1.get? (s.heap.objs.size + 1 + j)).getD ⟨.none, none, .plain, #[]⟩, match (xs.zip vs).lookup y with | some v => .cell v | none => .cell0) := fun z hz => by
   obtain ⟨p, hp, rfl⟩ := List.mem_map.mp hz
   exact ⟨p.2, p.1, List.mem_zipIdx_iff_getElem?.mp hp, rfl⟩
 have hle : Le W ⟨bindL env.kindOf ((xs.map Str.ofString).zip rs) (fun _ => none), W.fz, W.hp, W.tb, (c.env.locals, oL) :: W.fr⟩ := ⟨fun _ h => h, fun _ _ h => h⟩
 have i2 := addCells csl _ _ i1 (fun z hz => by
   obtain ⟨j, y, hj, rfl⟩ := hcslm z hz
   obtain ⟨o, ho', _⟩ := cellIs j y hj
   have hb := big (s.heap.objs.size + 1 + j) (by omega)
   refine ⟨by show h1.get? _ = some ((h1.get? _).getD _); rw [ho']; rfl, hb.1, hb.2, fun w => ?_⟩
   obtain ⟨p, hp, e⟩ := List.mem_map.mp w
   have : p.1 < s.heap.objs.size := q4n hp (fun h => i.lt (q0u h)) (fun h => i.lt (q0k (q1t h))) (fun h => i.lt (q0k (q2e h))) fun h => (List.mem_cons.mp h).elim (fun h => by rw [h]; exact hLlt) fun h => i.lt (q1b h)
   rw [e] at this
   have h5 : (s.heap.objs.size : Nat) + 1 + j < s.heap.objs.size := this
   omega) (by
   show ((cs.zipIdx.map _).map _).Nodup
   rw [List.map_map]
   have : (cs.zipIdx.map ((fun x : Addr × Obj × AO => x.1) ∘ fun p => (s.heap.objs.size + 1 + p.2, (h1.get? (s.heap.objs.size + 1 + p.2)).getD ⟨.none, none, .plain, #[]⟩, match (xs.zip vs).lookup p.1 with | some v => AO.cell v | none => AO.cell0))) = (List.range cs.length).map (s.heap.objs.size + 1 + ·) := by
     apply List.ext_getElem?
     intro j
     simp only [List.getElem?_map, List.getElem?_zipIdx, Nat.zero_add]
     by_cases hj : j < cs.length
     · rw [List.getElem?_eq_getElem hj, List.getElem?_range hj]; rfl
     · rw [List.getElem?_eq_none (by omega), List.getElem?_eq_none (by simp; omega)]; rfl
   rw [this]
   exact List.pairwise_map.mpr (List.nodup_range.imp fun h e => h (Nat.add_left_cancel e))) (fun z hz => by
   obtain ⟨j, y, hj, rfl⟩ := hcslm z hz
   obtain ⟨o, ho', hd'⟩ := cellIs j y hj
   dsimp only
   rw [ho']
   dsimp only [Option.getD]
   have hyc : y ∈ cs := List.mem_of_getElem? hj
   cases hq : (xs.zip vs).lookup y with
   | some v =>
     obtain ⟨r, q1, q2⟩ := (j3j (ko := env.kindOf) xs rs vs (fun _ => none) hr hnd y v hq).2 (by rw [ekind, hck y hyc]; decide)
     rw [q1] at hd'
     exact .cell hd' (q2.le hle)
   | none =>
     have hno : Str.ofString y ∉ ((xs.map Str.ofString).zip rs).map (·.1) := fun w => by
       obtain ⟨p, hp, e⟩ := List.mem_map.mp w
       obtain ⟨j2, hj2, e3⟩ := List.getElem_of_mem hp
       have hj3 : j2 < xs.length ∧ j2 < rs.length := by have := hj2; simp only [List.length_zip, List.length_map] at this; omega
       have hxy : xs[j2] = y := by
         have : p.1 = Str.ofString xs[j2] := by rw [← e3]; simp
         exact q2q (this.symm.trans e)
       have hm : (y, vs[j2]'(by rw [← hr.length]; exact hj3.2)) ∈ xs.zip vs := by
         rw [← hxy]
         refine List.mem_of_getElem? (i := j2) ?_
         rw [List.getElem?_zip_eq_some]
         exact ⟨List.getElem?_eq_getElem _, List.getElem?_eq_getElem _⟩
       have z := List.lookup_eq_none_iff.mp hq _ hm
       simp at z
     rw [q7a _ _ hno] at hd'
     exact .cell0 hd')
 have ev0 : Ev ⟨bindL env.kindOf ((xs.map Str.ofString).zip rs) (fun _ => none), W.fz, W.hp, W.tb, (c.env.locals, oL) :: W.fr⟩ (Wd.addHs ⟨bindL env.kindOf ((xs.map Str.ofString).zip rs) (fun _ => none), W.fz, W.hp, W.tb, (c.env.locals, oL) :: W.fr⟩ csl) :=
   ⟨fun _ h => h, by show W.hp.map (·.1) <+: (W.hp ++ _).map (·.1); rw [List.map_append]; exact List.prefix_append _ _, rfl, TI.SameUp.refl _⟩
 have hle2 : Le W (Wd.addHs ⟨bindL env.kindOf ((xs.map Str.ofString).zip rs) (fun _ => none), W.fz, W.hp, W.tb, (c.env.locals, oL) :: W.fr⟩ csl) := ⟨fun p h => ev0.fz p h, fun a b h => ev0.get h⟩
 have i3 := i2.withLoc (loc := (q7y xs cs vs σ.hp).loc) (fun y v hy => by
   rcases j5x (H := σ.hp) hy with ⟨h2, h3⟩ | ⟨j, h2, rfl⟩
   · have hyx : y ∈ xs := by
       obtain ⟨l1, l2, e, _⟩ := List.lookup_eq_some_iff.mp h2
       exact (List.of_mem_zip (show (y, v) ∈ xs.zip vs by rw [e]; simp)).1
     have hkl : env.kindOf (Str.ofString y) = some .local := by
       rw [ekind, hloc y hyx, if_neg (by simpa using h3)]
     obtain ⟨r, q1, q2⟩ := (j3j (ko := env.kindOf) xs rs vs (fun _ => none) hr hnd y v h2).1 hkl
     refine ⟨fun _ => ⟨r, q1, q2.le hle2⟩, fun hkk => ?_⟩
     · have hkk : env.kindOf (Str.ofString y) = some .cell ∨ env.kindOf (Str.ofString y) = some .free := hkk
       rw [hkl] at hkk
       rcases hkk with h | h <;> cases h
   · have hkc : env.kindOf (Str.ofString y) = some .cell := by rw [ekind]; exact hck y (List.mem_of_getElem? h2)
     refine ⟨fun hkk => ?_, fun _ => ⟨_, _, rfl, ?_, cell_at j y h2⟩⟩
     · have hkk : env.kindOf (Str.ofString y) = some .local := hkk
       rw [hkc] at hkk; cases hkk
     · show ((W.hp ++ csl.map fun x => (x.1, [(x.1, x.2.1)])).map (·.1))[σ.hp.length + j]? = _
       rw [List.map_append, ← i.hp.len, List.getElem?_append_right (by simp)]
       simp only [List.length_map, Nat.add_sub_cancel_left, List.map_map]
       simp only [csl, List.getElem?_map, List.getElem?_zipIdx, h2, Option.map_some, Nat.zero_add]
       rfl)
 have ehp : σ.hp ++ csl.map (·.2.2) = (q7y xs cs vs σ.hp).hp := by
   show _ = σ.hp ++ cs.map _
   congr 1
   simp only [csl, List.map_map]
   apply List.ext_getElem?
   intro j
   simp only [List.getElem?_map, List.getElem?_zipIdx]
   cases cs[j]? <;> rfl
 rw [ehp] at i3
 have B := j3i i hL hfn ok' ev0 (H _ ok' hfn (by show n ≤ c.room - 1; omega) (by rw [← henv]; rfl) (by rw [← henv]; rfl) (by rw [← henv]; rfl) (by rw [← henv]; rfl) _ _ _ i3) rfl (liftR_nb hnb)
 exact wpAny_mono B (fun f s' hq => by cases f <;> exact hq) fun _ _ x => x
end
section
open Builtin
noncomputable abbrev ExF := @ExcBaseFacts "Exception" "Exception.__new__" "Exception.__init__" [.type "Exception", .type "BaseException", .type "object"]
theorem exF : ExF := PySem.F.excBase_Exception
structure BmOk (bm : List Value) : Prop where
 b : bm.contains (.type "Exception") = true
 base : bm.contains (.type "BaseException") = true
 a : bm.contains (.type "AttributeError") = false
 n : bm.contains (.type "NameError") = false
section
variable {M : Model} {A : Around} {E : Value → Shared → Prop} {h : Heap} {g : Array GenState} {d : Drawn} {t : Nat} {os : OsState}
variable {nm q : Str} {C N : Addr} {bs bm : List Value} {hdct : Bool} {sn : List Str} {sub : List Value} {ab : Bool} {col : Option Bool} {dd : Option Addr} {k0 k1 k2 k3 k5 : Option Value}
theorem j5k (B : BmOk bm) {rest : List Value} {Q : Unit → Shared → Prop} (hC : h.get? C = some (excClassObj nm q C N bs bm hdct sn sub ab col dd k0 k1 k2 k3 k5 "Exception.__new__"))
   (hq : Q () ⟨h, g, d, t, os⟩) : wpAny M A (checkBuiltinCall "Exception.__new__" ⟨.ref C :: rest, []⟩) Q E ⟨h, g, d, t, os⟩ := by
 have F := exF
 have hcont : (Value.ref C :: bm).contains (.type "Exception") = true := by rw [List.contains_cons, B.b, Bool.or_true]
 have hstar := F.noStar
 simp only [checkBuiltinCall, F.newKind, F.newSplit, F.newRow]
 repeat (first | refine wpAny_loadPart_at hC ?_ | (refine wpAny_isSubtype_exc hC ?_; rw [hcont]) | refine wpAny_staticBase_exc hC ?_ | refine wpAny_madeBy_exc hC ?_ | simp only [bne_self_eq_false, Bool.false_eq_true, if_false] | wp_step)
 exact hq
end
section
variable {prog : Program} {w : World} {A : Around} {R : Result → Shared → Prop} {E : Value → Shared → Prop} {h : Heap} {g : Array GenState} {d : Drawn} {t : Nat} {os : OsState}
variable {nm q : Str} {C N : Addr} {bs bm : List Value} {hdct : Bool} {sn : List Str} {sub : List Value} {ab : Bool} {col : Option Bool} {dd : Option Addr} {k0 k1 k2 k3 k5 : Option Value}
theorem exc_new (B : BmOk bm) {rest : List Value} (hC : h.get? C = some (excClassObj nm q C N bs bm hdct sn sub ab col dd k0 k1 k2 k3 k5 "Exception.__new__"))
   (hq : R (.ok (.ret (.ref (h.objs.size + 1)))) ⟨(h.push { cls := .type "tuple", data := .seq rest.toArray }).push
     { cls := .ref C, data := .fields #[.ref h.objs.size, .none, .none, .none, .bool false, .none] }, g, d, t, os⟩) (hrest : rest.length ≤ sizeLine) :
   codeAny (model prog w) A (.builtin "Exception.__new__" ⟨.ref C :: rest, []⟩) R ⟨h, g, d, t, os⟩ := by
 have F := exF
 have hends := F.ends
 have hcB : (Value.ref C :: bm).contains (.type "Exception") = true := by rw [List.contains_cons, B.b, Bool.or_true]
 have hcA : (Value.ref C :: bm).contains (.type "AttributeError") = false := by rw [List.contains_cons, B.a]; rfl
 have hcN : (Value.ref C :: bm).contains (.type "NameError") = false := by rw [List.contains_cons, B.n]; rfl
 refine codeAny_builtinAt F.entry ?_
 unfold Builtin.«BaseException.__new__»
 refine PySem.wpAt_bind ?_
 show PySem.wpAt _ _ _ (stack >>= _) _ _ _
 refine PySem.wpAt_bind (PySem.wpAt_stack fun p below => PySem.wpAt_of_wpAny ?_)
 wp_walk
 refine PySem.wpAt_of_wpAny ?_
 rw [F.owner]
 repeat (first | with_reducible refine wpAny_madeHere_exc F.canon hC ?_ | with_reducible refine wpAny_loadPart_at hC ?_ | (with_reducible refine wpAny_isSubtype_exc hC ?_; first | rw [hcB] | rw [hcA] | rw [hcN]) | wp_step)
 show R _ _
 rw [Heap.size_push]
 exact hq
theorem j5j (B : BmOk bm) {rest : List Value} {fI : Addr} {oI : Obj} {Q : Fin → Shared → Prop}
   (hC : h.get? C = some (excClassObj nm q C N bs bm hdct sn sub ab col dd k0 k1 k2 k3 k5 "Exception.__new__")) (hi : Looks (model prog w) h (typeLookup (.ref C) "__init__") (some (.ref fI)))
   (hfI : h.get? fI = some oI) (hfc : oI.cls = .type "function")
   (hq : ∀ h' e, Heap.MadeExcOf h h' e (.ref C) rest →
     wpAny (model prog w) A (call (.ref fI) (.ref e :: rest)) (fun r s' => r = .none ∧ Q (.done (.ret (.ref e))) s') E ⟨h', g, d, t, os⟩) (hrest : rest.length ≤ sizeLine) :
   wpAny (model prog w) A (Builtin.«type.__call__» ⟨.ref C :: rest, []⟩) Q E ⟨h, g, d, t, os⟩ := by
 have F := exF
 repeat (first | with_reducible refine wpAny_loadPart_at hC ?_ | with_reducible refine wpAny_madeBy_exc hC ?_ | wp_step)
 refine codeAny_call_builtin_code (Code.quiet_builtin _ F.quiet) (j5k B hC ?_)
 refine exc_new B hC ?_ hrest
 show wpAny _ _ _ _ _ _
 have hC₁ := Heap.get?_push_of_some { cls := .ref C, data := .fields #[.ref h.objs.size, .none, .none, .none, .bool false, .none] }
   (Heap.get?_push_of_some { cls := .type "tuple", data := .seq rest.toArray } hC)
 have hfI₁ := Heap.get?_push_of_some { cls := .ref C, data := .fields #[.ref h.objs.size, .none, .none, .none, .bool false, .none] }
   (Heap.get?_push_of_some { cls := .type "tuple", data := .seq rest.toArray } hfI)
 have hget : ((h.push { cls := .type "tuple", data := .seq rest.toArray }).push
     { cls := .ref C, data := .fields #[.ref h.objs.size, .none, .none, .none, .bool false, .none] }).get? (h.objs.size + 1) = some
     { cls := .ref C, data := .fields #[.ref h.objs.size, .none, .none, .none, .bool false, .none] } := by heap_get
 have hcC : (Value.ref C :: bm).contains (.ref C) = true := by simp
 unfold isInstance
 repeat (first | with_reducible refine wpAny_loadPart_at hget ?_ | (with_reducible refine wpAny_isSubtype_exc hC₁ ?_; rw [hcC]) | wp_step)
 show wpAny _ _ (typeLookup (.ref C) _) _ _ _
 refine hi _ _ _ _ (fun b o e => Heap.get?_push_of_some _ (Heap.get?_push_of_some _ e)) ?_
 refine wpAny_holding (wpAny_bind ?_)
 unfold bindSpecial
 refine wpAny_bind (wpAny_typeOf (T := "function") ⟨_, hfI₁, hfc⟩ ?_)
 rw [if_pos (by decide)]
 refine wpAny_pure (wpAny_bind (wpAny_mono (hq _ (h.objs.size + 1) ⟨fun b o hb => Heap.get?_push_of_some _ (Heap.get?_push_of_some _ hb), Heap.get?_none_of_le (Nat.le_succ _), h.objs.size, hget, Heap.get?_none_of_le (Nat.le_refl _), ?_⟩) (fun r s' hr => ?_) fun _ _ x => x))
 · exact Heap.get?_push_of_some _ (Heap.get?_push_at rfl rfl)
 · obtain ⟨rfl, hQ⟩ := hr
   wp_walk
   exact hQ
theorem exc_call (B : BmOk bm) {rest : List Value} {fI : Addr} {oI : Obj} {Q : Value → Shared → Prop}
   (hC : h.get? C = some (excClassObj nm q C N bs bm hdct sn sub ab col dd k0 k1 k2 k3 k5 "Exception.__new__")) (hi : Looks (model prog w) h (typeLookup (.ref C) "__init__") (some (.ref fI)))
   (hfI : h.get? fI = some oI) (hfc : oI.cls = .type "function")
   (hq : ∀ h' e, Heap.MadeExcOf h h' e (.ref C) rest →
     wpAny (model prog w) (A.under (.builtin "type.__call__" ⟨.ref C :: rest, []⟩)) (call (.ref fI) (.ref e :: rest)) (fun r s' => r = .none ∧ Q (.ref e) s') E ⟨h', g, d, t, os⟩) (hrest : rest.length ≤ sizeLine) :
   wpAny (model prog w) A (call (.ref C) rest) Q E ⟨h, g, d, t, os⟩ := by
 have f1 := tc_lookup
 have f2 := tc_bind (.ref C)
 have hT : (⟨h, g, d, t, os⟩ : Shared).TypeIs (.ref C) "type" := ⟨_, hC, rfl⟩
 refine wpAny_call (codeAny_of_tree ?_)
 show wpAny _ _ (callAny (.ref C) _) _ _ _
 repeat (any_goals (first | assumption | with_reducible refine wpAny_loadPart_at hC ?_ | wp_step))
 refine ⟨rfl, ?_⟩
 refine codeAny_call_builtin_at (Code.quiet_builtin _ (by decide +kernel)) entry_typeCall (wpAny_check_type_call_sub hC (j5j B hC hi hfI hfc (fun h' e hm => ?_) hrest))
 exact hq h' e hm
end
end
section
open Builtin Builtin.ObjectAttr
theorem j2p (self : Value) (a : Addr) : ∀ l : List Value, (∀ v ∈ l, ∃ b, v = .ref b) → refuseLoop self "__setattr__" (l ++ [.type "Exception", .type "BaseException", .type "object"]) = pure ()
 | [], _ => by
   rw [List.nil_append]
   kernel_rfl
 | v :: l, h => by
   obtain ⟨b, rfl⟩ := h v (.head _)
   rw [List.cons_append, refuseLoop_ref]
   exact j2p self a l fun v hv => h v (.tail _ hv)
structure ExcK (K : Frag) (C fI : Addr) : Prop where
 objE : ∀ {P : Prop}, (∀ nm q N bs l sn sub ab col dd k0 k1 k2 k3 k5, K.lookup C = some (excClassObj nm q C N bs (l ++ [.type "Exception", .type "BaseException", .type "object"]) true sn sub ab col dd k0 k1 k2 k3 k5 "Exception.__new__") → (∀ v ∈ l, ∃ b, v = .ref b) → P) → P
 init : findIn K (.ref C) "__init__" = some (some (.ref fI))
 set : findIn K (.ref C) "__setattr__" = some (some (.builtin "object.__setattr__"))
 msg : findIn K (.ref C) "message" = some none
theorem j5t {l : List Value} (h : ∀ v ∈ l, ∃ b, v = .ref b) (T : String) : l.contains (.type T) = false := by
 rw [List.contains_eq_any_beq, List.any_eq_false]
 intro v hv
 obtain ⟨b, rfl⟩ := h v hv
 simp
theorem q9e {l m : List Value} {v : Value} : (l ++ m).contains v = (l.contains v || m.contains v) := by
 simp only [List.contains_eq_any_beq, List.any_append]
theorem bm_ok {l : List Value} (h : ∀ v ∈ l, ∃ b, v = .ref b) : BmOk (l ++ [.type "Exception", .type "BaseException", .type "object"]) := by
 refine ⟨?_, ?_, ?_, ?_⟩ <;> rw [q9e, j5t h] <;> decide
section
variable {prog : Program} {w : World} {A : Around} {E : Value → Shared → Prop} {s : Shared} {K : Frag} {C fI e : Addr} {fs : Array Value} {v : Value}
noncomputable def q8o (w : World) (v : Value) (tk : Tok) : Obj := dictOf [⟨PyData.keyHash w.params "message", .str "message" tk, v⟩] 1
theorem exc_store (X : K.In s.heap) (k : ExcK K C fI) (he : s.heap.get? e = some { cls := .ref C, data := .fields fs }) {Q : Unit → Shared → Prop}
   (h : ∀ h' tk tk', (∀ b o, b ≠ e → s.heap.get? b = some o → h'.get? b = some o) → h'.get? e = some { cls := .ref C, dict := some s.heap.objs.size, data := .fields fs } → h'.get? s.heap.objs.size = some (q8o w v tk) →
     Q () { s with heap := h', toks := tk' }) :
   wpAny (model prog w) A (setAttr (.ref e) "message" v) Q E s := by
 refine k.objE fun nm q N bs l sn sub ab col dd k0 k1 k2 k3 k5 hC hl => ?_
 have hc : clsIn K C = some { name := nm, bases := bs, mro := .ref C :: (l ++ [.type "Exception", .type "BaseException", .type "object"]), ns := N, qualname := q, hasDict := true, slotNames := sn, subclasses := sub, abstract := ab, collection := col, hasDel := false } := by
   unfold clsIn; rw [hC]
 have I : InstAt s.heap e { cls := .ref C, data := .fields fs } C none := ⟨he, rfl, rfl, trivial⟩
 refine PySem.W.set_plain X I k.set ?_
 have SF := PySem.F.store_object
 have X1 : K.In ({ s with toks := s.toks + 1 } : Shared).heap := X
 have I1 : InstAt ({ s with toks := s.toks + 1 } : Shared).heap e { cls := .ref C, data := .fields fs } C none := I
 have sub' : Looks (model prog w) s.heap (isInstance (.ref e) (.type "object")) true := I.type.andThen (looks_mroIn X (by
   unfold mroIn; rw [hc, Option.bind_some, if_neg (by simp), List.contains_cons, q9e]; simp))
 refine codeAny_call_builtin SF.slot.plain SF.entry (@check_slot (model prog w) _ _ { s with toks := s.toks + 1 } "object.__setattr__" "object" "__setattr__" (.ref e) [.str "message" s.toks, v] [] _ SF.kind SF.split sub' (SF.args (.ref e) (.str "message" s.toks) v) ?_)
 have hm : Looks (model prog w) s.heap (mroOf (.ref C)) (.ref C :: (l ++ [.type "Exception", .type "BaseException", .type "object"])) := (looks_clsIn X hc).andThen .now
 rw [osa_eq, refuse_eq]
 refine wpAny_bind (wpAny_bind (I1.type.here (wpAny_bind (Looks.here hm ?_))))
 rw [refuseLoop_ref, j2p _ C l hl]
 refine wpAny_pure (wpAny_bind (I1.type.here (wpAny_bind ((looks_findIn X1 k.msg).here (wpAny_bind (wpAny_pure ?_))))))
 dsimp only
 unfold storeInOwnDict
 refine wpAny_bind (m := ownStreamTells (.ref e) (.ref C)) (wpAny_pure ?_)
 rw [if_neg (show ¬ ((Value.ref C == Value.type "module") = true) from Bool.false_ne_true)]
 show wpAny _ _ (ownDictForStores (.ref e) >>= _) _ _ _
 refine wpAny_bind ?_
 show wpAny _ _ (instanceDict e true) _ _ _
 unfold instanceDict
 refine wpAny_bind (wpAny_loadPart he ?_)
 show wpAny _ _ (classData C >>= _) _ _ _
 refine wpAny_bind ((looks_clsIn X1 hc).here ?_)
 dsimp only
 rw [if_neg (by decide)]
 rw [if_neg (show ¬ ((!true || !typeHasDict (.ref C)) = true) from Bool.false_ne_true)]
 show wpAny _ _ (alloc { cls := .type "dict", data := .dict #[] } >>= _) _ _ _
 refine wpAny_bind (wpAny_alloc ?_)
 have hlt : e < s.heap.objs.size := Heap.lt_size he
 have hne : s.heap.objs.size ≠ e := Nat.ne_of_gt hlt
 have he1 : (s.heap.push { cls := .type "dict", data := .dict #[] }).get? e = some { cls := .ref C, data := .fields fs } := Heap.get?_push_of_some _ he
 refine wpAny_bind (wpAny_update he1 ?_)
 show wpAny _ _ (pure (some s.heap.objs.size)) _ _ _
 refine wpAny_pure ?_
 dsimp only
 unfold storeInDict
 refine wpAny_bind (m := newKeyGuard _ _ _) (wpAny_pure ?_)
 generalize hG : (s.heap.push { cls := .type "dict", data := .dict #[] }).update e (fun o => { o with dict := some s.heap.objs.size }) = G
 have gd : G.get? s.heap.objs.size = some { cls := .type "dict", data := .dict #[] } := by
   rw [← hG, Heap.get?_update_other _ _ (Ne.symm hne)]; exact Heap.get?_push_size _ rfl
 have ge : G.get? e = some { cls := .ref C, dict := some s.heap.objs.size, data := .fields fs } := by
   rw [← hG, Heap.get?_update_self _ he1 rfl]
 have go : ∀ b o, b ≠ e → s.heap.get? b = some o → G.get? b = some o := fun b o hb q => by
   rw [← hG, Heap.get?_update_other _ _ (Ne.symm hb)]; exact Heap.get?_push_of_some _ q
 unfold nsSet
 refine wpAny_bind (wpAny_bind (wpAny_bind (wpAny_askSetting (wpAny_pure (wpAny_bind (wpAny_mkText (wpAny_bind (wpAny_loadPart gd ?_))))))))
 dsimp only
 rw [aRefKeyMayBeTheName_at, show (!(#[] : Array DictEntry).any (fun e => e.key.isStr (Str.ofString "message")) && (#[] : Array DictEntry).any (fun e => e.refKey)) = false from by simp]
 refine wpAny_updatePart gd ?_
 have e1 : Obj.putName "message" (PyData.keyHash w.params "message") (.str "message" (s.toks + 1)) v { cls := .type "dict", data := .dict #[] } = q8o w v (s.toks + 1) := by
   have := putName_dict "message" (PyData.keyHash w.params "message") (.str "message" (s.toks + 1)) v [] 0
   exact this
 have D' : (G.update s.heap.objs.size (Obj.putName "message" (PyData.keyHash w.params "message") (.str "message" (s.toks + 1)) v)).get? s.heap.objs.size = some (q8o w v (s.toks + 1)) := by
   rw [Heap.get?_update_self _ gd (by rw [e1]; rfl), e1]
 refine wpAny_bind (wpAny_lookBehind D' (by unfold q8o dictOf; exact pastItsLine_dict (by rw [List.size_toArray, sizeLine_eq]; simp)) ?_)
 refine wpAny_pure ?_
 refine h _ (s.toks + 1) _ (fun b o hb q => ?_) ?_ D'
 · rw [Heap.get?_update_other _ _ (Nat.ne_of_gt (Heap.lt_size q))]; exact go b o hb q
 · rw [Heap.get?_update_other _ _ hne]; exact ge
end
end
section
open Builtin
variable {u : U} {c : Cx} {W : Wd} {σ : St} {s : Shared}
noncomputable abbrev excObj (C t D : Addr) : Obj := { cls := .ref C, dict := some D, data := .fields #[.ref t, .none, .none, .none, .bool false, .none] }
noncomputable abbrev j5b (p1 p2 p3 p4 : Pos) : List Stmt := [.Assign [.Attribute (.Name (Str.ofString "self") p1) (Str.ofString "message") p2] (.Name (Str.ofString "message") p3) p4]
structure InitK (u : U) (fI : Addr) : Prop where
 fnE : ∀ {P : Prop}, (∀ fo fd p1 p2 p3 p4, u.B.get? fI = some fo → fo.cls = .type "function" → fo.data = .func fd → fd.body = .stmts (j5b p1 p2 p3 p4) → u.B.CodeRec fd.code fd.qualname → fd.scope.isCoroutine = false → fd.scope.isGenerator = false → fd.scope.kind = .function → (∀ x ∈ fd.scope.names, x.2 ≠ .cell) → (∀ a b, bindArgs fd ⟨[a, b], []⟩ = pure [(Str.ofString "self", a), (Str.ofString "message", b)]) → fd.scope.names.lookup (Str.ofString "self") = some .local → fd.scope.names.lookup (Str.ofString "message") = some .local → P) → P
theorem exc_make (uo : u.Ok) (hd : c.A.depth + 1 < recursionLimit) {C fI : Addr} (k : ExcK u.K C fI) (ik : InitK u fI) (i : Inv u c W σ s) {r : Value} {v : V} (hr : Rep u W r v) {E : Value → Shared → Prop} :
   wpAny u.M c.A (call (.ref C) [r]) (fun x s' => ∃ e t D, x = .ref e ∧ s'.heap.get? e = some (excObj C t D) ∧ ∃ W', Ev W W' ∧ Inv u c W' σ s' ∧ Exc u c W' s'.heap false e C v) E s := by
 refine k.objE fun nm q N bs l sn sub ab col dd k0 k1 k2 k3 k5 hC hl => ?_
 refine ik.fnE fun fo fd p1 p2 p3 p4 f1 f2 f3 f4 f5 f6 f7 f8 f9 f10 f11 f12 => ?_
 have X := uo.X.keeps i.F.keep
 obtain ⟨hp, g, d, tk, os⟩ := s
 refine exc_call (bm_ok hl) (X _ _ hC) (looks_findIn X k.init) (i.F.keep _ _ f1) f2 (fun h' e hm => ?_) (by rw [szl]; simp)
 obtain ⟨t, he, _, _⟩ := hm.there
 have hlt : ∀ a o, hp.get? a = some o → a < hp.objs.size := fun a o q => Heap.lt_size q
 refine wpAny_call (codeAny_call_def (fd := fd) (body := j5b p1 p2 p3 p4) (binds := [(Str.ofString "self", .ref e), (Str.ofString "message", r)]) ?_ (hm.keeps _ _ (i.F.keep _ _ f1)) f3 (uo.T.nolimit.keeps fun b o q => hm.keeps _ _ (i.F.keep b o q)) (f5.keeps fun b o q => hm.keeps _ _ (i.F.keep b o q)) f4 (BindsTo.of_eq (f10 _ _)) f9 (fun x hx => ?_) (fun h₀ hns hkeep => ?_) f6 f7 f8)
 · exact hd
 · rcases List.mem_cons.mp hx with rfl | hx
   · exact f11
   · rw [List.mem_singleton.mp hx]; exact f12
 have hkd : (callEnv fd h'.objs.size fI).scope.kind = .function := f8
 rw [show execs (j5b p1 p2 p3 p4) (callEnv fd h'.objs.size fI) = _ from execs_cons ..]
 rw [PyProof.Rows.exec_Assign]
 refine wpAny_bind (wpAny_bind (wpAny_standAt ?_))
 refine wpAny_bind (wpAny_of_eq (a := false) rfl ?_)
 rw [if_neg Bool.false_ne_true]
 refine wpAny_bind (wpAny_Name (wpAny_loadName_local hkd f12 hns (v := r) (by simp [List.lookup]) ?_) (by decide))
 refine wpAny_bind (wpAny_of_eq (a := none) rfl ?_)
 dsimp only
 show wpAny _ _ (assign (.Attribute (.Name (Str.ofString "self") p1) (Str.ofString "message") p2) (callEnv fd h'.objs.size fI) r >>= fun _ => pure Flow.next) _ _ _
 rw [arm_assign_Attribute]
 refine wpAny_bind (wpAny_bind (wpAny_holding (wpAny_Name (wpAny_loadName_local hkd f11 hns (v := .ref e) (by simp [List.lookup, show (Str.ofString "self" == Str.ofString "message") = false from by decide]) ?_) (by decide))))
 refine wpAny_bind (wpAny_standAt (wpAny_bind (wpAny_holding ?_)))
 have he0 : h₀.get? e = some { cls := .ref C, data := .fields #[.ref t, .none, .none, .none, .bool false, .none] } := hkeep _ _ he
 have k0' : ∀ b o, hp.get? b = some o → h₀.get? b = some o := fun b o q => hkeep _ _ (hm.keeps b o q)
 refine exc_store (C := C) (fI := fI) (fun b o q => k0' b o (i.F.keep b o (uo.X b o q))) k he0 fun h2 tk2 tk3 ho hE hD => ?_
 have hne : ∀ b o, hp.get? b = some o → b ≠ e := fun b o q z => by rw [z, hm.new] at q; cases q
 have keep2 : ∀ b o, hp.get? b = some o → h2.get? b = some o := fun b o q => ho b o (hne b o q) (k0' b o q)
 have fresh : ∀ b o, hp.get? b = some o → b ≠ h₀.objs.size := fun b o q => Nat.ne_of_lt (Heap.lt_size (k0' b o q))
 have hDe : e ≠ h₀.objs.size := Nat.ne_of_lt (Heap.lt_size he0)
 have hlive : ∃ o, hp.get? c.env.locals = some o := let ⟨o, _, _, q, _⟩ := i.F.ns; ⟨o, q⟩
 have none_of : ∀ a, (∀ o, hp.get? a ≠ some o) → u.B.get? a = none := fun a z => by
   cases q : u.B.get? a with
   | none => rfl
   | some o => exact absurd (i.F.keep a o q) (z o)
 have hBD : u.B.get? h₀.objs.size = none := none_of _ fun o q => fresh _ o q rfl
 have hLD : h₀.objs.size ≠ c.env.locals := fun q => by obtain ⟨o, ho'⟩ := hlive; exact fresh _ o ho' q.symm
 have i2 := i.addF (tk := tk3) (a := h₀.objs.size) (o := q8o u.w r tk2) (h' := h2) (i.F.grownK keep2) (fun p hp' => by
   rcases List.mem_cons.mp hp' with rfl | hp'
   · exact ⟨hD, hLD, hBD⟩
   · exact ⟨keep2 _ _ (i.N p hp').1, (i.N p hp').2⟩) (fun z => by
     obtain ⟨p, hp', e'⟩ := List.mem_map.mp z
     exact fresh _ _ (i.N p (List.mem_append_right _ hp')).1 e')
 have hout : e ∉ (W.addF h₀.objs.size (q8o u.w r tk2)).led.map (·.1) := fun z => by
   obtain ⟨p, hp', e'⟩ := List.mem_map.mp z
   rcases List.mem_append.mp hp' with hp' | hp'
   · rcases List.mem_cons.mp hp' with rfl | hp'
     · exact hDe e'.symm
     · exact hne _ _ (i.N p (List.mem_append_left _ hp')).1 e'
   · exact hne _ _ (i.N p (List.mem_append_right _ hp')).1 e'
 refine wpAny_release (wpAny_pure ?_)
 dsimp only
 rw [show execs [] (callEnv fd h'.objs.size fI) = _ from rfl]
 refine wpAny_pure ?_
 refine ⟨rfl, e, t, h₀.objs.size, rfl, hE, _, W.addF_ev _ _, i2, ⟨_, _, hE, rfl, rfl, .inl rfl rfl, fun _ => rfl, ⟨_, _, _, _, _, rfl, .head _, hr.ev (W.addF_ev _ _)⟩, none_of _ fun o q => hne _ o q rfl, hout, fun z => by
   obtain ⟨o, ho'⟩ := hlive
   exact hne _ o ho' z.symm⟩⟩
end
section
open Builtin
variable {u : U} {c : Cx} {W : Wd} {σ : St} {s : Shared}
theorem q7u {M : Model} {A : Around} {E : Value → Shared → Prop} {env : Env} {nm q : Str} {C N : Addr} {bs bm : List Value} {hdct : Bool} {sn : List Str} {sub : List Value} {ab : Bool} {col : Option Bool} {dd : Option Addr} {k0 k1 k2 k3 k5 : Option Value} {newId : String}
   {s : Shared} {x : Sem Value} {Q : Flow → Shared → Prop} (hbase : bm.contains (.type "BaseException") = true)
   (h : wpAny M A x (fun v s₁ => ∃ e t D, v = .ref e ∧ s₁.heap.get? C = some (excClassObj nm q C N bs bm hdct sn sub ab col dd k0 k1 k2 k3 k5 newId) ∧
     s₁.heap.get? e = some (excObj C t D) ∧ wpAny M A (raiseNew (.ref e)) Q E s₁) E s) :
   wpAny M A (raiseStmt env (some x) none) Q E s := by
 have hcB : (Value.ref C :: bm).contains (.type "BaseException") = true := by rw [List.contains_cons, hbase, Bool.or_true]
 unfold raiseStmt
 refine wpAny_bind (wpAny_mono h (fun v s₁ h₁ => ?_) fun _ _ x => x)
 obtain ⟨e, t, D, rfl, hC, he, hE⟩ := h₁
 obtain ⟨hp, g, d, tk, os⟩ := s₁
 repeat (first | with_reducible refine wpAny_loadPart_at he ?_ | with_reducible refine wpAny_loadPart_at hC ?_ | (with_reducible refine wpAny_isSubtype_exc hC ?_; rw [hcB]) | wp_step)
 exact hE
noncomputable def j7a (C : Addr) (vs : List V) (σ : St) : Res Fl := match vs with
 | [v] => .ex C v σ
 | _ => .bad
theorem sx_raise (uo : u.Ok) (ok : c.Ok) (hroom : 3 ≤ c.room) {C fI : Addr} (k : ExcK u.K C fI) (ik : InitK u fI) {x : Str} {np cpos pos : Pos} {es : List Expr} {fa : St → Res (List V)} (hkeep : keepIn u.K (.ref C) = true)
   (hx : SE u c (.Name x np) (fun σ => .ok (.val (.ref C)) σ)) (ha : SEs u c es fa) (hn : (starEach es c.env).all (!·.1) = true) :
   SX u c (.Raise (some (.Call (.Name x np) es [] cpos)) none pos) (fun σ => (fa σ).bind fun vs σ => j7a C vs σ) := fun W σ s i => by
 have X := hx W σ s i
 dsimp only
 refine k.objE fun nm q N bs l sn sub ab col dd k0 k1 k2 k3 k5 hC hl => ?_
 have hbase := (bm_ok hl).base
 rw [arm_exec_Raise]
 show Sim u c (q2m u) (do standAt pos; raiseStmt c.env (some (do let v ← eval (.Call (.Name x np) es [] cpos) c.env; standAt pos; pure v)) none) _ W s
 refine Sim.standAt ?_
 have road : ∀ (Q : Flow → Shared → Prop) (E : Value → Shared → Prop),
     wpAny u.M c.A (eval (.Name x np) c.env) (fun f s₁ => f = .ref C ∧ ∃ W1, Ev W W1 ∧ Inv u c W1 σ s₁ ∧ wpAny u.M c.A (spliced (backTo cpos (starEach es c.env))) (fun rs s₂ => ∃ r v W2 σ2, rs = [r] ∧ Rep u W2 r v ∧ Inv u c W2 σ2 s₂ ∧
       (∀ W' s' e, Ev W2 W' → Inv u c W' σ2 s' → Exc u c W' s'.heap false e C v → E (.ref e) s')) E s₁) E s →
     wpAny u.M c.A (raiseStmt c.env (some (do let v ← eval (.Call (.Name x np) es [] cpos) c.env; standAt pos; pure v)) none) Q E s := by
   intro Q E h
   refine q7u (C := C) (nm := nm) (q := q) (N := N) (bs := bs) (hdct := true) (sn := sn) (sub := sub) (ab := ab) (col := col) (dd := dd) (k0 := k0) (k1 := k1) (k2 := k2) (k3 := k3) (k5 := k5) (newId := "Exception.__new__") hbase (wpAny_bind ?_)
   rw [arm_eval_Call_Name']
   show wpAny u.M c.A (eval (.Name x np) c.env >>= fun f => callWith cpos f [] (backTo cpos (starEach es c.env)) []) _ _ _
   refine wpAny_bind (wpAny_mono h (fun f s1 h1 => ?_) fun _ _ x => x)
   obtain ⟨rfl, W1, e1, i1, h1⟩ := h1
   refine q1r (q3c hn) (wpAny_mono h1 (fun rs s2 h2 => ?_) fun _ _ x => x)
   obtain ⟨r, v, W2, σ2, rfl, hr, i2, hE⟩ := h2
   refine ⟨let ⟨kk, a, b⟩ := j1j (c := c) uo hkeep W2 σ2 s2 i2; ⟨kk, a, fun Q q => b _ Q q⟩, ?_⟩
   rw [List.nil_append]
   refine wpAny_mono (exc_make uo (by have := ok.depth; omega) k ik i2 hr) (fun z s3 h3 => ?_) fun _ _ x => x
   obtain ⟨e, t, D, rfl, he, W3, e3, i3, hex⟩ := h3
   refine wpAny_bind (wpAny_standAt (wpAny_pure ⟨e, t, D, rfl, i3.F.keep _ _ (uo.X _ _ hC), he, ?_⟩))
   exact wpAny_raiseNew_none ok.handled (hE W3 s3 e e3 i3 hex)
 cases hf : fa σ with
 | bad => trivial
 | ex C' m σ1 =>
   refine road _ _ (wpAny_mono X (fun f s1 h_ => h_.k fun W1 e1 i1 hr => ⟨q6r hr, W1, e1, i1, ?_⟩) fun _ _ x => x.elim)
   have H := ha cpos W1 σ s1 i1
   rw [hf] at H
   exact wpAny_mono H (fun _ _ x => x.elim) fun e s2 ⟨W2, e2, R⟩ => ⟨W2, e1.trans e2, R⟩
 | ok vs σ1 =>
   dsimp only [Res.bind]
   unfold j7a
   match vs, hf with
   | [], hf => trivial
   | [v], hf =>
     refine road _ _ (wpAny_mono X (fun f s1 h_ => h_.k fun W1 e1 i1 hr => ⟨q6r hr, W1, e1, i1, ?_⟩) fun _ _ x => x.elim)
     have H := ha cpos W1 σ s1 i1
     rw [hf] at H
     refine wpAny_mono H (fun rs s2 h_ => h_.k fun W2 e2 i2 hrs => ?_) fun _ _ x => x.elim
     cases hrs with
     | cons a b =>
       cases b
       exact ⟨_, v, W2, σ1, rfl, a, i2, fun W' s' e e3 i3 hex => ⟨W', (e1.trans e2).trans e3, i3, e, rfl, hex⟩⟩
   | _ :: _ :: _, hf => trivial
end
section
open Builtin Builtin.ObjectAttr
section
variable {prog : Program} {w : World} {A : Around} {E : Value → Shared → Prop} {s : Shared} {K : Frag} {C e : Addr} {oe : Obj} {es : List DictEntry} {n : Nat} {v : Value} {name : Str}
structure ExcG (K : Frag) (C : Addr) (name : Str) : Prop where
 ga : findIn K (.ref C) "__getattribute__" = some (some (.builtin "BaseException.__getattribute__"))
 hook : findIn K (.ref C) "__getattr__" = some none
 dict : hasDictIn K C = true
 fnd : findIn K (.ref C) name = some none
 sub : mroIn K C (.type "BaseException") = some true
theorem exc_attr (X : K.In s.heap) (k : ExcG K C name) (I : InstAt s.heap e oe C (some (dictOf es n))) (hl : getL name es = some (some v)) (hv : handedIn v = true) {expr : Bool} {Q : Value → Shared → Prop} (h : Q v { s with toks := s.toks + 1 }) :
   wpAny (model prog w) A (getAttr (.ref e) name expr) Q E s := by
 have FB := PySem.F.attrBase_Exception
 have hn0 : noGet K none = true := rfl
 have hf : findObj K C (some (dictOf es n)) name = some (.value v) := findObj_own (od := dictOf es n) k.dict k.fnd hn0 (by rw [lookIn_dict]; exact hl)
 obtain ⟨hh, g, d, t, os⟩ := s
 have L0 := I.type (M := model prog w)
 have L1 := looks_findIn (M := model prog w) X k.ga
 have L2 := looks_findIn (M := model prog w) X k.hook
 have L3 := looks_find (M := model prog w) X I hf
 have L4 : Looks (model prog w) hh (isInstance (.ref e) (.type "BaseException")) true := I.type.andThen (looks_mroIn X k.sub)
 unfold getAttr getAttrBy
 refine wpAny_bind (wpAny_mkText (wpAny_holding (wpAny_bind (L0.at (wpAny_bind (L1.at ?_))))))
 show wpAny _ _ (getAttrByItsOwn (.ref e) (.str name t) (.ref C) (.builtin "BaseException.__getattribute__") true expr) _ _ _
 unfold getAttrByItsOwn
 refine wpAny_bind ?_
 show wpAny _ _ (typeLookup (.ref C) "__getattr__") _ _ _
 refine L2.at ?_
 refine wpAny_bind (wpAny_attempt (wpAny_holding ?_))
 show wpAny _ _ (callGetattribute (.ref e) (.str name t) (.builtin "BaseException.__getattribute__") expr) _ _ _
 unfold callGetattribute
 rw [if_neg (by cases expr <;> decide)]
 unfold boundAndCalled
 rw [FB.ga.bind]
 refine wpAny_bind (wpAny_pure ?_)
 have hk : builtinKind "BaseException.__getattribute__" = some .slot := by decide +kernel
 have hsp : splitId "BaseException.__getattribute__" = some ("BaseException", "__getattribute__") := by decide +kernel
 show wpAny _ _ (call (.builtin "BaseException.__getattribute__") [.ref e, .str name t]) _ _ _
 refine wpAny_call (codeAny_call_builtin FB.ga.plain PySem.F.entry_bexc_ga (@check_slot (model prog w) _ _ ⟨hh, g, d, t + 1, os⟩ "BaseException.__getattribute__" "BaseException" "__getattribute__" (.ref e) [.str name t] [] _ hk hsp L4 (PySem.F.args_bexc_ga _ _) ?_))
 unfold Builtin.«object.__getattribute__»
 refine wpAny_bind (wpAny_of_eq (a := (.ref e, [.str name t])) rfl ?_)
 dsimp only
 refine wpAny_bind (wpAny_of_eq (a := name) rfl ?_)
 refine wpAny_bind (L0.at (wpAny_bind (L3.at ?_)))
 dsimp only
 refine wpAny_pure ?_
 dsimp only
 show wpAny _ _ (handedOut v) _ _ _
 rw [handedOut_of hv]; exact wpAny_pure h
end
end
section
open Builtin
variable {u : U} {c : Cx} {W : Wd} {σ : St} {s : Shared}
theorem Exc.to {c2 : Cx} {h : Heap} {tr : Bool} {ea C : Addr} {m : V} (x : Exc u c W h tr ea C m) (he : c2.env = c.env) : Exc u c2 W h tr ea C m := by
 obtain ⟨oe, vs, h1, h2, h3, h4, h5, h6, h7, h8, h9⟩ := x
 exact ⟨oe, vs, h1, h2, h3, h4.to (fun _ _ _ _ _ _ q => q) (congrArg Env.locals he) (fun _ h => h), h5, h6, h7, h8, he ▸ h9⟩
theorem Raised.inv {tr : Bool} {e : Value} {C : Addr} {m : V} (R : Raised u c W σ tr e C m s) : Inv u c W σ s := R.casesOn fun i _ _ _ => i
theorem Raised.to {c2 : Cx} {tr : Bool} {e : Value} {C : Addr} {m : V} (R : Raised u c W σ tr e C m s) (he : c2.env = c.env) (hf : c2.fenvs = c.fenvs) : Raised u c2 W σ tr e C m s := by
 obtain ⟨i, ea, h, x⟩ := R
 exact ⟨i.to he hf, ea, h, x.to he⟩
noncomputable def q3o (c : Cx) (e : Value) : Cx := ⟨c.env, c.A.mark (some e), c.fenvs, c.room⟩
theorem j1g (ok : c.Ok) (e : Value) : (q3o c e).A.frames = some (q3o c e).fenvs := ok.frames
theorem j7i (uo : u.Ok) (ok : c.Ok) {x : Str} {p : Pos} {r : Value} (hk : c.env.kindOf x = some .globalImplicit) (e : nsIn u.K mainGlobals x = some (some r)) (hd : (x == ("__debug__" : Str)) = false) (i : Inv u c W σ s)
   {A : Around} {E : Value → Shared → Prop} {Q : Value → Shared → Prop} (h : Q r s) : wpAny u.M A (eval (.Name x p) c.env) Q E s :=
 Name_function_global ok.kind hk (loadGlobal_global (env := c.env) (by rw [ok.glob]; exact uo.T.g.keeps i.F.keep) (mg_of uo.X uo.T.g e) h) hd
theorem try_hit (uo : u.Ok) (fn : c.Fn) (ok : c.Ok) {C fI ea : Addr} {m : V} (k : ExcK u.K C fI) (R : Raised u c W σ false (.ref ea) C m s) {x : Str} {np hp : Pos} {name : Option Str} {b₀ : Stmt} {suite : List Stmt} {Q : Flow → Shared → Prop} {E : Value → Shared → Prop}
   (hk : c.env.kindOf x = some .globalImplicit) (hx : nsIn u.K mainGlobals x = some (some (.ref C))) (hd : (x == ("__debug__" : Str)) = false)
   (h : ∀ W' s', Ev W W' → Raised u c W' σ true (.ref ea) C m s' → codeAny u.M (c.A.mark (some (.ref ea))) (.handlers (.ref ea) [.ExceptHandler none name (b₀ :: suite) hp] c.env) (fun r s₂ => match r with
         | .ok f => (match name with
           | none => Q f s₂
           | some n => wpAny u.M c.A (do bindName c.env n .none; unbindBehindTheSuite c.env n hp) (fun _ s₃ => Q f s₃) E s₂)
         | .error x => cameBackBy u.M c.A c.env E x s₂) s') :
   wpAny u.M c.A (noteFrame (.ref ea) c.env) (fun _ s₂ => wpAny u.M c.A (setFlight (.ref ea) none) (fun _ s₃ => wpAny u.M c.A (handleBy (.ref ea) c.env [.ExceptHandler (some (.Name x np)) name (b₀ :: suite) hp]) Q E s₃) E s₂) E s := by
 refine wpAny_mono (j4r fn ok R) (fun _ s2 ⟨W2, e2, R2⟩ => ?_) fun _ _ x => x
 refine wpAny_mono (q2p R2) (fun _ s3 ⟨W3, e3, R3⟩ => ?_) fun _ _ x => x
 refine k.objE fun nm q N bs l sn sub ab col dd k0 k1 k2 k3 k5 hC hl => ?_
 have R3' := R3
 obtain ⟨i3, ea', he, oe, vs, h1, h2, _⟩ := R3
 cases he
 refine wpAny_handleBy_cons (codeAny_handlers_test (j7i uo ok hk hx hd i3 ?_)) (by intro q; cases q)
 have hCs := i3.F.keep _ _ (uo.X _ _ hC)
 obtain ⟨hh, g, d, tk, os⟩ := s3
 refine wpAny_excMatches_sub_self hCs h1 h2 (bm_ok hl).base ?_
 exact h W3 _ (e2.trans e3) R3'
noncomputable def q4o (C : Addr) (r : Res Fl) : Res Fl := match r with
 | .ok fl σ => .ok fl σ
 | .ex C' m σ => if C' = C then .ok (.ret .none) σ else .bad
 | .bad => .bad
theorem sx_try_none (uo : u.Ok) (fn : c.Fn) (ok : c.Ok) {C fI : Addr} (k : ExcK u.K C fI) {x : Str} {np hp rp p cp : Pos} {kk : Nat} {body : List Stmt} {f : St → Res Fl} (hb : SB u c body f)
   (hk : c.env.kindOf x = some .globalImplicit) (hx : nsIn u.K mainGlobals x = some (some (.ref C))) (hd : (x == ("__debug__" : Str)) = false) :
   SX u c (.Try body [.ExceptHandler (some (.Name x np)) none [.Return (some (.Constant .none kk cp)) rp] hp] [] [] p) (fun σ => q4o C (f σ)) := fun W σ s i => by
 have H := hb W σ s i
 dsimp only
 cases hf : f σ with
 | bad => trivial
 | ok fl σ1 =>
   rw [hf] at H
   refine wpAny_Try_except (wpAny_mono H (fun f s1 h_ => h_.k fun W1 e1 i1 hfl => ?_) fun _ _ x => x.elim)
   cases hfl with
   | next => exact wpAny_execs_nil ⟨W1, e1, i1, .next⟩
   | ret hr => exact ⟨W1, e1, i1, .ret hr⟩
 | ex C' m σ1 =>
   rw [hf] at H
   show Sim u c (q2m u) _ (if C' = C then .ok (.ret .none) σ1 else .bad) W s
   by_cases hC : C' = C
   case neg => rw [if_neg hC]; trivial
   rw [if_pos hC]
   subst hC
   refine wpAny_Try_except (wpAny_mono H (fun _ _ x => x.elim) fun e s1 ⟨W1, e1, R1⟩ => ?_)
   obtain ⟨i1, ea, he, X1⟩ := R1
   subst he
   refine try_hit uo fn ok k ⟨i1, ea, rfl, X1⟩ hk hx hd fun W2 s2 e2 R2 => codeAny_handlers_suite ?_
   refine wpAny_mono (q2p (R2.to (c2 := q3o c (.ref ea)) rfl rfl)) (fun _ s3 ⟨W3, e3, R3⟩ => ?_) fun _ _ x => x
   have S := j4j (sx_ret (u := u) (c := q3o c (.ref ea)) (p := rp) (se_none (k := kk) (p := cp))) sb_nil W3 σ1 s3 R3.inv
   have S' : wpAny u.M (q3o c (.ref ea)).A (execs [.Return (some (.Constant .none kk cp)) rp] c.env) (Got u (q3o c (.ref ea)) (q2m u) W3 σ1 (.ret .none)) No s3 := S
   exact wpAny_mono S' (fun f s4 h_ => h_.k fun W4 e4 i4 hfl => ⟨W4, ((e1.trans e2).trans e3).trans e4, i4.to rfl rfl, hfl⟩) fun _ _ x => x.elim
end
section
open Builtin
variable {u : U} {c : Cx} {W : Wd} {σ : St} {s : Shared}
theorem j5l : entryFor table "proto.unchain" = some Builtin.«proto.unchain» := entryFor_of_tree (by kernel_rfl)
theorem raiseNew_in {α : Type} {A : Around} {e ea : Addr} {oa oe : Obj} {va ve : Array Value} {Q : α → Shared → Prop} {E : Value → Shared → Prop} (hh : A.handled = some (.ref ea)) (hne : ea ≠ e) (hea : s.heap.get? ea = some oa) (hda : oa.data = .fields va) (h2 : va[2]? = some .none)
   (he : s.heap.get? e = some oe) (hde : oe.data = .fields ve) (hz : 2 < ve.size) (h : E (.ref e) { s with heap := s.heap.update e (Obj.mapFields (·.setIfInBounds 2 (.ref ea))) }) : wpAny u.M A (raiseNew (.ref e) : Sem α) Q E s := by
 unfold raiseNew
 refine wpAny_bind (wpAny_handled ?_)
 rw [hh]
 dsimp only
 rw [if_pos (show (Value.ref ea != Value.ref e) = true from by simp [hne])]
 refine wpAny_bind (wpAny_holding (wpAny_runValue (codeAny_builtin j5l ?_)))
 unfold Builtin.«proto.unchain»
 dsimp only
 refine wpAny_bind (wpAny_field hea hda h2 ?_)
 rw [if_pos (show (Value.none == Value.none) = true from by simp)]
 refine wpAny_bind (wpAny_pure ?_)
 refine wpAny_pure ?_
 dsimp only
 unfold updateField
 refine wpAny_bind (wpAny_bind (wpAny_load he ?_))
 rw [hde]
 dsimp only
 rw [if_pos hz]
 refine wpAny_update he ?_
 exact wpAny_throw h
noncomputable def Wd.withM (W : Wd) (m : Str → Option Value) : Wd := { W with m := m }
theorem Wd.withM_ev (W : Wd) (m : Str → Option Value) : Ev W (W.withM m) := ⟨fun _ h => h, List.prefix_refl _, rfl, TI.SameUp.refl _⟩
theorem Inv.locals (i : Inv u c W σ s) {x : String} (hx : σ.get x = none) {m' : Str → Option Value} {h' : Heap} {tk : Nat} (hn : h'.Ns c.env.locals m') (hs : Heap.SameBut c.env.locals s.heap h') (hm : ∀ y, y ≠ Str.ofString x → m' y = W.m y) :
   Inv u c (W.withM m') σ { s with heap := h', toks := tk } := by
 have e := W.withM_ev m'
 refine ⟨i.F.set hn hs, i.N.set hs, ⟨i.ap.nd, i.ap.fz⟩, fun y w hw => ?_, i.hp.ev e, (fun p hp => (i.tb p hp).sub e.sub), i.frs, i.dic, i.gens, i.os⟩
 obtain ⟨h1, h2⟩ := i.loc y w hw
 refine ⟨fun hk' => ?_, fun hk' => let ⟨k, a, q1, q2, q3⟩ := h2 hk'; ⟨k, a, q1, q2, q3⟩⟩
 obtain ⟨r', q1, q2⟩ := h1 hk'
 refine ⟨r', ?_, q2.ev e⟩
 show m' (Str.ofString y) = some r'
 rw [hm _ fun q => by rw [q2q q] at hw; rw [hx] at hw; cases hw]; exact q1
theorem Exc.locals {h h' : Heap} {tr : Bool} {ea C : Addr} {m : V} (x : Exc u c W h tr ea C m) (hs : Heap.SameBut c.env.locals h h') {m' : Str → Option Value} : Exc u c (W.withM m') h' tr ea C m := by
 obtain ⟨oe, vs, h1, h2, h3, h4, h5, h6, h7, h8, h9⟩ := x
 exact ⟨oe, vs, (hs.2 ea h9).trans h1, h2, h3, h4.to (fun T o _ t7 _ _ q => (hs.2 T t7).trans q) rfl (fun _ h => h), h5, h6.to (W.withM_ev m').sub, h7, h8, h9⟩
theorem spliced_one {M : Model} {A : Around} {E : Value → Shared → Prop} {e : Expr} {env : Env} {pos : Pos} {Q : List Value → Shared → Prop} (he : starEach [e] env = [(false, eval e env)]) (h : wpAny M A (eval e env) (fun v s => Q [v] s) E s) :
   wpAny M A (spliced (backTo pos (starEach [e] env))) Q E s := by
 rw [he]
 show wpAny _ _ (do
   let v ← eval e env
   let here ← (pure [v] : Sem (List Value))
   return here ++ (← PySem.holding here (spliced (backTo pos [])))) _ _ _
 refine wpAny_bind (wpAny_mono h (fun v s1 h1 => ?_) fun _ _ x => x)
 refine wpAny_bind (wpAny_pure (wpAny_bind (wpAny_holding ?_)))
 show wpAny _ _ (pure []) _ _ _
 exact wpAny_pure (wpAny_pure h1)
noncomputable def q5y (C1 C2 : Addr) (n : String) (r : Res Fl) : Res Fl := match r with
 | .ok fl σ => .ok fl σ
 | .ex C' m σ => if C' = C1 ∧ (σ.get n).isNone = true ∧ notB m = true then .ex C2 m σ else .bad
 | .bad => .bad
theorem conv_raise (uo : u.Ok) (ok : c.Ok) {C1 C2 fI ea : Addr} {m : V} (k2 : ExcK u.K C2 fI) (ik : InitK u fI) (hroom : 3 ≤ c.room) (kg : ExcG u.K C1 "message") (hpl1 : u.pl C1 = true) (hpl2 : u.pl C2 = false)
   {n : String} {x2 : Str} {np2 np3 ap cp rp : Pos} (hnk : c.env.kindOf (Str.ofString n) = some .local) (hk2 : c.env.kindOf x2 = some .globalImplicit) (hx2 : nsIn u.K mainGlobals x2 = some (some (.ref C2))) (hd2 : (x2 == ("__debug__" : Str)) = false)
   (hdn : (Str.ofString n == ("__debug__" : Str)) = false) (hkeep : keepIn u.K (.ref C2) = true) (i : Inv u (q3o c (.ref ea)) W σ s) (X : Exc u (q3o c (.ref ea)) W s.heap true ea C1 m) (hm : W.m (Str.ofString n) = some (.ref ea)) (hb : notB m = true)
   (hes : starEach [.Attribute (.Name (Str.ofString n) np3) (Str.ofString "message") ap] c.env = [(false, eval (.Attribute (.Name (Str.ofString n) np3) (Str.ofString "message") ap) c.env)])
   {Q : Flow → Shared → Prop} {E : Value → Shared → Prop} (hE : ∀ W' s' e2, Ev W W' → Raised u (q3o c (.ref ea)) W' σ false (.ref e2) C2 m s' → E (.ref e2) s') :
   wpAny u.M (c.A.mark (some (.ref ea))) (execs [.Raise (some (.Call (.Name x2 np2) [.Attribute (.Name (Str.ofString n) np3) (Str.ofString "message") ap] [] cp)) none rp] c.env) Q E s := by
 refine k2.objE fun nm q N bs l sn sub ab col dd k0 k1 k2' k3 k5 hC hl => ?_
 obtain ⟨oe, va, h1, h2, h3, h4, h5, ⟨de, e, t, nn, r, d1, d2, d3⟩, h6, h7, h8⟩ := X
 have i5 := hold_it i h7 h8 h6 h1
 have e5 := W.addF_ev ea oe
 rw [show execs [.Raise (some (.Call (.Name x2 np2) [.Attribute (.Name (Str.ofString n) np3) (Str.ofString "message") ap] [] cp)) none rp] c.env = _ from execs_cons ..]
 refine wpAny_bind ?_
 rw [arm_exec_Raise]
 show wpAny _ _ (do standAt rp; raiseStmt c.env (some (do let v ← eval (.Call (.Name x2 np2) [.Attribute (.Name (Str.ofString n) np3) (Str.ofString "message") ap] [] cp) c.env; standAt rp; pure v)) none) _ _ _
 refine wpAny_bind (wpAny_standAt ?_)
 refine q7u (C := C2) (nm := nm) (q := q) (N := N) (bs := bs) (hdct := true) (sn := sn) (sub := sub) (ab := ab) (col := col) (dd := dd) (k0 := k0) (k1 := k1) (k2 := k2') (k3 := k3) (k5 := k5) (newId := "Exception.__new__") (bm_ok hl).base (wpAny_bind ?_)
 rw [arm_eval_Call_Name']
 show wpAny u.M _ (eval (.Name x2 np2) c.env >>= fun f => callWith cp f [] (backTo cp (starEach [.Attribute (.Name (Str.ofString n) np3) (Str.ofString "message") ap] c.env)) []) _ _ _
 refine wpAny_bind (j7i uo ok hk2 hx2 hd2 (i5.to (c2 := c) rfl rfl) ?_)
 refine q1r (q3c (by rw [hes]; rfl)) (spliced_one hes ?_)
 rw [arm_eval_Attribute]
 rw [show attributeBase (.Name (Str.ofString n) np3) (Str.ofString "message") c.env (eval (.Name (Str.ofString n) np3) c.env) = eval (.Name (Str.ofString n) np3) c.env from rfl]
 refine wpAny_bind (wpAny_Name (wpAny_loadName_local ok.kind hnk i.F.ns hm ?_) hdn)
 refine wpAny_bind (wpAny_standAt (wpAny_bind (wpAny_holding ?_)))
 have X0 := uo.X.keeps i.F.keep
 have I : InstAt s.heap ea oe C1 (some (dictOf [⟨e, .str "message" t, r⟩] nn)) := ⟨h1, h2, by unfold notCls; rw [h3], by rw [d1]; exact (i.N _ (List.mem_append_left _ d2)).1⟩
 have hgl : getL (Str.ofString "message") [⟨e, .str "message" t, r⟩] = some (some r) := by
   rw [j8b (k := "message") (t := t) rfl]; rfl
 refine exc_attr X0 kg I hgl (j2z d3 hb) ?_
 refine wpAny_bind (wpAny_pure (wpAny_pure ?_))
 have i6 : Inv u (q3o c (.ref ea)) (W.addF ea oe) σ { s with toks := s.toks + 1 } := i5.toks _
 refine ⟨let ⟨kk, a, b⟩ := j1j (c := q3o c (.ref ea)) uo hkeep _ σ _ i6; ⟨kk, a, fun Q q => b _ Q q⟩, ?_⟩
 rw [List.nil_append]
 refine wpAny_mono (exc_make (c := q3o c (.ref ea)) uo (by show c.A.depth + 1 < recursionLimit; have := ok.depth; omega) k2 ik i6 (d3.ev e5)) (fun z s3 h3' => ?_) fun _ _ x => x
 obtain ⟨e2, t2, D2, rfl, he2, W6, ev6, i7, X7⟩ := h3'
 refine wpAny_bind (wpAny_standAt (wpAny_pure ⟨e2, t2, D2, rfl, i7.F.keep _ _ (uo.X _ _ hC), he2, ?_⟩))
 have hmem : (ea, oe) ∈ W6.fz := ev6.fz _ (.head _)
 have hea := (i7.N _ (List.mem_append_left _ hmem)).1
 have hne : ea ≠ e2 := fun z => X7.out (by rw [← z]; exact List.mem_map_of_mem (f := (·.1)) (List.mem_append_left _ hmem))
 refine raiseNew_in (ea := ea) rfl hne hea h3 (h5 hpl1) he2 rfl (by simp) ?_
 obtain ⟨oe2, vs2, x1, x2', x3, x4, x5, ⟨de2, e', t', n', r', y1, y2, y3⟩, x6, x7, x8⟩ := X7
 rw [he2] at x1
 cases x1
 have other : ∀ b o, b ≠ e2 → s3.heap.get? b = some o → (s3.heap.update e2 (Obj.mapFields (·.setIfInBounds 2 (.ref ea)))).get? b = some o := fun b o hb q => by rw [Heap.get?_update_other _ _ (Ne.symm hb)]; exact q
 have i8 := i7.other (tk := s3.toks) x7 x8 x6 other
 have hdd : (excObj C2 t2 D2).data = .fields #[.ref t2, .none, .none, .none, .bool false, .none] := rfl
 have hd3 := Obj.data_mapFields hdd (·.setIfInBounds 2 (Value.ref ea))
 refine hE W6 _ e2 (e5.trans ev6) ⟨i8, e2, rfl, ⟨_, _, Heap.get?_update_self _ he2 (Obj.isFreed_of_fields hd3), ?_, hd3, .inl rfl ?_, fun z => ?_, ⟨de2, e', t', n', r', ?_, y2, y3⟩, x6, x7, x8⟩⟩
 · rw [Obj.cls_mapFields]
 · rfl
 · rw [hpl2] at z; cases z
 · exact y1
end
section
open Builtin
variable {u : U} {c : Cx} {W : Wd} {σ : St} {s : Shared}
theorem passOn_ok {what : String} {ea C : Addr} {m : V} (R : Raised u c W σ true (.ref ea) C m s) {E : Value → Shared → Prop}
   (h : ∀ W' s', Ev W W' → Raised u c W' σ true (.ref ea) C m s' → E (.ref ea) s') : wpAny u.M c.A (PySem.passOn what (.ref ea) c.env : Sem Flow) (fun _ _ => False) E s := by
 have R' := R
 obtain ⟨i, ea', he, oe, vs, h1, h2, h3, h4, _⟩ := R
 cases he
 unfold PySem.passOn
 rcases h4 with ⟨z, _⟩ | ⟨T, oT, ts, t1, _⟩
 · cases z
 · refine wpAny_bind (wpAny_field h1 h3 t1 ?_)
   rw [if_neg (show ¬ ((Value.ref T == Value.none) = true) from by simp)]
   exact wpAny_bind (wpAny_mono (q2p R') (fun _ s2 ⟨W2, e2, R2⟩ => wpAny_throw (h W2 s2 e2 R2)) fun _ _ x => x)
theorem sx_try_conv (uo : u.Ok) (fn : c.Fn) (ok : c.Ok) {C1 C2 fI : Addr} (k1 : ExcK u.K C1 fI) (k2 : ExcK u.K C2 fI) (ik : InitK u fI) (hroom : 3 ≤ c.room) (kg : ExcG u.K C1 "message") (hpl1 : u.pl C1 = true) (hpl2 : u.pl C2 = false)
   {n : String} {x x2 : Str} {np hp p np2 np3 ap cp rp : Pos} {body : List Stmt} {f : St → Res Fl} (hb : SB u c body f)
   (hk : c.env.kindOf x = some .globalImplicit) (hx : nsIn u.K mainGlobals x = some (some (.ref C1))) (hd : (x == ("__debug__" : Str)) = false)
   (hnk : c.env.kindOf (Str.ofString n) = some .local) (hk2 : c.env.kindOf x2 = some .globalImplicit) (hx2 : nsIn u.K mainGlobals x2 = some (some (.ref C2))) (hd2 : (x2 == ("__debug__" : Str)) = false)
   (hdn : (Str.ofString n == ("__debug__" : Str)) = false) (hkeep : keepIn u.K (.ref C2) = true)
   (hes : starEach [.Attribute (.Name (Str.ofString n) np3) (Str.ofString "message") ap] c.env = [(false, eval (.Attribute (.Name (Str.ofString n) np3) (Str.ofString "message") ap) c.env)]) :
   SX u c (.Try body [.ExceptHandler (some (.Name x np)) (some (Str.ofString n)) [.Raise (some (.Call (.Name x2 np2) [.Attribute (.Name (Str.ofString n) np3) (Str.ofString "message") ap] [] cp)) none rp] hp] [] [] p) (fun σ => q5y C1 C2 n (f σ)) := fun W σ s i => by
 have H := hb W σ s i
 dsimp only
 cases hf : f σ with
 | bad => trivial
 | ok fl σ1 =>
   rw [hf] at H
   refine wpAny_Try_except (wpAny_mono H (fun f s1 h_ => h_.k fun W1 e1 i1 hfl => ?_) fun _ _ x => x.elim)
   cases hfl with
   | next => exact wpAny_execs_nil ⟨W1, e1, i1, .next⟩
   | ret hr => exact ⟨W1, e1, i1, .ret hr⟩
 | ex C' m σ1 =>
   rw [hf] at H
   show Sim u c (q2m u) _ (if C' = C1 ∧ (σ1.get n).isNone = true ∧ notB m = true then .ex C2 m σ1 else .bad) W s
   by_cases hC : C' = C1 ∧ (σ1.get n).isNone = true ∧ notB m = true
   case neg => rw [if_neg hC]; trivial
   rw [if_pos hC]
   obtain ⟨rfl, hno, hbm⟩ := hC
   have hno : σ1.get n = none := by simpa using hno
   have hpk : (c.env.scope.kind == .class || (c.env.scope.kind == .module && c.env.locals != c.env.globals)) = false := by rw [ok.kind]; rfl
   have fnm : ∀ ea, (q3o c (.ref ea)).Fn := fun ea => fn
   refine wpAny_Try_except (wpAny_mono H (fun _ _ x => x.elim) fun e s1 ⟨W1, e1, R1⟩ => ?_)
   obtain ⟨i1, ea, he, X1⟩ := R1
   subst he
   refine try_hit uo fn ok k1 ⟨i1, ea, rfl, X1⟩ hk hx hd fun W2 s2 e2 R2 => codeAny_handlers_suite_as ?_
   refine wpAny_mono (q2p (R2.to (c2 := q3o c (.ref ea)) rfl rfl)) (fun _ s3 ⟨W3, e3, R3⟩ => ?_) fun _ _ x => x
   obtain ⟨i3, ea', he', X3⟩ := R3
   cases he'
   refine wpAny_storeName_local hnk i3.F.ns (fun h4 hn4 hs4 => ?_) hpk
   have i4 := i3.locals (tk := s3.toks + 1) hno hn4 hs4 (fun y hy => by rw [if_neg hy])
   have X4 := X3.locals hs4 (m' := fun y => if y = Str.ofString n then some (.ref ea) else W3.m y)
   have ev4 : Ev W3 (W3.withM fun y => if y = Str.ofString n then some (.ref ea) else W3.m y) := W3.withM_ev _
   refine conv_raise uo ok k2 ik hroom kg hpl1 hpl2 hnk hk2 hx2 hd2 hdn hkeep i4 X4 (by show (if Str.ofString n = Str.ofString n then some (Value.ref ea) else _) = _; rw [if_pos rfl]) hbm hes fun W5 s5 x5 e5 R5 => ?_
   refine wpAny_mono (j0x (fnm ea) (j1g ok (.ref ea)) R5) (fun _ s6 ⟨W6, e6, R6⟩ => ?_) fun _ _ x => x
   obtain ⟨i6, y6, hy6, X6⟩ := R6
   cases hy6
   refine wpAny_nameGoes_keeps hnk i6.F.ns hpk fun h7 v7 hn7 hs7 => ?_
   have i7 := i6.locals (tk := s6.toks + 1) hno hn7 hs7 (fun y hy => by rw [if_neg hy])
   have X7 := X6.locals hs7 (m' := fun y => if y = Str.ofString n then v7 else W6.m y)
   have ev7 : Ev W6 (W6.withM fun y => if y = Str.ofString n then v7 else W6.m y) := W6.withM_ev _
   refine passOn_ok (c := q3o c (.ref ea)) ⟨i7, _, rfl, X7⟩ fun W8 s8 e8 R8 => ?_
   refine wpAny_mono (j0x (fnm ea) (j1g ok (.ref ea)) R8) (fun _ s9 ⟨W9, e9, R9⟩ => ?_) fun _ _ x => x
   exact q6v (R9.to (c2 := c) rfl rfl) ((((((((e1.trans e2).trans e3).trans ev4).trans e5).trans e6).trans ev7).trans e8).trans e9)
end
section
open Builtin
variable {u : U} {c : Cx} {W : Wd} {σ : St} {s : Shared}
theorem j3l (pos pos' : Pos) (cv : Value) {l : List Value} (h : Tri l) : Tri (l ++ [rawInt pos.line, rawInt pos.col, cv]) ∧
   ∀ v, codeAmong pos' (l ++ [rawInt pos.line, rawInt pos.col, cv]) = some v → codeAmong pos' l = some v ∨ v = cv := by
 have e : ∀ (a b : Int) (t t' : Tok) (w : Value) (r : List Value), codeAmong pos' (.int a t :: .int b t' :: w :: r) = if a == pos'.line && b == pos'.col then some w else codeAmong pos' r := fun _ _ _ _ _ _ => rfl
 induction h with
 | nil =>
   refine ⟨.cons .nil, fun v h => ?_⟩
   have h := (e _ _ _ _ _ _).symm.trans h
   split at h
   · exact .inr (Option.some.inj h).symm
   · cases h
 | cons _ ih =>
   refine ⟨.cons ih.1, fun v hv => ?_⟩
   rw [e]
   have hv := (e _ _ _ _ _ _).symm.trans hv
   split at hv
   · rename_i q; exact .inl ((if_pos q).trans hv)
   · rename_i q; exact (ih.2 v hv).imp_left (if_neg q).trans
noncomputable def Wd.setT (W : Wd) (P : Addr) (o : Obj) (c' : Addr) (oc : Obj) : Wd := { W with fz := (c', oc) :: W.fz, tb := W.tb.map fun p => if p.1 = P then (P, o) else p }
theorem setT_ad (W : Wd) (P : Addr) (o : Obj) (c' : Addr) (oc : Obj) : (W.setT P o c' oc).tb.map (·.1) = W.tb.map (·.1) := by
 unfold Wd.setT
 simp only [List.map_map]
 apply List.map_congr_left
 intro p _
 by_cases h : p.1 = P
 · simp [h]
 · simp [h]
theorem setT_ev (W : Wd) (P : Addr) (o : Obj) (c' : Addr) (oc : Obj) : Ev W (W.setT P o c' oc) := ⟨fun _ h => List.mem_cons_of_mem _ h, List.prefix_refl _, setT_ad W P o c' oc, TI.SameUp.refl _⟩
theorem setT_mu (W : Wd) (P : Addr) (o : Obj) (c' : Addr) (oc : Obj) : (W.setT P o c' oc).mu.map (·.1) = W.mu.map (·.1) := by
 unfold Wd.mu
 simp only [List.map_append]
 rw [setT_ad]
 rfl
theorem Inv.setT (i : Inv u c W σ s) {P c' : Addr} {ps : Array Value} {oc : Obj} {pos : Pos} {h' : Heap} {tk : Nat} {vs : Array Value} {t : Tok} (hm : (P, tabObj ps) ∈ W.tb) (hx : Heap.ExtBut P s.heap h')
   (hn : h'.get? P = some (tabObj (ps ++ #[rawInt pos.line, rawInt pos.col, .ref c']))) (hge : s.heap.objs.size ≤ c') (hc : h'.get? c' = some oc) (hd : oc.data = .fields vs) (hv : vs[1]? = some (.str (u.tq P) t)) :
   Inv u c (W.setT P (tabObj (ps ++ #[rawInt pos.line, rawInt pos.col, .ref c'])) c' oc) σ { s with heap := h', toks := tk } := by
 have e := setT_ev W P (tabObj (ps ++ #[rawInt pos.line, rawInt pos.col, .ref c'])) c' oc
 have hPmu : (P, tabObj ps) ∈ W.mu := by unfold Wd.mu; simp only [List.mem_append]; exact .inl (.inr hm)
 have hPl : (P, tabObj ps) ∈ W.led := List.mem_append_right _ hPmu
 have nP := i.N _ hPl
 have hLlt : c.env.locals < s.heap.objs.size := by obtain ⟨o, _, _, q, _⟩ := i.F.ns; exact Heap.lt_size q
 have hcB : u.B.get? c' = none := Heap.get?_none_of_le (Nat.le_trans i.F.above (Nat.le_trans (Nat.le_of_lt hLlt) hge))
 have hcL : c' ≠ c.env.locals := Nat.ne_of_gt (Nat.lt_of_lt_of_le hLlt hge)
 have hcl : ∀ p ∈ W.led, p.1 ≠ c' := fun p hp => Nat.ne_of_lt (Nat.lt_of_lt_of_le (i.lt hp) hge)
 obtain ⟨pre, post, hled, h1, h2⟩ := split_mu i hPmu
 have keep : ∀ p ∈ W.led, p.1 ≠ P → h'.get? p.1 = some p.2 ∧ p.1 ≠ c.env.locals ∧ u.B.get? p.1 = none := fun p hp hne => ⟨hx _ _ hne (i.N p hp).1, (i.N p hp).2⟩
 have only : ∀ p ∈ W.led, p.1 = P → p = (P, tabObj ps) := fun p hp q => by
   rw [hled] at hp
   rcases List.mem_append.mp hp with hp | hp
   · exact absurd q (h1 p hp)
   · rcases List.mem_cons.mp hp with hp | hp
     · exact hp
     · exact absurd q (h2 p hp)
 have newTab : TbOk u (W.setT P (tabObj (ps ++ #[rawInt pos.line, rawInt pos.col, .ref c'])) c' oc) (P, tabObj (ps ++ #[rawInt pos.line, rawInt pos.col, .ref c'])) := by
   obtain ⟨ps', q1, q2, q3⟩ := i.tb _ hm
   have : ps = ps' := by
     have := congrArg Obj.data q1
     simp only [tabObj] at this
     injection this
   subst this
   refine ⟨_, rfl, ?_, fun pos' cv hcv => ?_⟩
   · rw [Array.toList_append]; exact (j3l pos pos (.ref c') q2).1
   · rw [Array.toList_append] at hcv
     rcases (j3l pos pos' (.ref c') q2).2 cv hcv with z | z
     · exact (q3 pos' cv z).sub e.sub
     · exact ⟨c', oc, vs, t, z, .inl (.head _), hd, hv⟩
 refine ⟨⟨?_, fun b o q => hx b o (fun z => ?_) (i.F.keep b o q), i.F.above⟩, fun p hp => ?_, ⟨by rw [setT_mu]; exact i.ap.nd, fun p hp => ?_⟩, fun y w hw => (i.loc y w hw).ev e rfl, i.hp.ev e, fun p hp => ?_, i.frs, i.dic, ⟨i.gens.1, by rw [setT_ad]; exact i.gens.2⟩, i.os⟩
 · obtain ⟨o, es, ep, q1, r⟩ := i.F.ns
   exact ⟨o, es, ep, hx _ _ (Ne.symm nP.2.1) q1, r⟩
 · rw [z, nP.2.2] at q; cases q
 · rcases List.mem_append.mp hp with hp | hp
   · rcases List.mem_cons.mp hp with rfl | hp
     · exact ⟨hc, hcL, hcB⟩
     · exact keep p (List.mem_append_left _ hp) fun q => i.ap.fz p hp (by rw [q]; exact List.mem_map_of_mem (f := (·.1)) hPmu)
   · unfold Wd.mu at hp
     simp only [List.mem_append] at hp
     have sub : ∀ q, (q ∈ W.hp.flatMap (·.2) ∨ q ∈ W.fr) → q.1 ≠ P := fun q hq z => by
       have hqm : q ∈ W.mu := by unfold Wd.mu; simp only [List.mem_append]; rcases hq with h | h; exact .inl (.inl h); exact .inr h
       have hqe := only q (List.mem_append_right _ hqm) z
       have nd := i.ap.nd
       unfold Wd.mu at nd
       simp only [List.map_append, List.append_assoc, List.nodup_append, List.mem_append] at nd
       obtain ⟨n1, n2, n3⟩ := nd
       rcases hq with h | h
       · exact n3 _ (List.mem_map_of_mem h) _ (.inl (List.mem_map_of_mem (f := (·.1)) hm)) (by rw [hqe])
       · exact n2.2.2 _ (List.mem_map_of_mem (f := (·.1)) hm) _ (List.mem_map_of_mem h) (by rw [hqe])
     rcases hp with (hp | hp) | hp
     · exact keep p (List.mem_append_right _ (by unfold Wd.mu; simp only [List.mem_append]; exact .inl (.inl hp))) (sub p (.inl hp))
     · obtain ⟨q, hq, rfl⟩ := List.mem_map.mp hp
       by_cases z : q.1 = P
       · rw [if_pos z]; exact ⟨hn, nP.2⟩
       · rw [if_neg z]; exact keep q (List.mem_append_right _ (by unfold Wd.mu; simp only [List.mem_append]; exact .inl (.inr hq))) z
     · exact keep p (List.mem_append_right _ (by unfold Wd.mu; simp only [List.mem_append]; exact .inr hp)) (sub p (.inr hp))
 · rw [setT_mu]
   rcases List.mem_cons.mp hp with rfl | hp
   · intro z
     obtain ⟨q, hq, ez⟩ := List.mem_map.mp z
     exact hcl q (List.mem_append_right _ hq) ez
   · exact i.ap.fz p hp
 · obtain ⟨q, hq, rfl⟩ := List.mem_map.mp hp
   by_cases z : q.1 = P
   · rw [if_pos z]; exact newTab
   · rw [if_neg z]; exact (i.tb q hq).sub e.sub
end
section
open Builtin
variable {u : U} {c : Cx} {W : Wd} {σ : St} {s : Shared}
noncomputable def idx (fs : List String) (σ : St) : List (String × Nat) := fs.filterMap fun n => match σ.get n with
 | some (.obj k) => some (n, k)
 | _ => none
theorem idx_is {fs : List String} {σ : St} {n : String} {k : Nat} (h : (n, k) ∈ idx fs σ) : n ∈ fs ∧ σ.get n = some (.obj k) := by
 unfold idx at h
 obtain ⟨m, hm, e⟩ := List.mem_filterMap.mp h
 split at e
 · rename_i k' q
   simp only [Option.some.injEq, Prod.mk.injEq] at e
   obtain ⟨rfl, rfl⟩ := e
   exact ⟨hm, q⟩
 · cases e
structure LamK (u : U) (c : Cx) (i : Nat) (params : Arguments) (body : Expr) (scope : Scope) (fs : List String) : Prop where
 code : ∃ cc P, c.env.code = .ref cc ∧ CodeHd u.B cc P ∧ P ∈ u.tbs ∧ u.tq P = c.env.qual ++ "<lambda>"
 def0 : defaultsOf params c.env = ([], [])
 lam : u.lam i = (body, scope)
 fe : scope.names.filter (·.2 == .free) = fs.map fun n => (Str.ofString n, NameKind.free)
 fk : ∀ n ∈ fs, c.env.kindOf (Str.ofString n) = some .cell ∨ c.env.kindOf (Str.ofString n) = some .free
 args : ∀ qual clos pm cdv ct, bindArgs (kla_fn "<lambda>" qual params body scope clos pm cdv ct) ⟨[], []⟩ = pure []
theorem se_lam (uo : u.Ok) (ok : c.Ok) {i : Nat} {params : Arguments} {body : Expr} {scope : Scope} {pos : Pos} {fs : List String} (K : LamK u c i params body scope fs) :
   SE u c (.Lambda params body scope pos) (fun σ => if fs.all (fun n => (σ.get n).isSome) then .ok (.fn i (idx fs σ)) σ else .bad) := fun W σ s iv => by
 dsimp only
 by_cases hall : fs.all (fun n => (σ.get n).isSome) = true
 case neg => rw [if_neg hall]; trivial
 rw [if_pos hall]
 refine cps fun G key => ?_
 obtain ⟨cc, P, hcode, hC, hP, hq⟩ := K.code
 have bound : ∀ p ∈ scope.names, p.2 = .free → ∃ a, c.env.cells.lookup p.1 = some a := fun p hp hk => by
   have hm : p ∈ scope.names.filter (·.2 == .free) := List.mem_filter.mpr ⟨hp, by rw [hk]; rfl⟩
   rw [K.fe] at hm
   obtain ⟨n, hn, rfl⟩ := List.mem_map.mp hm
   have := List.all_eq_true.mp hall n hn
   cases hv : σ.get n with
   | none => rw [hv] at this; cases this
   | some v =>
     obtain ⟨k, a, _, _, q⟩ := (iv.loc n v hv).2 (K.fk n hn)
     exact ⟨a, q⟩
 have hclos := j3e (env := c.env) (scope := scope) bound
 have hidx : ∀ n k, (n, k) ∈ idx fs σ → ∃ a, W.adr[k]? = some a ∧ (clo c.env scope.names).lookup (Str.ofString n) = some a := fun n k h => by
   obtain ⟨h1, h2⟩ := idx_is h
   obtain ⟨k', a, q1, q2, q3⟩ := (iv.loc n _ h2).2 (K.fk n h1)
   cases q1
   have hm : (Str.ofString n, NameKind.free) ∈ scope.names := by
     have : (Str.ofString n, NameKind.free) ∈ scope.names.filter (·.2 == .free) := by rw [K.fe]; exact List.mem_map_of_mem h1
     exact (List.mem_filter.mp this).1
   exact ⟨a, q2, j3f hm q3⟩
 have hPm : P ∈ W.tb.map (·.1) := by rw [iv.gens.2]; exact hP
 obtain ⟨pt, hpt, rfl⟩ := List.mem_map.mp hPm
 obtain ⟨ps, ho, htr, hcd⟩ := iv.tb pt hpt
 have hpt' : (pt.1, tabObj ps) ∈ W.tb := by rw [← ho]; exact hpt
 have hled : (pt.1, tabObj ps) ∈ W.led := by unfold Wd.led Wd.mu; simp only [List.mem_append]; exact .inr (.inl (.inr hpt'))
 have hm := iv.N _ hled
 have hgs := uo.T.g.keeps iv.F.keep
 obtain ⟨bm, ob, b1, b2, b3, b4, b5, b6⟩ := uo.bm
 have hgP : mainGlobals ≠ pt.1 := fun q => by
   obtain ⟨o, es, ep, e, hd, _⟩ := hgs
   rw [q, hm.1] at e; cases e; cases hd
 have hbP : bm ≠ pt.1 := fun q => by
   have e := iv.F.keep _ _ b3
   rw [q, hm.1] at e; cases e; cases b4
 have hbG : bm ≠ mainGlobals := fun q => by
   obtain ⟨o, es, ep, e, hd, _⟩ := uo.T.g
   rw [q, e] at b3; cases b3; rw [hd] at b6; cases b6
 have hB : s.heap.BuiltinsAt u.mg pt.1 := ⟨bm, ob, b1, b2, hbG, hbP, iv.F.keep _ _ b3, b4, b5, b6⟩
 have hLlt : c.env.locals < s.heap.objs.size := by obtain ⟨o, _, _, q, _⟩ := iv.F.ns; exact Heap.lt_size q
 refine key ?_
 refine PySem.W.kla_eval K.def0 ?_
 have push : ∀ (W1 : Wd) (s1 : Shared) (qual : Str) (cdv ctv pm : Value), Ev W W1 → Inv u c W1 σ s1 → CodeOf u W1 cdv qual →
     ∃ W', Ev W W' ∧ Inv u c W' σ { s1 with heap := s1.heap.push { cls := .type "function", data := .func (kla_fn "<lambda>" qual params body scope (clo c.env scope.names) pm cdv ctv) } } ∧ Rep u W' (.ref s1.heap.objs.size) (.fn i (idx fs σ)) := by
   intro W1 s1 qual cdv ctv pm e1 i1 hcode1
   have e2 := W1.addF_ev s1.heap.objs.size { cls := .type "function", data := .func (kla_fn "<lambda>" qual params body scope (clo c.env scope.names) pm cdv ctv) }
   refine ⟨_, e1.trans e2, i1.addF (tk := s1.toks) (i1.F.push _) (News.push i1.F i1.N _) i1.fresh, .fn (.inl (.head _)) rfl ⟨by rw [K.lam], by rw [K.lam], rfl, rfl, K.args _ _ _ _ _, hcode1.sub e2.sub⟩ fun n k h => ?_⟩
   obtain ⟨a, q1, q2⟩ := hidx n k h
   exact ⟨a, (e1.trans e2).get q1, q2⟩
 cases hf : codeAmong pos ps.toList with
 | some cv =>
   have hc1 := hcd pos cv hf
   refine PySem.W.kla_makeFunctionHit (mg := u.mg) hclos ok.glob hgs hcode (hC.keeps iv.F.keep) hm.1 htr.ok hf hB fun ctv h' tk hk hsz => ?_
   have i1 : Inv u c W σ { s with heap := h', toks := tk } := iv.keeps hk
   obtain ⟨W', e, i2, r⟩ := push W { s with heap := h', toks := tk } (c.env.qual ++ "<lambda>") cv ctv _ (.refl W) i1 (by rw [← hq]; exact hc1)
   exact ⟨W', e, i2, r⟩
 | none =>
   refine PySem.W.kla_makeFunction (mg := u.mg) hclos ok.glob hgs hcode (hC.keeps iv.F.keep) hm.1 htr.ok hf hgP hB fun c' ctv h' tk hx hge hlt hrec htb => ?_
   obtain ⟨c2, oc, vs, t, e2, hoc, hd, hv⟩ := hrec
   cases e2
   have i1 := iv.setT (tk := tk) (pos := pos) (t := t) hpt' hx htb hge hoc hd (by rw [hv, hq])
   obtain ⟨W', e, i2, r⟩ := push _ { s with heap := h', toks := tk } (c.env.qual ++ "<lambda>") (.ref c') ctv _ (setT_ev W _ _ _ _) i1 ⟨c', oc, vs, t, rfl, .inl (.head _), hd, hv⟩
   exact ⟨W', e, i2, r⟩
end
section
open Builtin
variable {u : U} {c : Cx} {W : Wd} {σ : St} {s : Shared}
theorem expr_ends (i : Inv u c W σ s) {oL : Obj} (hL : s.heap.get? c.env.locals = some oL) {env : Env} (hfn : (q0y c env).Fn) (ok' : (q0y c env).Ok) {m : Str → Option Value} {loc : List (String × V)} {s1 : Shared} {e : Expr} {den : St → Res V}
   (i1 : Inv u (q0y c env) ⟨m, W.fz, W.hp, W.tb, (c.env.locals, oL) :: W.fr⟩ ⟨loc, σ.hp⟩ s1) (H : SE u (q0y c env) e den) {r : Res V} (hr : finR σ.hp.length ((den ⟨loc, σ.hp⟩).bind fun v σ => .ok (.ret v) σ) = r) (hnb : r ≠ .bad) :
   wpAny u.M (c.A.deeper env) (eval e env) (j3m u c W (q1g σ r))
     (fun e s' => wpAny u.M (c.A.deeper env) (leaving env e) (fun _ s'' => q9j u c W (q1g σ r) e s'') (q9j u c W (q1g σ r)) s') s1 := by
 refine (H _ _ _ i1).use (fun v0 σ2 h x s' G => ?_) (fun C w σ2 h e s' T => ?_) fun h => hnb (by rw [← hr, h]; rfl)
 · rw [h] at hr
   have hr : finR σ.hp.length (.ok (.ret v0) σ2) = r := hr
   obtain ⟨v, σ', q⟩ := j5i (hr ▸ hnb)
   cases hr.symm.trans q
   exact G.k fun W2 ev i2 hf => finR_ok (f := .ret x) i hL ev i2 (.ret hf) q
 · rw [h] at hr
   have hr : finR σ.hp.length (.ex C w σ2) = r := hr
   obtain ⟨C', w', σ', q⟩ := finR_exc (hr ▸ hnb)
   cases hr.symm.trans q
   exact T.k fun W2 ev R => wpAny_mono (j2u hfn ok' R) (fun _ s'' h => h.k fun W3 e3 R3 => finR_ex i hL (ev.trans e3) R3 q) fun _ _ x => x
structure LamOk (u : U) (i : Nat) : Prop where
 kind : (u.lam i).2.kind = .function
 co : (u.lam i).2.isCoroutine = false
 gen : (u.lam i).2.isGenerator = false
 nl : ∀ x ∈ (u.lam i).2.names, x.2 ≠ .cell ∧ x.2 ≠ .local
noncomputable def q3x (cl : List (String × Nat)) (H : List AO) : St := ⟨cl.map fun p => (p.1, .obj p.2), H⟩
theorem fn_ok (uo : u.Ok) (ok : c.Ok) {i n : Nat} {cl : List (String × Nat)} {den : St → Res V} (L : LamOk u i) (hroom : n + 1 ≤ c.room) (hn : 1 ≤ n)
   (H : ∀ c' : Cx, c'.Ok → c'.Fn → n ≤ c'.room → c'.env.scope = (u.lam i).2 → SE u c' (u.lam i).1 den) (iv : Inv u c W σ s) {r : Value} (hr : Rep u W r (.fn i cl)) :
   Sim u c (Rep u) (call r []) (q1g σ (finR σ.hp.length ((den (q3x cl σ.hp)).bind fun v σ => .ok (.ret v) σ))) W s := by
 cases hr with
 | fn h1 h2 h3 h4 =>
   rename_i f o fd
   obtain ⟨oL, es, ep, hL, hLd, _⟩ := iv.F.ns
   have room : c.A.depth < recursionLimit := by have := ok.depth; omega
   obtain ⟨cc, oc, vs, t, hcc, hco, hcd, hcv⟩ := h3.code
   have hrec : s.heap.CodeRec fd.code fd.qualname := ⟨cc, oc, vs, t, hcc, hco.get iv, hcd, hcv⟩
   have enter : ∀ r : Res V, finR σ.hp.length ((den (q3x cl σ.hp)).bind fun v σ => .ok (.ret v) σ) = r → r ≠ .bad → wpAny u.M c.A (call (.ref f) []) (j3m u c W (q1g σ r)) (q9j u c W (q1g σ r)) s := by
     intro r hr' hnb
     refine wpAny_call (kla_callFunE room (h1.get iv) h2 (by rw [h3.scope]; exact L.co) (by rw [h3.scope]; exact L.gen) h3.body hrec ?_)
     rw [h3.args]
     refine wpAny_pure (wpAny_newFunctionEnv (by rw [h3.scope]; exact fun x hx => (L.nl x hx).1) (fun x hx => nomatch hx) (fun h0 hns hsb => ⟨(uo.T.nolimit.keeps iv.F.keep).fresh _ hsb, ?_⟩) (by rw [h3.scope]; exact L.kind))
     have hkeep : ∀ b o, s.heap.get? b = some o → h0.get? b = some o := fun b o e => hsb.extBut b o (Nat.ne_of_lt (Heap.lt_size e)) (Heap.get?_push_of_some _ e)
     generalize henv : newEnv fd.scope s.heap.objs.size fd.globals fd.closure (fd.qualname ++ ".<locals>.") (some f) fd.code none fd.builtins = env
     have e1 : env.scope = (u.lam i).2 := by rw [← henv]; exact h3.scope
     have e2 : env.locals = s.heap.objs.size := by rw [← henv]; rfl
     have e3 : env.cells = fd.closure := by rw [← henv]; rfl
     have e4 : env.frame = some env.locals := by rw [← henv]; rfl
     have ok' : (q0y c env).Ok := q6w ok (by rw [e1]; exact L.kind) (by rw [← henv]; exact h3.glob) (by rw [← henv]; exact h3.blt) (by omega)
     have hfn : (q0y c env).Fn := ⟨c.fenvs, rfl, e4⟩
     have i1 := q7q (tk := s.toks + ([] : List (Str × Value)).length) (loc := (q3x cl σ.hp).loc) (c2 := q0y c env) iv hL e2 (fun e he => by
       rcases List.mem_cons.mp he with rfl | he
       · exact .inr ⟨by rw [e1, L.kind]; decide, e4⟩
       · exact .inl he) hns hkeep (fun x v hx => by
       obtain ⟨l1, l2, e, _⟩ := List.lookup_eq_some_iff.mp hx
       have hm : (x, v) ∈ cl.map fun p => (p.1, V.obj p.2) := by
         have : (x, v) ∈ (q3x cl σ.hp).loc := by rw [e]; simp
         exact this
       obtain ⟨p, hp, ep⟩ := List.mem_map.mp hm
       cases ep
       obtain ⟨a, q1, q2⟩ := h4 p.1 p.2 hp
       refine ⟨fun hk => ?_, fun _ => ⟨p.2, a, rfl, q1, by show env.cells.lookup _ = _; rw [e3]; exact q2⟩⟩
       exfalso
       have hk : env.kindOf (Str.ofString p.1) = some .local := hk
       unfold Env.kindOf at hk
       rw [e1] at hk
       obtain ⟨l1, l2, e, _⟩ := List.lookup_eq_some_iff.mp hk
       exact (L.nl (Str.ofString p.1, .local) (by rw [e]; simp)).2 rfl)
     refine kla_codeExpr ?_
     exact expr_ends iv hL hfn ok' i1 (H _ ok' hfn (by show n ≤ c.room - 1; omega) e1) hr' hnb
   cases hres : finR σ.hp.length ((den (q3x cl σ.hp)).bind fun v σ => .ok (.ret v) σ) with
   | bad => trivial
   | ok v σ' => exact enter _ hres nofun
   | ex C w σ' => exact enter _ hres nofun
theorem se_callfn (uo : u.Ok) (ok : c.Ok) {i n : Nat} {den : St → Res V} (L : LamOk u i) (hroom : n + 1 ≤ c.room) (hn : 1 ≤ n)
   (H : ∀ c' : Cx, c'.Ok → c'.Fn → n ≤ c'.room → c'.env.scope = (u.lam i).2 → SE u c' (u.lam i).1 den) {x : Str} {np pos : Pos} {f : St → Res V} (hx : SE u c (.Name x np) f) :
   SE u c (.Call (.Name x np) [] [] pos) (fun σ => (f σ).bind fun v σ => match v with
     | .fn j cl => if j = i then q1g σ (finR σ.hp.length ((den (q3x cl σ.hp)).bind fun v σ => .ok (.ret v) σ)) else .bad
     | _ => .bad) := fun W σ s iv => by
 rw [arm_eval_Call_Name']
 refine (hx W σ s iv).bind fun r v σ1 W1 s1 _ e1 i1 hr => ?_
 cases v with
 | fn j cl =>
   dsimp only
   by_cases hj : j = i
   case neg => rw [if_neg hj]; trivial
   rw [if_pos hj]
   subst hj
   have hr' := hr
   cases hr with
   | fn h1 h2 h3 h4 =>
     rename_i f o fd
     have hk : ∀ W σ s, Inv u c W σ s → True := fun _ _ _ _ => trivial
     have S := fn_ok uo ok L hroom hn H i1 hr'
     show Sim u c (Rep u) (callWith pos (.ref f) [] (backTo pos (starEach [] c.env)) []) _ W1 s1
     revert S
     have road : ∀ (Q E : Value → Shared → Prop), wpAny u.M c.A (call (.ref f) []) Q E s1 → wpAny u.M c.A (callWith pos (.ref f) [] (backTo pos (starEach [] c.env)) []) Q E s1 := by
       intro Q E h
       refine q1r rfl (wpAny_pure ⟨⟨.frame, .inl rfl, fun Q q => ?_⟩, h⟩)
       unfold keeperOf
       refine wpAny_bind (wpAny_load (h1.get i1) ?_)
       rw [h2]
       exact wpAny_pure q
     exact fun S => S.congr fun Q E q => road Q E q
 | _ => trivial
end
section
open Builtin
variable {u : U} {c : Cx} {W : Wd} {σ : St} {s : Shared}
noncomputable abbrev lookD (k : PyData) (D : List (PyData × PyData)) : Option PyData := PySem.Spec.lookup k D
noncomputable def DictAt (K : Type) [DecidableEq K] (u : U) (knd : KeyKind u.prog u.w K) (enc : K → PyData) (D : List (PyData × PyData)) (W : Wd) (v : Value) : Prop :=
 ∃ a o, v = .ref a ∧ (a, o) ∈ W.fz ∧ TabObj knd enc D o ∧ (a == sysModules) = false
theorem DictAt.at {K : Type} [DecidableEq K] {knd : KeyKind u.prog u.w K} {enc : K → PyData} {D : List (PyData × PyData)} {v : Value} (h : DictAt K u knd enc D W v) (i : Inv u c W σ s) :
   ∃ a, v = .ref a ∧ TabAt knd enc s.heap a D := by
 obtain ⟨a, o, rfl, hm, ⟨kvs, h1, h2⟩, lo⟩ := h
 exact ⟨a, rfl, TabAt.ofObj lo (i.N _ (List.mem_append_left _ hm)).1 h1 h2⟩
theorem DictAt.ev {K : Type} [DecidableEq K] {knd : KeyKind u.prog u.w K} {enc : K → PyData} {D : List (PyData × PyData)} {v : Value} {W' : Wd} (h : DictAt K u knd enc D W v) (e : Ev W W') : DictAt K u knd enc D W' v :=
 let ⟨a, o, h1, h2, h3⟩ := h; ⟨a, o, h1, e.fz _ h2, h3⟩
theorem dict_new {K : Type} [DecidableEq K] {knd : KeyKind u.prog u.w K} {enc : K → PyData} {D : List (PyData × PyData)} (big : sysModules < u.B.objs.size) (i : Inv u c W σ s) {a : Addr} {o : Obj} {h₁ : Heap} {tk : Nat}
   (ha : s.heap.objs.size ≤ a) (ho : h₁.get? a = some o) (hT : TabObj knd enc D o) (hk : ∀ b o', s.heap.get? b = some o' → h₁.get? b = some o') :
   ∃ W', Ev W W' ∧ Inv u c W' σ { s with heap := h₁, toks := tk } ∧ DictAt K u knd enc D W' (.ref a) := by
 have F' := i.F.grownK hk
 have hB : u.B.get? a = none := Heap.get?_none_of_le (Nat.le_trans (Nat.le_trans i.F.above (by obtain ⟨o, _, _, q, _⟩ := i.F.ns; exact Nat.le_of_lt (Heap.lt_size q))) ha)
 have hL : a ≠ c.env.locals := by
   obtain ⟨o, _, _, q, _⟩ := i.F.ns
   exact fun e => absurd (Heap.lt_size q) (Nat.not_lt.mpr (e ▸ ha))
 have N' : News u.B c.env.locals h₁ ((a, o) :: W.led) := fun p hp => by
   rcases List.mem_cons.mp hp with rfl | hp
   · exact ⟨ho, hL, hB⟩
   · exact ⟨hk _ _ (i.N p hp).1, (i.N p hp).2⟩
 have hm : a ∉ W.mu.map (·.1) := fun h => by
   obtain ⟨p, hp, e⟩ := List.mem_map.mp h
   have := i.lt (p := p) (List.mem_append_right _ hp)
   rw [e] at this
   exact absurd this (Nat.not_lt.mpr ha)
 refine ⟨_, W.addF_ev _ _, i.addF F' N' hm, a, o, rfl, .head _, hT, ?_⟩
 have h1 : u.B.objs.size ≤ s.heap.objs.size := Nat.le_trans i.F.above (by obtain ⟨o, _, _, q, _⟩ := i.F.ns; exact Nat.le_of_lt (Heap.lt_size q))
 have h2 : sysModules < a := Nat.lt_of_lt_of_le big (Nat.le_trans h1 ha)
 exact beq_eq_false_iff_ne.mpr fun e => absurd (e ▸ h2) (Nat.lt_irrefl _)
theorem same_int' (a b : Int) : PySem.Spec.same (.int a) (.int b) = decide (a = b) := PyProof.V.same_int a b
theorem dict_str {keys : List (Option Expr)} {values : List Expr} {pos : Pos} {D : List (PyData × PyData)} (big : sysModules < u.B.objs.size) (hD : litPairs keys values = some D) (hs : strKeyed D = true) (hn : (strKeysOf D).Nodup)
   (hall : keys.all (·.isSome) = true) (hl : keys.length = values.length) (h0 : keys ≠ []) (hlen : keys.length ≤ 15) (i : Inv u c W σ s) :
   Sim u c (fun W v (_ : Unit) => DictAt Str u (strKind u.prog u.w) PyData.str D W v) (eval (.Dict keys values pos) c.env) (.ok () σ) W s :=
 Dict_lits_str hD hs hn hall hl h0 hlen fun a o h₁ tk ha ho hT hk => by
   obtain ⟨W', e, i', d⟩ := dict_new (tk := tk) big i ha ho hT hk
   exact ⟨W', e, i', d⟩
theorem dict_int {keys : List (Option Expr)} {values : List Expr} {pos : Pos} {D : List (PyData × PyData)} (big : sysModules < u.B.objs.size) (hD : litPairs keys values = some D) (hs : intKeyed D = true) (hn : (intKeysOf D).Nodup)
   (hall : keys.all (·.isSome) = true) (hl : keys.length = values.length) (h0 : keys ≠ []) (hlen : keys.length ≤ 15) (i : Inv u c W σ s) :
   Sim u c (fun W v (_ : Unit) => DictAt Int u (intKind u.prog u.w) PyData.int D W v) (eval (.Dict keys values pos) c.env) (.ok () σ) W s :=
 Dict_lits_int hD hs hn hall hl h0 hlen fun a o h₁ tk ha ho hT hk => by
   obtain ⟨W', e, i', d⟩ := dict_new (tk := tk) big i ha ho hT hk
   exact ⟨W', e, i', d⟩
noncomputable def intOf (d : PyData) : Option V := match d with | .int k => some (.int k) | _ => none
noncomputable def getD (D : List (PyData × PyData)) (vs : List V) : Option V := o2 vs fun a b => oS a fun l => oI b fun z => intOf ((lookD (.str (St0 l)) D).getD (.int z))
theorem intOf_s {d : PyData} {v : V} (h : intOf d = some v) : ∃ k, d = .int k ∧ v = .int k := by cases d with | int k => exact ⟨k, rfl, (Option.some.inj h).symm⟩ | _ => exact nn h
theorem getD_ok {D : List (PyData × PyData)} {d : Value} {rs : List Value} {vs : List V} {v : V} (i : Inv u c W σ s) (hd : DictAt Str u (strKind u.prog u.w) PyData.str D W d) (hr : Reps u W rs vs) (h : getD D vs = some v) :
   Sim u c (Rep u) (call (.builtin "dict.get") (d :: rs)) (.ok v σ) W s := by
 obtain ⟨a, rfl, T⟩ := hd.at i
 obtain ⟨x, y, rfl, h2⟩ := o2_s h
 obtain ⟨l, rfl, h3⟩ := oS_s h2
 obtain ⟨z, rfl, h4⟩ := oI_s h3
 obtain ⟨k, e, rfl⟩ := intOf_s h4
 cases hr.cs with | mk a1 g => ?_
 cases g.cs with | mk a2 g2 => ?_
 cases g2.nl
 cases a1.sr with | mk t1 => ?_
 cases a2.it with | mk t2 => ?_
 refine Sim.value i fun Q hQ => call_get2_strTab T (PyProof.V.Flat.int _ _) fun v hv => ?_
 have hv' : PyProof.V.Flat v ((lookD (.str (St0 l)) D).getD (.int z)) := hv
 rw [e] at hv'
 obtain ⟨t, rfl⟩ := hv'.int_inv
 exact hQ _ _ (.int _ _)
theorem se_dget {keys : List (Option Expr)} {values es : List Expr} {dp apos pos : Pos} {D : List (PyData × PyData)} {fa : St → Res (List V)} (big : sysModules < u.B.objs.size) (hD : litPairs keys values = some D) (hs : strKeyed D = true) (hn : (strKeysOf D).Nodup)
   (hall : keys.all (·.isSome) = true) (hl : keys.length = values.length) (h0 : keys ≠ []) (hlen : keys.length ≤ 15) (ha : SEs u c es fa)
   (hbase : attributeBase (.Dict keys values dp) (Str.ofString "get") c.env (eval (.Dict keys values dp) c.env) = eval (.Dict keys values dp) c.env)
   (hfew : ((backTo pos (starEach es c.env)).all (fun x => !x.1) && (backToKw pos (keywordEach [] c.env)).all (fun x => x.1.isSome) && decide (es.length + ([] : List Keyword).length + (if ([] : List Keyword).isEmpty then 0 else 1) < 30)) = true)
   (hline : (apos.endLine == pos.line) = true) (hnn : (starEach es c.env).all (!·.1) = true) :
   SE u c (.Call (.Attribute (.Dict keys values dp) (Str.ofString "get") apos) es [] pos) (fun σ => (fa σ).bind fun vs σ => ores (getD D vs) σ) := fun W σ s i => by
 refine q9v (ro := .ok () σ) (k := fun _ σ => (fa σ).bind fun vs σ => ores (getD D vs) σ) hbase hfew hline (dict_str (pos := dp) big hD hs hn hall hl h0 hlen i) fun _ σ1 ov s1 G nb Q E run => ?_
 obtain ⟨W', e, i1, hd⟩ := G
 obtain ⟨a, rfl, T⟩ := hd.at i1
 obtain ⟨n, kvs, hd1, hd2⟩ := id T
 exact ⟨"dict", "dict.get", F.plainAttrs_dict, F.slot_dict_get, F.type_dict_get, hd1.typeIs, (fun b e => by cases e; exact hd1.mapOf.noDict _ rfl), run _ ((q2o ha hnn q2c i1 fun W2 σ2 s2 rs vs e2 i2 hrs => Sim.ores fun v hg => getD_ok i2 (hd.ev e2) hrs hg).ev e)⟩
noncomputable def itemD (D : List (PyData × PyData)) (v : V) : Option V := match v with
 | .int k => match lookD (.int k) D with
   | some (.int z) => some (.int z)
   | _ => none
 | _ => none
theorem se_ditem {keys : List (Option Expr)} {values : List Expr} {dp p : Pos} {slice : Expr} {D : List (PyData × PyData)} {g : St → Res V} (big : sysModules < u.B.objs.size) (hD : litPairs keys values = some D) (hs : intKeyed D = true) (hn : (intKeysOf D).Nodup)
   (hall : keys.all (·.isSome) = true) (hl : keys.length = values.length) (h0 : keys ≠ []) (hlen : keys.length ≤ 15) (hi : SE u c slice g) (hsub : ∀ o i, subscripted slice false o i = operate [o, i] (getItem o i)) :
   SE u c (.Subscript (.Dict keys values dp) slice p) (fun σ => (g σ).bind fun b σ => ores (itemD D b) σ) := fun W σ s i => by
 rw [arm_eval_Subscript]
 show Sim u c (Rep u) (do
   let o ← eval (.Dict keys values dp) c.env
   let i ← holding [o] (eval slice c.env)
   standAt p
   subscriptTail (.Dict keys values dp) slice o i) _ W s
 refine Sim.bindOk (dict_int (pos := dp) big hD hs hn hall hl h0 hlen i) fun x W1 s1 e1 i1 hx => (Sim.holding (hi W1 σ s1 i1)).bind fun y b σ2 W2 s2 _ e2 i2 hy => Sim.standAt ?_
 obtain ⟨a, rfl, T⟩ := (hx.ev e2).at i2
 unfold itemD
 split
 · rename_i k
   cases hy
   split
   · rename_i z e
     refine Sim.value i2 fun Q hQ => item_tab_any same_int' (intKind_is u.prog u.w _ _) T e (fun v hv => ?_) (hsub _ _)
     obtain ⟨t, rfl⟩ := hv.int_inv
     exact hQ _ _ (.int _ _)
   · trivial
 · trivial
end
section
open Builtin
variable {u : U} {c : Cx} {W : Wd} {σ : St} {s : Shared}
noncomputable def finT (n : Nat) (r : Res Fl) : Res V := Res.casesOn r (fun fl σ => Fl.casesOn fl .bad fun v => onO v fun k => Option.casesOn (oIf (n ≤ k) (σ.hp[k]?.bind fun o => (lsO o).bind fun l => oIf (belows n l = true ∧ (σ.hp.take n).all (q0b n) = true) (some l))) .bad fun l => .ok (.obj n) ⟨[], σ.hp.take n ++ [.lst l]⟩) (fun _ _ _ => .bad) .bad
inductive FinT (n : Nat) : Res Fl → Res V → Prop where
 | mk (k : Nat) (σ : St) (l : List V) (hk : n ≤ k) (hl : σ.hp[k]? = some (.lst l)) (hb : belows n l = true) (ha : (σ.hp.take n).all (q0b n) = true) : FinT n (.ok (.ret (.obj k)) σ) (.ok (.obj n) ⟨[], σ.hp.take n ++ [.lst l]⟩)
theorem finT_shape {n : Nat} {r : Res Fl} (h : finT n r ≠ .bad) : FinT n r (finT n r) := by
 cases r with
 | bad => exact absurd rfl h
 | ex => exact absurd rfl h
 | ok fl σ =>
   cases fl with
   | next => exact absurd rfl h
   | ret v =>
     obtain ⟨k, rfl⟩ := onO_s h
     show FinT n _ (Option.casesOn (motive := fun _ => Res V) (oIf (n ≤ k) (σ.hp[k]?.bind fun o => (lsO o).bind fun l => oIf (belows n l = true ∧ (σ.hp.take n).all (q0b n) = true) (some l))) _ _)
     change Option.casesOn (motive := fun _ => Res V) (oIf (n ≤ k) (σ.hp[k]?.bind fun o => (lsO o).bind fun l => oIf (belows n l = true ∧ (σ.hp.take n).all (q0b n) = true) (some l))) _ _ ≠ _ at h
     cases e : oIf (n ≤ k) (σ.hp[k]?.bind fun o => (lsO o).bind fun l => oIf (belows n l = true ∧ (σ.hp.take n).all (q0b n) = true) (some l)) with
     | none => rw [e] at h; exact absurd rfl h
     | some l =>
       obtain ⟨hk, e2⟩ := q0h e
       obtain ⟨o, hl, e3⟩ := bd_s e2
       obtain ⟨l', h4, e5⟩ := bd_s e3
       obtain ⟨hb, e6⟩ := q0h e5
       cases Option.some.inj e6
       cases lsO_s h4
       exact .mk k σ l hk hl hb.1 hb.2
theorem finT_ok (i : Inv u c W σ s) {oL : Obj} (hL : s.heap.get? c.env.locals = some oL) {c2 : Cx} {m : Str → Option Value} {W2 : Wd} {σ2 : St} {s2 : Shared} {f : Flow} {k : Nat} {l : List V}
   (ev : Ev ⟨m, W.fz, W.hp, W.tb, (c.env.locals, oL) :: W.fr⟩ W2) (i2 : Inv u c2 W2 σ2 s2) (hf : q2m u W2 f (.ret (.obj k))) (hk : W.hp.length ≤ k) (hx : σ2.hp[k]? = some (.lst l)) (hb : belows W.hp.length l = true) (hab : (σ2.hp.take W.hp.length).all (q0b W.hp.length) = true) :
   Got u c (Rep u) W { σ with hp := σ2.hp.take W.hp.length ++ [.lst l] } (.obj W.hp.length) (flowV f) s2 := by
 cases hf with | ret hr => ?_
 induction hr.ob with | @mk a ha => ?_
 obtain ⟨os, q1, q2⟩ := i2.obj ha hx
 obtain ⟨b1, b2, b3⟩ := j1y (ex := []) i hL i2 ev.fz ev.hp ev.tb ev.fr hab (fun _ h => nomatch h) (fun _ h => nomatch h)
 have S := i2.ap.sep
 obtain ⟨sl, qs, hf2, _⟩ := q6q ev.fr
 have hin : ∀ p ∈ os, p ∈ W2.hp.flatMap (·.2) := fun p hp => List.mem_flatMap.mpr ⟨_, List.mem_of_getElem? q1, hp⟩
 have hm : (a, os) ∈ W2.hp.drop W.hp.length := List.mem_of_getElem? (i := k - W.hp.length) (by rw [List.getElem?_drop, ← q1, Nat.add_sub_of_le hk])
 have n1 := S.hh
 rw [← List.take_append_drop W.hp.length W2.hp, List.flatMap_append] at n1
 have hout : ∀ p ∈ os, p.1 ∉ (W.back W2 W.hp.length []).led.map (·.1) := fun p hp => q4e fun y hy => back_s hy (fun h => nomatch h) (fun h => S.zm y h p (q1t (hin p hp))) (fun h => (j2r n1).2.2 y h p (List.mem_flatMap.mpr ⟨_, hm, hp⟩)) (fun h => (S.ht p (hin p hp) y h).symm) fun h => (S.hf p (hin p hp) y (List.mem_of_mem_tail h)).symm
 have hl2 : (W.back W2 W.hp.length []).hp.length = W.hp.length := by
   show (W2.hp.take W.hp.length).length = _
   rw [List.length_take, i2.hp.length]
   exact Nat.min_eq_left (Nat.le_trans hk (Nat.le_of_lt (List.getElem?_eq_some_iff.mp hx).1))
 have hnew := q6j (W.back W2 W.hp.length []) a os
 rw [hl2] at hnew
 have i4 := b3.addH (tk := s2.toks) (a := a) (os := os) (x := .lst l) b3.F (fun p hp => by
   rcases List.mem_append.mp hp with hp | hp
   · exact ⟨(i2.N p (q2t q1 hp)).1, S.hf p (hin p hp) (c.env.locals, { oL with slots := sl }) (hf2 ▸ .head _), (i2.N p (q2t q1 hp)).2.2⟩
   · exact b3.N p hp) hout (by cases q2 with | lst _ => exact List.nodup_cons.mpr ⟨nofun, .nil⟩) (by cases q2 with | lst q3 => exact .lst (q3.cut b2 hb))
 exact ⟨_, b1.trans (Wd.addH_ev _ _ _), i4, .obj hnew⟩
theorem finT_ends : Ends u finT := fun c W σ s oL env m loc s1 body den i hL hfn ok' B hnb => by
 have D := finT_shape hnb
 revert B D
 generalize den ⟨loc, σ.hp⟩ = rd
 generalize finT σ.hp.length rd = ro
 intro B D
 cases D with
 | mk k σ2 l hk hl hb ha =>
   rw [← i.hp.length] at hk hb ha ⊢
   exact wpAny_mono B (fun f s' h => h.k fun W2 ev i2 hf => finT_ok i hL ev i2 hf hk hl hb ha) fun _ _ x => x.elim
theorem codeOk_defT (uo : u.Ok) {fa : Addr} {fo : Obj} {fd : FuncData} {body : List Stmt} {k : Nat} {xs : List String} {ds : List Value} {dvs : List V} {n : Nat} {den : St → Res Fl}
   (ho : u.B.get? fa = some fo) (hd : fo.data = .func fd) (hb : fd.body = .stmts body) (hcd : u.B.CodeRec fd.code fd.qualname)
   (hco : fd.scope.isCoroutine = false) (hgen : fd.scope.isGenerator = false) (hk : fd.scope.kind = .function) (hgl : fd.globals = mainGlobals) (hbl : fd.builtins = builtinsNs)
   (hcell : ∀ x ∈ fd.scope.names, x.2 ≠ .cell)
   (hbind : ∀ (s : Shared), u.B.StaysIn s.heap → ∀ rs : List Value, rs.length = k → BindsTo s fd ⟨rs, []⟩ ((xs.map Str.ofString).zip (rs ++ ds)))
   (hds : ∀ W, Reps u W ds dvs) (hnd : xs.Nodup) (hloc : ∀ x ∈ xs, fd.scope.names.lookup (Str.ofString x) = some .local) (hn : 1 ≤ n)
   (H : ∀ c : Cx, c.Ok → c.Fn → n ≤ c.room → c.env.scope = fd.scope → c.env.code = fd.code → c.env.func = some fa → c.env.qual = fd.qualname ++ ".<locals>." → SB u c body den) :
   CodeOk u (.ref fa) (n + 1) (fun vs H => if vs.length = k then finT H.length (den ⟨xs.zip (vs ++ dvs), H⟩) else .bad) :=
 q8q uo finT_ends False ho hd hb hcd hco hgen hk hgl hbl hcell hbind hds hnd hloc hn (fun c a b d e f g h W σ s i _ => H c a b d e f g h W σ s i) nofun
end
section
open Builtin
variable {u : U} {c : Cx} {W : Wd} {σ : St} {s : Shared}
noncomputable def SE1 (u : U) (c : Cx) (e : Expr) (f : St → Res V) : Prop := ∀ W σ s, Inv u c W σ s → 0 < s.toks → Sim u c (Rep u) (eval e c.env) (f σ) W s
noncomputable def SX1 (u : U) (c : Cx) (st : Stmt) (f : St → Res Fl) : Prop := ∀ W σ s, Inv u c W σ s → 0 < s.toks → Sim u c (q2m u) (exec st c.env) (f σ) W s
noncomputable def SB1 (u : U) (c : Cx) (b : List Stmt) (f : St → Res Fl) : Prop := ∀ W σ s, Inv u c W σ s → 0 < s.toks → Sim u c (q2m u) (execs b c.env) (f σ) W s
noncomputable def replV (a b : Nat) (v : V) (σ : St) : Res V := onS v fun l => if l.length ≤ 100000 then .ok (.str (l.map (repc a b))) σ else .bad
theorem spl2 {e1 e2 : Expr} {pos : Pos} {Q : List Value → Shared → Prop} {E : Value → Shared → Prop} (h1 : starEach [e1, e2] c.env = [(false, eval e1 c.env), (false, eval e2 c.env)])
   (h : wpAny u.M c.A (eval e1 c.env) (fun v s => wpAny u.M c.A (eval e2 c.env) (fun w s => Q [v, w] s) E s) E s) : wpAny u.M c.A (spliced (backTo pos (starEach [e1, e2] c.env))) Q E s := by
 rw [h1]
 show wpAny u.M c.A (do
   let v ← eval e1 c.env
   let here ← (pure [v] : Sem (List Value))
   return here ++ (← PySem.holding here (spliced (backTo pos [(false, eval e2 c.env)])))) Q E s
 refine wpAny_bind (wpAny_mono h (fun v s1 h => wpAny_bind (wpAny_pure (wpAny_bind (wpAny_holding ?_)))) fun _ _ x => x)
 show wpAny u.M c.A (do
   let v ← eval e2 c.env
   let here ← (pure [v] : Sem (List Value))
   return here ++ (← PySem.holding here (spliced (backTo pos [])))) _ E s1
 refine wpAny_bind (wpAny_mono h (fun v s1 h => wpAny_bind (wpAny_pure (wpAny_bind (wpAny_holding ?_)))) fun _ _ x => x)
 exact wpAny_pure (wpAny_pure (wpAny_pure h))
theorem se1_replace {o : Expr} {apos pos : Pos} {x y : Str} {k1 k2 : Nat} {q1 q2 : Pos} {a b : Nat} {f : St → Res V} (hx : x = ⟨#[a]⟩) (hy : y = ⟨#[b]⟩) (hab : a ≠ b) (ho : SE u c o f)
   (hbase : attributeBase o (Str.ofString "replace") c.env (eval o c.env) = eval o c.env) (hline : (apos.endLine == pos.line) = true) :
   SE1 u c (.Call (.Attribute o (Str.ofString "replace") apos) [.Constant (.str x) k1 q1, .Constant (.str y) k2 q2] [] pos) (fun σ => (f σ).bind (replV a b)) := fun W σ s i htk => by
 have H := ho W σ s i
 show Sim u c (Rep u) _ ((f σ).bind (replV a b)) W s
 revert H
 generalize f σ = r
 intro H
 cases r with
 | bad => trivial
 | ex C m σ1 => exact wpAny_Call_method_lateS hbase rfl hline (wpAny_mono H (fun _ _ x => x.elim) fun _ _ x => x)
 | ok v σ1 =>
   cases v with
   | str l =>
     show Sim u c (Rep u) _ (if l.length ≤ 100000 then .ok (.str (l.map (repc a b))) σ1 else .bad) W s
     by_cases hl : l.length ≤ 100000
     case neg => rw [if_neg hl]; trivial
     rw [if_pos hl]
     refine wpAny_Call_method_lateS hbase rfl hline (wpAny_mono (wpAny_toks_of (n := 1) htk H) (fun ov s1 x => ?_) fun _ _ x => x.2.elim)
     obtain ⟨htk1, W', ev, i1, hr⟩ := x
     induction hr.sr with | mk t => ?_
     refine ⟨"str", "str.replace", F.plainAttrs_str, F.slot_str_replace, F.type_str_replace, typeIs_str _ _ _, (fun _ e => nomatch e), ?_⟩
     refine q1r rfl (spl2 rfl (wpAny_Constant_str (wpAny_Constant_str ⟨?_, ?_⟩)))
     · exact (q2c (u := u) (c := c) (id := "str.replace") W' σ1 _ (i1.toks (s1.toks + 1 + 1))).imp fun k h => ⟨h.1, h.2 _⟩
     · subst hx hy
       refine SC.replaceW (Nat.ne_of_gt htk1) (Nat.succ_ne_zero _) (Nat.ne_of_lt (Nat.lt_succ_self _)) (by simpa using hab) (by rw [q2w]; omega) (show 1 ≤ 14 by decide) fun t' k => ⟨W', ev, i1.keeps fun _ _ e => e, ?_⟩
       rw [show Txt.replace (St0 l) ⟨#[a]⟩ ⟨#[b]⟩ = St0 (l.map (repc a b)) from replace_is l a b]
       exact .str _ _
   | _ => trivial
theorem se_smeth1 {o : Expr} {name : Str} {apos pos : Pos} {es : List Expr} {id : String} {f : St → Res V} {fa : St → Res (List V)} {g : List Nat → List V → Option V} (slot : Slot "str" name id) (hty : typeOf (.builtin id) = pure (.type "method_descriptor"))
   (ho : SE1 u c o f) (ha : SEs u c es fa)
   (hbase : attributeBase o name c.env (eval o c.env) = eval o c.env)
   (hfew : ((backTo pos (starEach es c.env)).all (fun x => !x.1) && (backToKw pos (keywordEach [] c.env)).all (fun x => x.1.isSome) && decide (es.length + ([] : List Keyword).length + (if ([] : List Keyword).isEmpty then 0 else 1) < 30)) = true)
   (hline : (apos.endLine == pos.line) = true) (hn : (starEach es c.env).all (!·.1) = true)
   (h : ∀ W σ s l t rs vs v, Inv u c W σ s → Reps u W rs vs → g l vs = some v → Sim u c (Rep u) (call (.builtin id) (.str (St0 l) t :: rs)) (.ok v σ) W s) :
   SE1 u c (.Call (.Attribute o name apos) es [] pos) (fun σ => (f σ).bind fun a σ => onS a fun l => (fa σ).bind fun vs σ => ores (g l vs) σ) := fun W σ s i htk =>
 q9v hbase hfew hline (ho W σ s i htk) fun a σ1 ov s1 G nb Q E run => by
   obtain ⟨l, rfl⟩ := onS_s nb
   obtain ⟨W', e, i1, hr⟩ := G
   induction hr.sr with | mk t => ?_
   exact ⟨"str", id, F.plainAttrs_str, slot, hty, typeIs_str _ _ _, (fun _ e => nomatch e), run _ ((q2o ha hn q2c i1 fun W2 σ2 s2 rs vs e2 i2 hrs => Sim.ores fun v hg => h W2 σ2 s2 l t rs vs v i2 hrs hg).ev e)⟩
theorem sx_tupN1 (ok : c.Ok) {xs : List String} {elts : List Expr} {tp p : Pos} {k : Nat} {value : Expr} {f : St → Res V} (hv : SE1 u c value f) (hx : ∀ x ∈ xs, q1o c x)
 (hs : swapsWithSole [.Tuple elts k tp] value p.line c.env = pure false) (hw : swappedStores [.Tuple elts k tp] value c.env = pure none)
 (he : ∀ (rs : List Value) (vs : List V) (W : Wd) (σ : St) (s : Shared), Inv u c W σ s → Reps u W rs vs → Sim u c (fun _ _ _ => True) (assignInOrder ((assignEach elts c.env).map (·.2)) rs) (.ok () (σ.sets xs vs)) W s)
 (hl : (assignEach elts c.env).length = xs.length) (hst : (assignEach elts c.env).findIdx? (·.1) = none) :
 SX1 u c (.Assign [.Tuple elts k tp] value p) (fun σ => (f σ).bind fun v σ => (ores (seqN xs.length σ.hp v) σ).bind fun l σ => .ok .next (σ.sets xs l)) := fun W σ s i htk => sim_tupN ok (hv W σ s i htk) hx hs hw he hl hst
theorem sx_tup31 (ok : c.Ok) {x y z : String} {p1 p2 p3 tp p : Pos} {k : Nat} {value : Expr} {f : St → Res V} (hv : SE1 u c value f) (hx : q1o c x) (hy : q1o c y) (hz : q1o c z)
   (hs : swapsWithSole [.Tuple [.Name (Str.ofString x) p1, .Name (Str.ofString y) p2, .Name (Str.ofString z) p3] k tp] value p.line c.env = pure false)
   (hw : swappedStores [.Tuple [.Name (Str.ofString x) p1, .Name (Str.ofString y) p2, .Name (Str.ofString z) p3] k tp] value c.env = pure none) :
   SX1 u c (.Assign [.Tuple [.Name (Str.ofString x) p1, .Name (Str.ofString y) p2, .Name (Str.ofString z) p3] k tp] value p) (fun σ => (f σ).bind fun v σ => (ores (seqN 3 σ.hp v) σ).bind fun l σ => .ok .next (σ.sets [x, y, z] l)) :=
 have hl : ∀ w ∈ [x, y, z], q1o c w := List.forall_mem_cons.mpr ⟨hx, List.forall_mem_cons.mpr ⟨hy, List.forall_mem_cons.mpr ⟨hz, nofun⟩⟩⟩
 sx_tupN1 (xs := [x, y, z]) ok hv hl hs hw (fun rs vs W σ s i h => j0l ok [(x, p1), (y, p2), (z, p3)] rs vs W σ s i hl h) rfl rfl
theorem sb_cons1 {st : Stmt} {rest : List Stmt} {f g : St → Res Fl} (h : SX1 u c st f) (hs : SB u c rest g) : SB1 u c (st :: rest) (fun σ => (f σ).bind fun fl σ => match fl with
 | .next => g σ
 | .ret v => .ok (.ret v) σ) := fun W σ s i htk => sim_cons (h W σ s i htk) hs
theorem codeOk_def1 (uo : u.Ok) {fa : Addr} {fo : Obj} {fd : FuncData} {body : List Stmt} {k : Nat} {xs : List String} {ds : List Value} {dvs : List V} {n : Nat} {den : St → Res Fl}
   (ho : u.B.get? fa = some fo) (hd : fo.data = .func fd) (hb : fd.body = .stmts body) (hcd : u.B.CodeRec fd.code fd.qualname)
   (hco : fd.scope.isCoroutine = false) (hgen : fd.scope.isGenerator = false) (hk : fd.scope.kind = .function) (hgl : fd.globals = mainGlobals) (hbl : fd.builtins = builtinsNs)
   (hcell : ∀ x ∈ fd.scope.names, x.2 ≠ .cell)
   (hbind : ∀ (s : Shared), u.B.StaysIn s.heap → ∀ rs : List Value, rs.length = k → BindsTo s fd ⟨rs, []⟩ ((xs.map Str.ofString).zip (rs ++ ds)))
   (hds : ∀ W, Reps u W ds dvs) (hnd : xs.Nodup) (hloc : ∀ x ∈ xs, fd.scope.names.lookup (Str.ofString x) = some .local) (hn : 1 ≤ n)
   (H : ∀ c : Cx, c.Ok → c.Fn → n ≤ c.room → c.env.scope = fd.scope → c.env.code = fd.code → c.env.func = some fa → c.env.qual = fd.qualname ++ ".<locals>." → SB1 u c body den) (hk0 : 0 < xs.length) (hk1 : k = xs.length) :
   CodeOk u (.ref fa) (n + 1) (fun vs H => if vs.length = k then finR H.length (den ⟨xs.zip (vs ++ dvs), H⟩) else .bad) :=
 q8q uo j8g True ho hd hb hcd hco hgen hk hgl hbl hcell hbind hds hnd hloc hn (fun c a b d e f g h W σ s i q => H c a b d e f g h W σ s i (q trivial)) fun _ => ⟨hk1 ▸ hk0, hk1⟩
end
section
open Builtin
set_option genSizeOf false
set_option genInjectivity false
inductive Ty | v | b | l | f | s
noncomputable abbrev Ty.C (t : Ty) : Type := @Ty.rec (fun _ => Type) V Bool (List V) Fl Src t
noncomputable def keepL (ks : List String) (σ : St) : St := ⟨q9s ks σ, σ.hp⟩
noncomputable def j7t (ks : List String) : Res Fl → Res Fl
 | .ok fl σ => .ok fl (keepL ks σ)
 | r => r
noncomputable def bigW : Nat := 10 ^ 400
noncomputable def whileR (ks : List String) (t : St → Res Bool) (b : St → Res Fl) (σ : St) : Res Fl := q7f (fun σ => t (keepL ks σ)) b bigW σ
noncomputable def forR (ks : List String) (cell : Bool) (x : String) (src : Src) (b : St → Res Fl) (σ : St) : Res Fl := j7t ks (forF src (q1k cell x) (fun σ => b (keepL (x :: ks) σ)) (q0z src σ.hp) 0 σ)
noncomputable def outK (tr : Bool) : Nat → St → Res Unit → Res V := if tr then j5v else j5w
noncomputable def j8j (tr : Bool) (x : String) (src : Src) (t : St → Res Bool) (g : St → Res V) (loc : List (String × V)) (σ : St) : Res V := outK tr σ.hp.length σ (q9t src x t g σ.hp.length (q0z src σ.hp) 0 ⟨loc, σ.hp ++ [.lst []]⟩)
set_option genCtorIdx false in
inductive Key | v (o : Option V) | b (o : Option Bool) | r (r : Res V) | f (r : Res Fl) | u (r : Res Unit) | s (o : Option Src)
set_option genCtorIdx false in
inductive Out | v (x : V) | b (x : Bool) | r (r : Res V) | f (r : Res Fl) | u (r : Res Unit) | s (x : Src)
noncomputable def Holds : Key → Out → Prop
 | .v o, .v x => o = some x
 | .b o, .b x => o = some x
 | .r o, .r x => o = x
 | .f o, .f x => o = x
 | .u o, .u x => o = x
 | .s o, .s x => o = some x
 | _, _ => False
structure Fact where
 k : Key
 o : Out
 h : Holds k o
noncomputable abbrev TM (α : Type) : Type := List Out → List Key → Option (Res α × List Out × List Key)
section
variable {α β : Type}
noncomputable def tok (a : α) (σ : St) : TM α := fun tp ks => some (.ok a σ, tp, ks)
noncomputable def tno : TM α := fun _ _ => none
noncomputable def tB (m : TM α) (k : α → St → TM β) : TM β := fun tp ks => match m tp ks with
 | some (.ok a σ, tp, ks) => k a σ tp ks
 | some (.ex C x σ, tp, ks) => some (.ex C x σ, tp, ks)
 | _ => none
noncomputable def tG {γ : Type} (sel : Out → Option γ) (key : Key) (k : γ → TM β) : TM β := fun tp ks => @List.rec Out (fun _ => Option (Res β × List Out × List Key)) none (fun y tp _ => @Option.rec γ (fun _ => Option (Res β × List Out × List Key)) none (fun x => k x tp (key :: ks)) (sel y)) tp
end
noncomputable def Out.v? : Out → Option V | .v x => some x | _ => none
noncomputable def Out.b? : Out → Option Bool | .b x => some x | _ => none
noncomputable def Out.r? : Out → Option (Res V) | .r x => some x | _ => none
noncomputable def Out.f? : Out → Option (Res Fl) | .f x => some x | _ => none
noncomputable def Out.u? : Out → Option (Res Unit) | .u x => some x | _ => none
noncomputable def Out.s? : Out → Option Src | .s x => some x | _ => none
section
variable {α β : Type}
noncomputable def tV (o : Option V) (k : V → TM β) : TM β := tG Out.v? (.v o) k
noncomputable def tC (o : Option Bool) (k : Bool → TM β) : TM β := tG Out.b? (.b o) k
noncomputable def tS (o : Option Src) (k : Src → TM β) : TM β := tG Out.s? (.s o) k
noncomputable def tR (r : Res V) (σ : St) : TM V := tG Out.r? (.r r) fun x tp ks => some (q1g σ x, tp, ks)
noncomputable def tF (r : Res Fl) : TM Fl := tG Out.f? (.f r) fun x tp ks => some (x, tp, ks)
noncomputable def tU (r : Res Unit) : TM Unit := tG Out.u? (.u r) fun x tp ks => some (x, tp, ks)
noncomputable def tO (o : Option α) (k : α → TM β) : TM β := match o with
 | some a => k a
 | none => tno
noncomputable def tX (m : TM Fl) (h : Addr → V → St → TM Fl) : TM Fl := fun tp ks => match m tp ks with
 | some (.ex C x σ, tp, ks) => h C x σ tp ks
 | r => r
end
noncomputable def isL (H : List AO) (k : Nat) : Bool := match H[k]? with | some (.lst _) => true | _ => false
noncomputable def binT (σ : St) (op : Operator) (a b : V) : TM V := match op, a, b with
 | .Add, .int x, .int y => tok (.int (x + y)) σ
 | .Sub, .int x, .int y => tok (.int (x - y)) σ
 | _, _, _ => tV (bin σ.hp op a b) fun x => tok x σ
noncomputable def itemT (σ : St) (a b : V) : TM V := match a with
 | .tup l => tO (q5a σ.hp (.tup l) b) fun x => tok x σ
 | _ => tV (q5a σ.hp a b) fun x => tok x σ
noncomputable def asgT (cell : Bool) (x : String) (v : V) (σ : St) : TM Fl := match cell with
 | false => tok .next (σ.set x v)
 | true => tB (tU (q1k true x v σ)) fun _ σ => tok .next σ
end
section
open Builtin
noncomputable def All2 (n : List (Key × Out)) : Prop := ∀ p ∈ n, Holds p.1 p.2
noncomputable def Rl {α : Type} (r : Res α) (t : TM α) : Prop := ∀ tp ks r' tp' ks', t tp ks = some (r', tp', ks') →
 ∃ n : List (Key × Out), tp = n.map (·.2) ++ tp' ∧ ks' = (n.map (·.1)).reverse ++ ks ∧ (All2 n → r = r')
section
variable {α β : Type} {σ : St}
theorem rl_of {r : Res α} {t : TM α} (x : Res α) (ht : t = fun tp ks => some (x, tp, ks)) (h : r = x) : Rl r t := fun tp ks r' tp' ks' e => by
 rw [ht] at e
 injection e with e
 injection e with e1 e
 injection e with e2 e3
 exact ⟨[], e2, e3.symm, fun _ => h.trans e1⟩
theorem q2b {a : α} : Rl (.ok a σ) (tok a σ) := rl_of _ rfl rfl
theorem q9l {r : Res α} : Rl r tno := fun _ _ _ _ _ e => nomatch e
theorem rl_g {γ : Type} {r : Res β} {sel : Out → Option γ} {key : Key} {k : γ → TM β} (mk : γ → Out) (hs : ∀ y x, sel y = some x → y = mk x) (kr : γ → Res β) (h : ∀ x, Rl (kr x) (k x)) (e : ∀ x, Holds key (mk x) → r = kr x) : Rl r (tG sel key k) := fun tp ks r' tp' ks' q => by
 cases tp with
 | nil => cases q
 | cons y tp =>
   cases hy : sel y with
   | none => simp only [tG, hy] at q; cases q
   | some x =>
     simp only [tG, hy] at q
     obtain ⟨n, h1, h2, h3⟩ := h x _ _ _ _ _ q
     rw [hs y x hy]
     exact ⟨(key, mk x) :: n, congrArg (mk x :: ·) h1, by rw [h2, List.map_cons, List.reverse_cons, List.append_assoc]; rfl, fun a => (e x (a _ (.head _))).trans (h3 fun p hp => a p (.tail _ hp))⟩
theorem sel_v (y : Out) (x : V) (h : y.v? = some x) : y = .v x := by cases y <;> cases h; rfl
theorem sel_b (y : Out) (x : Bool) (h : y.b? = some x) : y = .b x := by cases y <;> cases h; rfl
theorem sel_r (y : Out) (x : Res V) (h : y.r? = some x) : y = .r x := by cases y <;> cases h; rfl
theorem sel_f (y : Out) (x : Res Fl) (h : y.f? = some x) : y = .f x := by cases y <;> cases h; rfl
theorem sel_u (y : Out) (x : Res Unit) (h : y.u? = some x) : y = .u x := by cases y <;> cases h; rfl
theorem sel_s (y : Out) (x : Src) (h : y.s? = some x) : y = .s x := by cases y <;> cases h; rfl
theorem rl_v {r : Res β} {o : Option V} {k : V → TM β} (kr : V → Res β) (h : ∀ x, Rl (kr x) (k x)) (e : ∀ x, o = some x → r = kr x) : Rl r (tV o k) := rl_g .v sel_v kr h e
theorem rl_c {r : Res β} {o : Option Bool} {k : Bool → TM β} (kr : Bool → Res β) (h : ∀ x, Rl (kr x) (k x)) (e : ∀ x, o = some x → r = kr x) : Rl r (tC o k) := rl_g .b sel_b kr h e
theorem rl_s {r : Res β} {o : Option Src} {k : Src → TM β} (kr : Src → Res β) (h : ∀ x, Rl (kr x) (k x)) (e : ∀ x, o = some x → r = kr x) : Rl r (tS o k) := rl_g .s sel_s kr h e
theorem rl_r {r x : Res V} (e : r = q1g σ x) : Rl r (tR x σ) := rl_g .r sel_r (q1g σ) (fun y => rl_of (q1g σ y) rfl rfl) fun y (h : x = y) => by rw [e, h]
theorem rl_f {r : Res Fl} : Rl r (tF r) := rl_g .f sel_f id (fun y => rl_of y rfl rfl) fun y (h : r = y) => h
theorem rl_u {r : Res Unit} : Rl r (tU r) := rl_g .u sel_u id (fun y => rl_of y rfl rfl) fun y (h : r = y) => h
theorem rl_b {r : Res α} {m : TM α} {g : α → St → Res β} {k : α → St → TM β} (h : Rl r m) (hk : ∀ a σ, Rl (g a σ) (k a σ)) : Rl (r.bind g) (tB m k) := fun tp ks r' tp' ks' q => by
 unfold tB at q
 cases e : m tp ks with
 | none => rw [e] at q; cases q
 | some p =>
   obtain ⟨r1, tp1, ks1⟩ := p
   obtain ⟨n, h1, h2, h3⟩ := h _ _ _ _ _ e
   rw [e] at q
   cases r1 with
   | bad => cases q
   | ex C x σ =>
     injection q with q
     injection q with q1 q
     injection q with q2 q3
     exact ⟨n, by rw [h1, q2], by rw [← q3, h2], fun a => by rw [h3 a, ← q1]; rfl⟩
   | ok a σ =>
     obtain ⟨n2, i1, i2, i3⟩ := hk a σ _ _ _ _ _ q
     exact ⟨n ++ n2, by rw [h1, i1, List.map_append, List.append_assoc], by rw [i2, h2, List.map_append, List.reverse_append, List.append_assoc],
       fun al => by rw [h3 fun p hp => al p (List.mem_append_left _ hp)]; exact i3 fun p hp => al p (List.mem_append_right _ hp)⟩
theorem rl_o {r : Res β} {o : Option α} {k : α → TM β} {kr : α → Res β} (h : ∀ x, Rl (kr x) (k x)) (e : ∀ x, o = some x → r = kr x) : Rl r (tO o k) := by
 cases o with
 | none => exact q9l
 | some a => rw [e a rfl]; exact h a
theorem j6y {b : Bool} {x y : Res α} {s t : TM α} (h : Rl x s) (h' : Rl y t) : Rl (if b then x else y) (bif b then s else t) := by
 cases b
 · exact h'
 · exact h
theorem rl_t {b : Bool} {x : Res α} {s : TM α} {y : Res α} (h : Rl x s) : Rl (if b then x else y) (bif b then s else tno) := j6y h q9l
theorem rl_x {r : Res Fl} {m : TM Fl} {k : Addr → V → St → TM Fl} (h : Rl r m) (c : Res Fl → Res Fl) (hc : ∀ fl σ, c (.ok fl σ) = .ok fl σ) (hb : c .bad = .bad) (hk : ∀ C x σ, Rl (c (.ex C x σ)) (k C x σ)) : Rl (c r) (tX m k) := fun tp ks r' tp' ks' q => by
 unfold tX at q
 cases e : m tp ks with
 | none => rw [e] at q; cases q
 | some p =>
   obtain ⟨r1, tp1, ks1⟩ := p
   obtain ⟨n, h1, h2, h3⟩ := h _ _ _ _ _ e
   rw [e] at q
   have fin : c r1 = r1 → some (r1, tp1, ks1) = some (r', tp', ks') → ∃ n : List (Key × Out), tp = n.map (·.2) ++ tp' ∧ ks' = (n.map (·.1)).reverse ++ ks ∧ (All2 n → c r = r') := fun hc q => by
     injection q with q
     injection q with q1 q
     injection q with q2 q3
     exact ⟨n, by rw [h1, q2], by rw [← q3, h2], fun a => by rw [h3 a, hc, ← q1]⟩
   cases r1 with
   | bad => exact fin hb q
   | ok a σ => exact fin (hc a σ) q
   | ex C x σ =>
     obtain ⟨n2, i1, i2, i3⟩ := hk C x σ _ _ _ _ _ q
     exact ⟨n ++ n2, by rw [h1, i1, List.map_append, List.append_assoc], by rw [i2, h2, List.map_append, List.reverse_append, List.append_assoc],
       fun al => by rw [h3 fun p hp => al p (List.mem_append_left _ hp)]; exact i3 fun p hp => al p (List.mem_append_right _ hp)⟩
theorem q4t {o : Option V} : Rl (ores o σ) (tV o fun x => tok x σ) := rl_v (fun x => .ok x σ) (fun _ => q2b) fun _ h => by rw [h]; rfl
theorem rl_oresC {o : Option Bool} : Rl (ores o σ) (tC o fun x => tok x σ) := rl_c (fun x => .ok x σ) (fun _ => q2b) fun _ h => by rw [h]; rfl
theorem j0a {o : Option α} : Rl (ores o σ) (tO o fun x => tok x σ) := rl_o (kr := fun x => .ok x σ) (fun _ => q2b) fun _ h => by rw [h]; rfl
theorem rl_oO {o : Option α} {g : α → St → Res β} {k : α → TM β} (h : ∀ x, Rl (g x σ) (k x)) : Rl ((ores o σ).bind g) (tO o k) := rl_o (kr := fun x => g x σ) h fun _ e => by rw [e]; rfl
theorem rl_vO {o : Option V} {g : V → St → Res β} {k : V → TM β} (h : ∀ x, Rl (g x σ) (k x)) : Rl ((ores o σ).bind g) (tV o k) := rl_v (fun x => g x σ) h fun _ e => by rw [e]; rfl
theorem rl_cO {o : Option Bool} {g : Bool → St → Res β} {k : Bool → TM β} (h : ∀ x, Rl (g x σ) (k x)) : Rl ((ores o σ).bind g) (tC o k) := rl_c (fun x => g x σ) h fun _ e => by rw [e]; rfl
end
theorem rl_len {α : Type} {l : List V} {x : Res α} {t : TM α} (h : Rl x t) : Rl (if l.length ≤ 1000 then x else .bad) (bif l.length.ble 1000 then t else tno) := by
 cases e : l.length.ble 1000 with
 | false => exact q9l
 | true => rw [if_pos (Nat.le_of_ble_eq_true e)]; exact h
theorem rl_bin {σ : St} {op : Operator} {a b : V} : Rl (ores (bin σ.hp op a b) σ) (binT σ op a b) := by
 unfold binT
 split
 · exact q2b
 · exact q2b
 · exact q4t
theorem rl_item {σ : St} {a b : V} : Rl (ores (q5a σ.hp a b) σ) (itemT σ a b) := by
 cases a <;> first | exact j0a | exact q4t
theorem rl_asg {cell : Bool} {x : String} {v : V} {σ : St} : Rl ((q1k cell x v σ).bind fun _ σ => .ok .next σ) (asgT cell x v σ) := by
 cases cell with
 | false => exact q2b
 | true => exact rl_b rl_u fun _ _ => q2b
theorem out_lift {tr : Bool} {σ : St} {r : Res Unit} : outK tr σ.hp.length σ r = q1g σ (outK tr σ.hp.length ⟨[], σ.hp⟩ r) := by
 cases tr
 · cases r with
   | ok a σ2 =>
     show q1g σ (finR σ.hp.length (.ok (.ret (.obj σ.hp.length)) σ2)) = q1g σ (q1g ⟨[], σ.hp⟩ (finR σ.hp.length (.ok (.ret (.obj σ.hp.length)) σ2)))
     cases finR σ.hp.length (.ok (.ret (.obj σ.hp.length)) σ2) <;> rfl
   | ex => rfl
   | bad => rfl
 · cases r with
   | ok a σ2 =>
     show (if (σ2.hp.take (σ.hp.length + 1)).all (q0b (σ.hp.length + 1)) then _ else _) = q1g σ (if (σ2.hp.take (σ.hp.length + 1)).all (q0b (σ.hp.length + 1)) then _ else _)
     split <;> rfl
   | ex => rfl
   | bad => rfl
theorem make_lift {C : Addr} {fn : Fn} {vs : List V} {σ : St} : j7o C fn vs σ = q1g σ (j7o C fn vs ⟨[], σ.hp⟩) := by
 show okB (fn (.obj σ.hp.length :: vs) (σ.hp ++ [.ins C []])) _ = q1g σ (okB (fn (.obj σ.hp.length :: vs) (σ.hp ++ [.ins C []])) _)
 cases fn (.obj σ.hp.length :: vs) (σ.hp ++ [.ins C []]) with
 | ok w σ2 => cases w <;> rfl
 | _ => rfl
theorem push_lift {v : V} {k : Nat} {σ : St} : q5h v k σ = q1g σ (q5h v k ⟨[], σ.hp⟩) := by
 unfold q5h updL
 show Option.casesOn (motive := fun _ => Res V) (σ.hp[k]?.bind _) _ _ = q1g σ (Option.casesOn (motive := fun _ => Res V) (σ.hp[k]?.bind _) _ _)
 generalize σ.hp[k]?.bind _ = o
 cases o <;> rfl
theorem repl_lift {x y : Nat} {a : V} {σ : St} : replV x y a σ = q1g σ (replV x y a ⟨[], σ.hp⟩) := by
 cases a with
 | str l =>
   show (if l.length ≤ 100000 then _ else _) = q1g σ (if l.length ≤ 100000 then _ else _)
   split <;> rfl
 | _ => rfl
theorem rl_tryC {C C1 C2 : Addr} {n : String} {m : V} {σ : St} : Rl (q5y C1 C2 n (.ex C m σ)) (bif Nat.beq C C1 && (σ.get n).isNone && notB m then fun tp ks => some (.ex C2 m σ, tp, ks) else tno) := by
 cases e : Nat.beq C C1 && (σ.get n).isNone && notB m with
 | false => exact q9l
 | true =>
   simp only [Bool.and_eq_true] at e
   exact rl_of _ rfl (if_pos ⟨Nat.eq_of_beq_eq_true e.1.1, e.1.2, e.2⟩)
theorem rl_tryN {C C' : Addr} {m : V} {σ : St} : Rl (q4o C (.ex C' m σ)) (bif Nat.beq C' C then tok (.ret .none) σ else tno) := by
 cases e : Nat.beq C' C with
 | false => exact q9l
 | true => exact rl_of _ rfl (if_pos (Nat.eq_of_beq_eq_true e))
theorem rl_push {a : V} {σ : St} {g : St → Res V} {t : St → TM V} (h : ∀ σ, Rl (g σ) (t σ)) :
   Rl (onO a fun k => (ores (isT k σ.hp) σ).bind fun _ σ => (g σ).bind fun v σ => q5h v k σ)
     (match a with | .obj k => tC (some (isL σ.hp k)) fun b => bif b then tB (t σ) fun v σ => tR (q5h v k ⟨[], σ.hp⟩) σ else tno | _ => tno) := by
 cases a <;> first
   | exact q9l
   | (rename_i k
      refine rl_c (fun b => if b then (g σ).bind fun v σ => q5h v k σ else .bad) (fun _ => rl_t (rl_b (h σ) fun _ _ => rl_r push_lift)) fun x h => ?_
      injection h with h
      subst h
      show (ores (isT k σ.hp) σ).bind _ = _
      unfold isL isT
      cases σ.hp[k]? with
      | none => rfl
      | some o => cases o <;> rfl)
structure D0 (t : Ty) where
 ev : St → Res t.C
 et : St → TM t.C
 ok : ∀ σ, Rl (ev σ) (et σ)
structure D (t : Ty) where
 c : D0 t
 cs : List (D0 .b × D0 .v)
noncomputable def ev {t : Ty} (d : D t) : St → Res t.C := d.c.ev
noncomputable def et {t : Ty} (d : D t) : St → TM t.C := d.c.et
theorem q0m {t : Ty} (d : D t) : ∀ σ, Rl (ev d σ) (et d σ) := d.c.ok
noncomputable def D.kv (x0 : V) : D .v := ⟨⟨fun σ => .ok x0 σ, fun σ => tok x0 σ, fun σ => q2b⟩, []⟩
noncomputable def D.nm (x0 : String) : D .v := ⟨⟨fun σ => ores (σ.get x0) σ, fun σ => tO (σ.get x0) fun v => tok v σ, fun σ => j0a⟩, []⟩
noncomputable def D.cl (x0 : String) : D .v := ⟨⟨fun σ => ores (getC σ x0) σ, fun σ => tV (getC σ x0) fun v => tok v σ, fun σ => q4t⟩, []⟩
noncomputable def D.un (op0 : UnaryOp) (d1 : D .v) : D .v := ⟨⟨fun σ => (ev d1 σ).bind fun a σ => ores (Mi.un op0 a) σ, fun σ => tB (et d1 σ) fun a σ => tO (Mi.un op0 a) fun v => tok v σ, fun σ => rl_b (q0m d1 σ) fun _ _ => j0a⟩, d1.cs⟩
noncomputable def D.bin (op0 : Operator) (d1 d2 : D .v) : D .v := ⟨⟨fun σ => (ev d1 σ).bind fun a σ => (ev d2 σ).bind fun b σ => ores (Mi.bin σ.hp op0 a b) σ, fun σ => tB (et d1 σ) fun a σ => tB (et d2 σ) fun b σ => binT σ op0 a b, fun σ => rl_b (q0m d1 σ) fun _ σ => rl_b (q0m d2 σ) fun _ _ => rl_bin⟩, d1.cs ++ d2.cs⟩
noncomputable def D.vcmp (op0 : CmpOp) (d1 d2 : D .v) : D .v := ⟨⟨fun σ => (ev d1 σ).bind fun a σ => (ev d2 σ).bind fun b σ => ores ((Mi.cmp op0 a b).map V.bool) σ, fun σ => tB (et d1 σ) fun a σ => tB (et d2 σ) fun b σ => tC (Mi.cmp op0 a b) fun x => tok (.bool x) σ, fun σ => rl_b (q0m d1 σ) fun x σ => rl_b (q0m d2 σ) fun y σ => rl_c (fun x => .ok (.bool x) σ) (fun _ => q2b) fun _ h => by rw [h]; rfl⟩, d1.cs ++ d2.cs⟩
noncomputable def D.ife (d1 : D .b) (d2 d3 : D .v) : D .v := ⟨⟨fun σ => (ev d1 σ).bind fun b σ => if b then (ev d2) σ else (ev d3) σ, fun σ => tB (et d1 σ) fun b σ => bif b then (et d2) σ else (et d3) σ, fun σ => rl_b (q0m d1 σ) fun _ σ => j6y (q0m d2 σ) (q0m d3 σ)⟩, d1.cs ++ d2.cs ++ d3.cs⟩
noncomputable def D.tup (d1 : D .l) : D .v := ⟨⟨fun σ => (ev d1 σ).bind fun l σ => if l.length ≤ 1000 then .ok (.tup l) σ else .bad, fun σ => tB (et d1 σ) fun l σ => bif l.length.ble 1000 then tok (.tup l) σ else tno, fun σ => rl_b (q0m d1 σ) fun _ _ => rl_len q2b⟩, d1.cs⟩
noncomputable def D.lst (d1 : D .l) : D .v := ⟨⟨fun σ => (ev d1 σ).bind fun l σ => if l.length ≤ 1000 then .ok (.lst l) σ else .bad, fun σ => tB (et d1 σ) fun l σ => bif l.length.ble 1000 then tok (.lst l) σ else tno, fun σ => rl_b (q0m d1 σ) fun _ _ => rl_len q2b⟩, d1.cs⟩
noncomputable def D.lstT (d1 : D .l) : D .v := ⟨⟨fun σ => (ev d1 σ).bind fun l σ => if l.length ≤ 1000 then .ok (.obj σ.hp.length) { σ with hp := σ.hp ++ [.lst l] } else .bad, fun σ => tB (et d1 σ) fun l σ => bif l.length.ble 1000 then tok (.obj σ.hp.length) { σ with hp := σ.hp ++ [.lst l] } else tno, fun σ => rl_b (q0m d1 σ) fun _ _ => rl_len q2b⟩, d1.cs⟩
noncomputable def D.item (d1 d2 : D .v) : D .v := ⟨⟨fun σ => (ev d1 σ).bind fun a σ => (ev d2 σ).bind fun b σ => ores (q5a σ.hp a b) σ, fun σ => tB (et d1 σ) fun a σ => tB (et d2 σ) fun b σ => itemT σ a b, fun σ => rl_b (q0m d1 σ) fun _ σ => rl_b (q0m d2 σ) fun _ _ => rl_item⟩, d1.cs ++ d2.cs⟩
noncomputable def D.sl (d1 d2 d3 : D .v) : D .v := ⟨⟨fun σ => (ev d1 σ).bind fun a σ => (ev d2 σ).bind fun l σ => (ev d3 σ).bind fun r σ => ores (slV σ.hp a l r) σ, fun σ => tB (et d1 σ) fun a σ => tB (et d2 σ) fun l σ => tB (et d3 σ) fun r σ => tV (slV σ.hp a l r) fun x => tok x σ, fun σ => rl_b (q0m d1 σ) fun _ σ => rl_b (q0m d2 σ) fun _ σ => rl_b (q0m d3 σ) fun _ _ => q4t⟩, d1.cs ++ d2.cs ++ d3.cs⟩
noncomputable def D.bi (g0 : List AO → List V → Option V) (d1 : D .l) : D .v := ⟨⟨fun σ => (ev d1 σ).bind fun vs σ => ores (g0 σ.hp vs) σ, fun σ => tB (et d1 σ) fun vs σ => tV (g0 σ.hp vs) fun x => tok x σ, fun σ => rl_b (q0m d1 σ) fun _ _ => q4t⟩, d1.cs⟩
noncomputable def D.sm (g0 : List Nat → List V → Option V) (d1 : D .v) (d2 : D .l) : D .v := ⟨⟨fun σ => (ev d1 σ).bind fun a σ => onS a fun l => (ev d2 σ).bind fun vs σ => ores (g0 l vs) σ, fun σ => tB (et d1 σ) fun a σ => match a with | .str l => tB (et d2 σ) fun vs σ => tV (g0 l vs) fun x => tok x σ | _ => tno, fun σ => rl_b (q0m d1 σ) fun a σ => by cases a <;> first | exact q9l | exact rl_b (q0m d2 σ) fun _ _ => q4t⟩, d1.cs ++ d2.cs⟩
noncomputable def D.rep (x0 : Nat) (y0 : Nat) (d1 : D .v) : D .v := ⟨⟨fun σ => (ev d1 σ).bind (replV x0 y0), fun σ => tB (et d1 σ) fun a σ => tR (replV x0 y0 a ⟨[], σ.hp⟩) σ, fun σ => rl_b (q0m d1 σ) fun _ _ => rl_r repl_lift⟩, d1.cs⟩
noncomputable def D.call (fn0 : Fn) (d1 : D .l) : D .v := ⟨⟨fun σ => (ev d1 σ).bind fun vs σ => q1g σ (fn0 vs σ.hp), fun σ => tB (et d1 σ) fun vs σ => tR (fn0 vs σ.hp) σ, fun σ => rl_b (q0m d1 σ) fun _ _ => rl_r rfl⟩, d1.cs⟩
noncomputable def D.meth (C0 : Addr) (name0 : Str) (fn0 : Fn) (d1 : D .v) (d2 : D .l) : D .v := ⟨⟨fun σ => (ev d1 σ).bind fun a σ => if j4g C0 name0 σ.hp a then (ev d2 σ).bind fun vs σ => q1g σ (fn0 (a :: vs) σ.hp) else .bad, fun σ => tB (et d1 σ) fun a σ => tC (some (j4g C0 name0 σ.hp a)) fun b => bif b then tB (et d2 σ) fun vs σ => tR (fn0 (a :: vs) σ.hp) σ else tno, fun σ => rl_b (q0m d1 σ) fun a σ => rl_c (fun b => if b then (ev d2 σ).bind fun vs σ => q1g σ (fn0 (a :: vs) σ.hp) else .bad) (fun _ => rl_t (rl_b (q0m d2 σ) fun _ _ => rl_r rfl)) fun x h => by injection h with h; subst h; rfl⟩, d1.cs ++ d2.cs⟩
noncomputable def D.make (C0 : Addr) (fn0 : Fn) (d1 : D .l) : D .v := ⟨⟨fun σ => (ev d1 σ).bind fun vs σ => j7o C0 fn0 vs σ, fun σ => tB (et d1 σ) fun vs σ => tR (j7o C0 fn0 vs ⟨[], σ.hp⟩) σ, fun σ => rl_b (q0m d1 σ) fun _ _ => rl_r make_lift⟩, d1.cs⟩
noncomputable def D.attr (C0 : Addr) (name0 : Str) (d1 : D .v) : D .v := ⟨⟨fun σ => (ev d1 σ).bind fun a σ => ores (q6m C0 name0 σ.hp a) σ, fun σ => tB (et d1 σ) fun a σ => tV (q6m C0 name0 σ.hp a) fun x => tok x σ, fun σ => rl_b (q0m d1 σ) fun _ _ => q4t⟩, d1.cs⟩
noncomputable def D.push (d1 d2 : D .v) : D .v := ⟨⟨fun σ => (ev d1 σ).bind fun a σ => onO a fun k => (ores (isT k σ.hp) σ).bind fun _ σ => (ev d2 σ).bind fun v σ => q5h v k σ, fun σ => tB (et d1 σ) fun a σ => match a with | .obj k => tC (some (isL σ.hp k)) fun b => bif b then tB (et d2 σ) fun v σ => tR (q5h v k ⟨[], σ.hp⟩) σ else tno | _ => tno, fun σ => rl_b (q0m d1 σ) fun _ _ => rl_push (q0m d2)⟩, d1.cs ++ d2.cs⟩
noncomputable def D.comp (tr0 : Bool) (fs0 : List String) (x0 : String) (d1 : D .s) (d2 : D .b) (d3 : D .v) : D .v := ⟨⟨fun σ => if fs0.all (fun n => (σ.get n).isSome) then (ev d1 σ).bind fun src σ => if fs0.all (fun n => (σ.get n).isSome) then j8j tr0 x0 src (ev d2) (ev d3) (q9s fs0 σ) σ else .bad else .bad, fun σ => bif fs0.all (fun n => (σ.get n).isSome) then tB (et d1 σ) fun src σ => bif fs0.all (fun n => (σ.get n).isSome) then tR (j8j tr0 x0 src (ev d2) (ev d3) (q9s fs0 σ) ⟨[], σ.hp⟩) σ else tno else tno, fun σ => rl_t (rl_b (q0m d1 σ) fun _ _ => rl_t (rl_r out_lift))⟩, (d2.c, d3.c) :: d1.cs⟩
noncomputable def D.lam (i0 : Nat) (fs0 : List String) : D .v := ⟨⟨fun σ => if fs0.all (fun n => (σ.get n).isSome) then .ok (.fn i0 (idx fs0 σ)) σ else .bad, fun σ => bif fs0.all (fun n => (σ.get n).isSome) then tok (.fn i0 (idx fs0 σ)) σ else tno, fun σ => rl_t q2b⟩, []⟩
noncomputable def D.dget (T0 : List (PyData × PyData)) (d1 : D .l) : D .v := ⟨⟨fun σ => (ev d1 σ).bind fun vs σ => ores (getD T0 vs) σ, fun σ => tB (et d1 σ) fun vs σ => tV (getD T0 vs) fun x => tok x σ, fun σ => rl_b (q0m d1 σ) fun _ _ => q4t⟩, d1.cs⟩
noncomputable def D.ditem (T0 : List (PyData × PyData)) (d1 : D .v) : D .v := ⟨⟨fun σ => (ev d1 σ).bind fun b σ => ores (itemD T0 b) σ, fun σ => tB (et d1 σ) fun b σ => tV (itemD T0 b) fun x => tok x σ, fun σ => rl_b (q0m d1 σ) fun _ _ => q4t⟩, d1.cs⟩
noncomputable def D.vand (d1 d2 : D .v) : D .v := ⟨⟨fun σ => (ev d1 σ).bind fun v σ => (ores (tru v) σ).bind fun b σ => if b then (ev d2) σ else .ok v σ, fun σ => tB (et d1 σ) fun v σ => tO (tru v) fun b => bif b then (et d2) σ else tok v σ, fun σ => rl_b (q0m d1 σ) fun _ σ => rl_oO fun _ => j6y (q0m d2 σ) q2b⟩, d1.cs ++ d2.cs⟩
noncomputable def D.vor (d1 d2 : D .v) : D .v := ⟨⟨fun σ => (ev d1 σ).bind fun v σ => (ores (tru v) σ).bind fun b σ => if b then .ok v σ else (ev d2) σ, fun σ => tB (et d1 σ) fun v σ => tO (tru v) fun b => bif b then tok v σ else (et d2) σ, fun σ => rl_b (q0m d1 σ) fun _ σ => rl_oO fun _ => j6y q2b (q0m d2 σ)⟩, d1.cs ++ d2.cs⟩
noncomputable def D.cmp (op0 : CmpOp) (d1 d2 : D .v) : D .b := ⟨⟨fun σ => (ev d1 σ).bind fun a σ => (ev d2 σ).bind fun b σ => ores (Mi.cmp op0 a b) σ, fun σ => tB (et d1 σ) fun a σ => tB (et d2 σ) fun b σ => tC (Mi.cmp op0 a b) fun x => tok x σ, fun σ => rl_b (q0m d1 σ) fun _ σ => rl_b (q0m d2 σ) fun _ _ => rl_oresC⟩, d1.cs ++ d2.cs⟩
noncomputable def D.cmp2 (op0 : CmpOp) (op'0 : CmpOp) (d1 d2 d3 : D .v) : D .b := ⟨⟨fun σ => (ev d1 σ).bind fun a σ => (ev d2 σ).bind fun b σ => (ores (Mi.cmp op0 a b) σ).bind fun t σ => if t then (ev d3 σ).bind fun d σ => ores (Mi.cmp op'0 b d) σ else .ok false σ, fun σ => tB (et d1 σ) fun a σ => tB (et d2 σ) fun b σ => tC (Mi.cmp op0 a b) fun t => bif t then tB (et d3 σ) fun d σ => tC (Mi.cmp op'0 b d) fun x => tok x σ else tok false σ, fun σ => rl_b (q0m d1 σ) fun _ σ => rl_b (q0m d2 σ) fun _ σ => rl_cO fun _ => j6y (rl_b (q0m d3 σ) fun _ _ => rl_oresC) q2b⟩, d1.cs ++ d2.cs ++ d3.cs⟩
noncomputable def D.not (d1 : D .b) : D .b := ⟨⟨fun σ => (ev d1 σ).bind fun b σ => .ok (!b) σ, fun σ => tB (et d1 σ) fun b σ => tok (!b) σ, fun σ => rl_b (q0m d1 σ) fun _ _ => q2b⟩, d1.cs⟩
noncomputable def D.tval (d1 : D .v) : D .b := ⟨⟨fun σ => (ev d1 σ).bind fun v σ => ores (tru v) σ, fun σ => tB (et d1 σ) fun v σ => tO (tru v) fun b => tok b σ, fun σ => rl_b (q0m d1 σ) fun _ _ => j0a⟩, d1.cs⟩
noncomputable def D.tand (d1 d2 : D .b) : D .b := ⟨⟨fun σ => (ev d1 σ).bind fun b σ => if b then (ev d2) σ else .ok false σ, fun σ => tB (et d1 σ) fun b σ => bif b then (et d2) σ else tok false σ, fun σ => rl_b (q0m d1 σ) fun _ σ => j6y (q0m d2 σ) q2b⟩, d1.cs ++ d2.cs⟩
noncomputable def D.tor (d1 d2 : D .b) : D .b := ⟨⟨fun σ => (ev d1 σ).bind fun b σ => if b then .ok true σ else (ev d2) σ, fun σ => tB (et d1 σ) fun b σ => bif b then tok true σ else (et d2) σ, fun σ => rl_b (q0m d1 σ) fun _ σ => j6y q2b (q0m d2 σ)⟩, d1.cs ++ d2.cs⟩
noncomputable def D.tk (x0 : Bool) : D .b := ⟨⟨fun σ => .ok x0 σ, fun σ => tok x0 σ, fun σ => q2b⟩, []⟩
noncomputable def D.nil : D .l := ⟨⟨fun σ => .ok [] σ, fun σ => tok [] σ, fun σ => q2b⟩, []⟩
noncomputable def D.cons (d1 : D .v) (d2 : D .l) : D .l := ⟨⟨fun σ => (ev d1 σ).bind fun v σ => (ev d2 σ).bind fun vs σ => .ok (v :: vs) σ, fun σ => tB (et d1 σ) fun v σ => tB (et d2 σ) fun vs σ => tok (v :: vs) σ, fun σ => rl_b (q0m d1 σ) fun _ σ => rl_b (q0m d2 σ) fun _ _ => q2b⟩, d1.cs ++ d2.cs⟩
noncomputable def D.sval (d1 : D .v) : D .s := ⟨⟨fun σ => (ev d1 σ).bind fun v σ => ores (seqS σ.hp v) σ, fun σ => tB (et d1 σ) fun v σ => tS (seqS σ.hp v) fun x => tok x σ, fun σ => rl_b (q0m d1 σ) fun _ σ => rl_s (fun x => .ok x σ) (fun _ => q2b) fun _ h => by rw [h]; rfl⟩, d1.cs⟩
noncomputable def D.srng (d1 : D .l) : D .s := ⟨⟨fun σ => (ev d1 σ).bind fun vs σ => ores (rngV vs) σ, fun σ => tB (et d1 σ) fun vs σ => tS (rngV vs) fun x => tok x σ, fun σ => rl_b (q0m d1 σ) fun _ σ => rl_s (fun x => .ok x σ) (fun _ => q2b) fun _ h => by rw [h]; rfl⟩, d1.cs⟩
noncomputable def D.nxt : D .f := ⟨⟨fun σ => .ok .next σ, fun σ => tok .next σ, fun σ => q2b⟩, []⟩
noncomputable def D.seq (d1 d2 : D .f) : D .f := ⟨⟨fun σ => (ev d1 σ).bind fun fl σ => match fl with | .next => ev d2 σ | .ret v => .ok (.ret v) σ, fun σ => tB (et d1 σ) fun fl σ => match fl with | .next => et d2 σ | .ret v => tok (.ret v) σ, fun σ => rl_b (q0m d1 σ) fun fl σ => by cases fl with | next => exact (q0m d2) σ | ret => exact q2b⟩, d1.cs ++ d2.cs⟩
noncomputable def D.ret (d1 : D .v) : D .f := ⟨⟨fun σ => (ev d1 σ).bind fun v σ => .ok (.ret v) σ, fun σ => tB (et d1 σ) fun v σ => tok (.ret v) σ, fun σ => rl_b (q0m d1 σ) fun _ _ => q2b⟩, d1.cs⟩
noncomputable def D.ifx (d1 : D .b) (d2 d3 : D .f) : D .f := ⟨⟨fun σ => (ev d1 σ).bind fun b σ => if b then (ev d2) σ else (ev d3) σ, fun σ => tB (et d1 σ) fun b σ => bif b then (et d2) σ else (et d3) σ, fun σ => rl_b (q0m d1 σ) fun _ σ => j6y (q0m d2 σ) (q0m d3 σ)⟩, d1.cs ++ d2.cs ++ d3.cs⟩
noncomputable def D.asg (cell0 : Bool) (x0 : String) (d1 : D .v) : D .f := ⟨⟨fun σ => (ev d1 σ).bind fun v σ => (q1k cell0 x0 v σ).bind fun _ σ => .ok .next σ, fun σ => tB (et d1 σ) fun v σ => asgT cell0 x0 v σ, fun σ => rl_b (q0m d1 σ) fun _ _ => rl_asg⟩, d1.cs⟩
noncomputable def D.aug (x0 : String) (d1 : D .v) : D .f := ⟨⟨fun σ => (ores (σ.get x0) σ).bind fun a σ => (ev d1 σ).bind fun b σ => incr false x0 a b σ, fun σ => tO (σ.get x0) fun a => tB (et d1 σ) fun b σ => match a, b with | .int p, .int q => tok .next (σ.set x0 (.int (p + q))) | _, _ => tno, fun σ => rl_oO fun p => rl_b (q0m d1 σ) fun q σ => by cases p <;> cases q <;> first | exact q9l | exact q2b⟩, d1.cs⟩
noncomputable def D.tupn (xs0 : List String) (d1 : D .v) : D .f := ⟨⟨fun σ => (ev d1 σ).bind fun v σ => (ores (seqN xs0.length σ.hp v) σ).bind fun l σ => .ok .next (σ.sets xs0 l), fun σ => tB (et d1 σ) fun v σ => tO (seqN xs0.length σ.hp v) fun l => tok .next (σ.sets xs0 l), fun σ => rl_b (q0m d1 σ) fun _ σ => rl_oO fun _ => q2b⟩, d1.cs⟩
noncomputable def D.tups (xs0 : List String) (d1 : D .v) : D .f := ⟨⟨fun σ => (ev d1 σ).bind fun v σ => (ores (seqN xs0.length σ.hp v) σ).bind fun l σ => .ok .next (σ.sets xs0.reverse l.reverse), fun σ => tB (et d1 σ) fun v σ => tO (seqN xs0.length σ.hp v) fun l => tok .next (σ.sets xs0.reverse l.reverse), fun σ => rl_b (q0m d1 σ) fun _ σ => rl_oO fun _ => q2b⟩, d1.cs⟩
noncomputable def D.whl (ks0 : List String) (d1 : D .b) (d2 : D .f) : D .f := ⟨⟨fun σ => whileR ks0 (ev d1) (ev d2) σ, fun σ => tF (whileR ks0 (ev d1) (ev d2) σ), fun σ => rl_f⟩, d1.cs ++ d2.cs⟩
noncomputable def D.forx (ks0 : List String) (cell0 : Bool) (x0 : String) (d1 : D .s) (d2 : D .f) : D .f := ⟨⟨fun σ => (ev d1 σ).bind fun src σ => forR ks0 cell0 x0 src (ev d2) σ, fun σ => tB (et d1 σ) fun src σ => tF (forR ks0 cell0 x0 src (ev d2) σ), fun σ => rl_b (q0m d1 σ) fun _ _ => rl_f⟩, d1.cs ++ d2.cs⟩
noncomputable def D.expr (d1 : D .v) : D .f := ⟨⟨fun σ => (ev d1 σ).bind dropN, fun σ => tB (et d1 σ) fun v σ => match v with | .none => tok .next σ | _ => tno, fun σ => rl_b (q0m d1 σ) fun v σ => by cases v <;> first | exact q9l | exact q2b⟩, d1.cs⟩
noncomputable def D.setI (d1 d2 d3 : D .v) : D .f := ⟨⟨fun σ => (ev d1 σ).bind fun v σ => (ev d2 σ).bind fun a σ => (ev d3 σ).bind fun j σ => (putI v a j σ).bind fun _ σ => .ok .next σ, fun σ => tB (et d1 σ) fun v σ => tB (et d2 σ) fun a σ => tB (et d3 σ) fun j σ => tB (tU (putI v a j σ)) fun _ σ => tok .next σ, fun σ => rl_b (q0m d1 σ) fun _ σ => rl_b (q0m d2 σ) fun _ σ => rl_b (q0m d3 σ) fun _ _ => rl_b rl_u fun _ _ => q2b⟩, d1.cs ++ d2.cs ++ d3.cs⟩
noncomputable def D.setA (C0 : Addr) (name0 : Str) (d1 d2 : D .v) : D .f := ⟨⟨fun σ => (ev d1 σ).bind fun v σ => (ev d2 σ).bind fun a σ => (putA C0 name0 v a σ).bind fun _ σ => .ok .next σ, fun σ => tB (et d1 σ) fun v σ => tB (et d2 σ) fun a σ => tB (tU (putA C0 name0 v a σ)) fun _ σ => tok .next σ, fun σ => rl_b (q0m d1 σ) fun _ σ => rl_b (q0m d2 σ) fun _ _ => rl_b rl_u fun _ _ => q2b⟩, d1.cs ++ d2.cs⟩
noncomputable def D.augA (C0 : Addr) (name0 : Str) (d1 d2 : D .v) : D .f := ⟨⟨fun σ => (ev d1 σ).bind fun a σ => (ores (q6m C0 name0 σ.hp a) σ).bind fun old σ => (ev d2 σ).bind fun v σ => (ores (addI old v) σ).bind fun w σ => (putA C0 name0 w a σ).bind fun _ σ => .ok .next σ, fun σ => tB (et d1 σ) fun a σ => tV (q6m C0 name0 σ.hp a) fun old => tB (et d2 σ) fun v σ => tO (addI old v) fun w => tB (tU (putA C0 name0 w a σ)) fun _ σ => tok .next σ, fun σ => rl_b (q0m d1 σ) fun _ σ => rl_vO fun _ => rl_b (q0m d2 σ) fun _ σ => rl_oO fun _ => rl_b rl_u fun _ _ => q2b⟩, d1.cs ++ d2.cs⟩
noncomputable def D.raise (C0 : Addr) (d1 : D .l) : D .f := ⟨⟨fun σ => (ev d1 σ).bind fun vs σ => j7a C0 vs σ, fun σ => tB (et d1 σ) fun vs σ => match vs with | [v] => fun tp ks => some (.ex C0 v σ, tp, ks) | _ => tno, fun σ => rl_b (q0m d1 σ) fun vs σ => by match vs with | [] => exact q9l | [v] => exact rl_of _ rfl rfl | _ :: _ :: _ => exact q9l⟩, d1.cs⟩
noncomputable def D.tryC (C10 : Addr) (C20 : Addr) (n0 : String) (d1 : D .f) : D .f := ⟨⟨fun σ => q5y C10 C20 n0 (ev d1 σ), fun σ => tX (et d1 σ) fun C m σ => bif Nat.beq C C10 && (σ.get n0).isNone && notB m then fun tp ks => some (.ex C20 m σ, tp, ks) else tno, fun σ => rl_x (q0m d1 σ) (q5y C10 C20 n0) (fun _ _ => rfl) rfl fun _ _ _ => rl_tryC⟩, d1.cs⟩
noncomputable def D.tryN (C0 : Addr) (d1 : D .f) : D .f := ⟨⟨fun σ => q4o C0 (ev d1 σ), fun σ => tX (et d1 σ) fun C' m σ => bif Nat.beq C' C0 then tok (.ret .none) σ else tno, fun σ => rl_x (q0m d1 σ) (q4o C0) (fun _ _ => rfl) rfl fun _ _ _ => rl_tryN⟩, d1.cs⟩
noncomputable def D.bad : D .f := ⟨⟨fun _ => .bad, fun _ => tno, fun σ => q9l⟩, []⟩
theorem tape {t : Ty} {d : D t} {σ : St} (fs : List Fact) {r : Res t.C} (h : et d σ (fs.map Fact.o) [] = some (r, [], (fs.map Fact.k).reverse)) : ev d σ = r := by
 obtain ⟨n, h1, h2, h3⟩ := q0m d σ _ _ _ _ _ h
 rw [List.append_nil] at h1 h2
 refine h3 fun p hp => ?_
 have h2 := List.reverse_inj.mp h2
 obtain ⟨i, hi, rfl⟩ := List.getElem_of_mem hp
 have hl : i < fs.length := by have := congrArg List.length h1; simp only [List.length_map] at this; omega
 have e1 : fs[i].o = n[i].2 := by have := congrArg (·[i]?) h1; simpa [hi, hl] using this
 have e2 : fs[i].k = n[i].1 := by have := congrArg (·[i]?) h2; simpa [hi, hl] using this
 rw [← e1, ← e2]
 exact fs[i].h
end
section
open Builtin
noncomputable abbrev KK : Params → Frag := Mi.h0.heap_1
noncomputable def q5g (K : Frag) (a : Addr) : List Stmt := match K.lookup a with
 | some o => match o.data with
   | .func fd => match fd.body with
     | .stmts b => b
     | _ => []
   | _ => []
 | none => []
noncomputable def j2y : Stmt → Expr | .If t _ _ _ => t | _ => .Constant .none 0 ⟨0, 0, 0, 0⟩
noncomputable def forBody : Stmt → List Stmt | .For _ _ b _ _ => b | _ => []
noncomputable def stAt (b : List Stmt) (i : Nat) : Stmt := b.getD i (.Pass ⟨0, 0, 0, 0⟩)
noncomputable def boolAt (i : Nat) : Expr → Expr | .BoolOp _ es _ => es.getD i (.Constant .none 0 ⟨0, 0, 0, 0⟩) | e => e
noncomputable def cmpL : Expr → Expr | .Compare l _ _ _ => l | e => e
noncomputable def arg0 : Expr → Expr | .Call _ (a :: _) _ _ => a | e => e
noncomputable def asgV : Stmt → Expr | .Assign _ v _ => v | _ => .Constant .none 0 ⟨0, 0, 0, 0⟩
noncomputable def retE : Stmt → Expr | .Return (some e) _ => e | _ => .Constant .none 0 ⟨0, 0, 0, 0⟩
noncomputable def lamE : Expr → Expr × Scope | .Lambda _ b s _ => (b, s) | e => (e, ⟨.module, [], false, false, []⟩)
noncomputable def lamsOf (K : Frag) : List Expr := [
 arg0 (cmpL (boolAt 1 (j2y (stAt (forBody (stAt (q5g K 475) 1)) 0)))),
 arg0 (cmpL (j2y (stAt (q5g K 475) 2))),
 arg0 (cmpL (retE (stAt (q5g K 475) 5))),
 arg0 (asgV (stAt (q5g K 501) 6)),
 arg0 (cmpL (boolAt 0 (j2y (stAt (q5g K 506) 0)))),
 arg0 (cmpL (boolAt 1 (j2y (stAt (q5g K 506) 0)))),
 arg0 (cmpL (j2y (stAt (q5g K 506) 1))),
 arg0 (cmpL (boolAt 0 (j2y (stAt (q5g K 506) 4))))]
noncomputable def lamOf (K : Frag) (i : Nat) : Expr × Scope := lamE ((lamsOf K).getD i (.Constant .none 0 ⟨0, 0, 0, 0⟩))
structure U.Lm (u : U) : Prop where
 lam : u.lam = lamOf (KK u.w.params)
 tq : u.tq = fun a => if a = 472 then Str.ofString "_law_text_right.<locals>.<lambda>" else if a = 498 then Str.ofString "_law_matrix_right.<locals>.<lambda>" else Str.ofString "law.<locals>.<lambda>"
structure U.At (u : U) : Prop where
 ok : u.Ok
 K : u.K = KK u.w.params
 tbs : u.tbs = [498, 472, 503]
 pl : u.pl = fun a => a == 51
 big : sysModules < u.B.objs.size
 lm : u.Lm
variable {u : U}
theorem U.At.get (h : u.At) {a : Addr} {o : Obj} (e : (KK u.w.params).lookup a = some o) : u.B.get? a = some o := h.ok.X a o (by rw [h.K]; exact e)
theorem U.At.glob (h : u.At) {x : Str} {v : Option Value} (e : nsIn (KK u.w.params) mainGlobals x = some v) : nsIn u.K mainGlobals x = some v := by rw [h.K]; exact e
theorem U.At.code (h : u.At) {cd : Value} {q : Str} (e : codeIn (KK u.w.params) cd q = true) : u.B.CodeRec cd q := codeRec_of h.ok.X (by rw [h.K]; exact e)
theorem CallOk.to {f : Value} {n m : Nat} {fn fn' : Fn} (h : CallOk u f n fn) (hn : n ≤ m) (e : ∀ vs H, fn' vs H ≠ .bad → fn vs H = fn' vs H) : CallOk u f m fn' := by
 intro c ok hr W σ s rs vs i hrs
 by_cases hb : fn' vs σ.hp = .bad
 · simp only [hb]; trivial
 · have := h c ok (by omega) W σ s rs vs i hrs
   dsimp only at this ⊢
   rw [e vs σ.hp hb] at this
   exact this
theorem CodeOk.to {f : Value} {n m : Nat} {fn fn' : Fn} (h : CodeOk u f n fn) (hn : n ≤ m) (e : ∀ vs H, fn' vs H ≠ .bad → fn vs H = fn' vs H) : CodeOk u f m fn' := by
 intro c ok hr W σ s rs vs i hrs
 by_cases hb : fn' vs σ.hp = .bad
 · rw [hb]; exact fun h => absurd rfl h
 · have := h c ok (by omega) W σ s rs vs i hrs
   rw [e vs σ.hp hb] at this
   exact this
theorem q1d {s : Shared} {fd : FuncData} {xs : List Str} {k : Nat} (h : ∀ rs : List Value, rs.length = k → bindArgs fd ⟨rs, []⟩ = pure (xs.zip rs)) : ∀ rs : List Value, rs.length = k → BindsTo s fd ⟨rs, []⟩ (xs.zip (rs ++ [])) :=
 fun rs hr => by rw [List.append_nil]; exact BindsTo.of_eq (h rs hr)
theorem all0 {P : List Value → Prop} (h : P []) : ∀ rs, rs.length = 0 → P rs := fun rs e => by rw [List.eq_nil_of_length_eq_zero e]; exact h
theorem allS {P : List Value → Prop} {n : Nat} (h : ∀ a, ∀ rs, rs.length = n → P (a :: rs)) : ∀ rs, rs.length = n + 1 → P rs := fun rs e => by
 cases rs with
 | nil => cases e
 | cons a rs => exact h a rs (Nat.succ.inj e)
theorem all1 {P : List Value → Prop} (h : ∀ a, P [a]) : ∀ rs, rs.length = 1 → P rs := allS fun a => all0 (h a)
theorem all2 {P : List Value → Prop} (h : ∀ a b, P [a, b]) : ∀ rs, rs.length = 2 → P rs := allS fun a => all1 (h a)
theorem all3 {P : List Value → Prop} (h : ∀ a b d, P [a, b, d]) : ∀ rs, rs.length = 3 → P rs := allS fun a => all2 (h a)
theorem all4 {P : List Value → Prop} (h : ∀ a b d e, P [a, b, d, e]) : ∀ rs, rs.length = 4 → P rs := allS fun a => all3 (h a)
theorem all7 {P : List Value → Prop} (h : ∀ a b d e f g i, P [a, b, d, e, f, g, i]) : ∀ rs, rs.length = 7 → P rs := allS fun a => allS fun b => allS fun d => all4 (h a b d)
theorem q0e {c : Cx} {sc : Scope} {x : String} (h : c.env.scope = sc) (e : sc.names.lookup (Str.ofString x) = some .local) : q1o c x := q1y h e
theorem swapped_is {ts : List Expr} {v : Expr} {e : Env} {sc : Scope} {r : Sem (Option (List Str))} (h : e.scope = sc) (k : swappedStores ts v { e with scope := sc } = r) : swappedStores ts v e = r := by rw [← k]; cases e; cases h; rfl
noncomputable def bigN : Nat := 10 ^ 400
noncomputable def q0g (g : List V → Option V) : Fn := fun vs H => if H.all (q0b H.length) then match g vs with
 | some v => .ok v ⟨[], H⟩
 | none => .bad
 else .bad
theorem j4l {f : Value} {n m : Nat} {fn : Fn} {g : List V → Option V} (h : CallOk u f n fn) (hn : n ≤ m) (e : ∀ vs H v, H.all (q0b H.length) = true → g vs = some v → fn vs H = .ok v ⟨[], H⟩) : CallOk u f m (q0g g) :=
 h.to hn fun vs H hb => by
   unfold q0g at hb ⊢
   split at hb
   · rename_i hH
     cases hg : g vs with
     | none => rw [hg] at hb; exact absurd rfl hb
     | some v => rw [e vs H v hH hg, if_pos hH]
   · exact absurd rfl hb
theorem q1n {a b : Int} : cmp .Lt (.int a) (.int b) = some (decide (a < b)) := rfl
theorem q1c {a b : Int} : cmp .Gt (.int a) (.int b) = some (decide (b < a)) := rfl
theorem cmp_ge {a b : Int} : cmp .GtE (.int a) (.int b) = some (decide (b ≤ a)) := rfl
theorem q0t {a b : Int} : cmp .Eq (.int a) (.int b) = some (decide (a = b)) := rfl
theorem q7x {a b : Int} : cmp .NotEq (.int a) (.int b) = some (!decide (a = b)) := rfl
theorem q0c {a b : List Nat} : cmp .Eq (.str a) (.str b) = some (decide (a = b)) := rfl
theorem q1m {a b : List Nat} : cmp .NotEq (.str a) (.str b) = some (!decide (a = b)) := rfl
theorem q1i {H : List AO} {a b : Int} (h : small a = true ∨ small b = true) : bin H .Mult (.int a) (.int b) = some (.int (a * b)) := by
 show (if mulB a b = true then _ else _) = _
 rw [if_pos (by unfold mulB; rcases h with h | h <;> simp [h])]
theorem bin_mulB {H : List AO} {a b : Int} (h1 : a.natAbs.log2 < 9000) (h2 : b.natAbs.log2 < 9000) : bin H .Mult (.int a) (.int b) = some (.int (a * b)) := by
 show (if mulB a b = true then _ else _) = _
 rw [if_pos (by unfold mulB; simp [h1, h2])]
theorem q2l {H : List AO} {a b : Int} (h : 0 < b) : bin H .Mod (.int a) (.int b) = some (.int (a % b)) := if_pos h
theorem j7p {b : Nat} (h : b < bigN) : b.log2 < 9000 := by
 by_cases h0 : b = 0
 · subst h0; decide
 · exact (Nat.log2_lt h0).mpr (Nat.lt_trans h (by unfold bigN; decide +kernel))
theorem q3v {H : List AO} {a b : Int} (h : 0 < b) (h2 : b.natAbs < bigN) : bin H .FloorDiv (.int a) (.int b) = some (.int (a / b)) := by
 exact q0l (k := some _) ⟨h, j7p h2⟩
theorem q0d {g : List V → Option V} {vs : List V} {v : V} {H : List AO} (hH : H.all (q0b H.length) = true) (h : g vs = some v) : q0g g vs H = .ok v ⟨[], H⟩ := by
 unfold q0g
 rw [if_pos hH, h]
theorem name_abs {c : Cx} (uo : u.At) (ok : c.Ok) {p : Pos} (hk : c.env.kindOf (Str.ofString "abs") = some .globalImplicit) : SE u c (.Name (Str.ofString "abs") p) (fun σ => .ok (.val (.builtin "abs")) σ) :=
 j0o uo.ok ok hk (uo.glob rfl) rfl (by decide) (by decide)
theorem q1h {c : Cx} (uo : u.At) (ok : c.Ok) {p : Pos} (hk : c.env.kindOf (Str.ofString "len") = some .globalImplicit) : SE u c (.Name (Str.ofString "len") p) (fun σ => .ok (.val (.builtin "len")) σ) :=
 j0o uo.ok ok hk (uo.glob rfl) rfl (by decide) (by decide)
theorem j0e {c : Cx} (uo : u.At) (ok : c.Ok) {p : Pos} (hk : c.env.kindOf (Str.ofString "max") = some .globalImplicit) : SE u c (.Name (Str.ofString "max") p) (fun σ => .ok (.val (.builtin "max")) σ) :=
 j0o uo.ok ok hk (uo.glob rfl) rfl (by decide) (by decide)
theorem j4v {c : Cx} (uo : u.At) (ok : c.Ok) {p : Pos} (hk : c.env.kindOf (Str.ofString "min") = some .globalImplicit) : SE u c (.Name (Str.ofString "min") p) (fun σ => .ok (.val (.builtin "min")) σ) :=
 j0o uo.ok ok hk (uo.glob rfl) rfl (by decide) (by decide)
theorem name_int {c : Cx} (uo : u.At) (ok : c.Ok) {p : Pos} (hk : c.env.kindOf (Str.ofString "int") = some .globalImplicit) : SE u c (.Name (Str.ofString "int") p) (fun σ => .ok (.val (.type "int")) σ) :=
 j0o uo.ok ok hk (uo.glob rfl) rfl (by decide) (by decide)
theorem j7h {c : Cx} (uo : u.At) (ok : c.Ok) {p : Pos} (hk : c.env.kindOf (Str.ofString "list") = some .globalImplicit) : SE u c (.Name (Str.ofString "list") p) (fun σ => .ok (.val (.type "list")) σ) :=
 j0o uo.ok ok hk (uo.glob rfl) rfl (by decide) (by decide)
theorem q2r {c : Cx} (uo : u.At) (ok : c.Ok) {p : Pos} (hk : c.env.kindOf (Str.ofString "range") = some .globalImplicit) : SE u c (.Name (Str.ofString "range") p) (fun σ => .ok (.val (.type "range")) σ) :=
 j0o uo.ok ok hk (uo.glob rfl) rfl (by decide) (by decide)
end
section
open Builtin
variable {u : U} {c : Cx}
noncomputable def Turn (t : St → Res Bool) (g : St → Res V) (d : Nat) (K : St → Prop) (σ : St) : Prop := ∃ b σ1, t σ = .ok b σ1 ∧ (if b = true then ∃ y σ2 r σ3, g σ1 = .ok y σ2 ∧ q5h y d σ2 = .ok r σ3 ∧ K σ3 else K σ1)
theorem comp_q {src : Src} {x : String} {t : St → Res Bool} {g : St → Res V} {d : Nat} (L : List V) (P : Nat → St → Prop) (hn : ∀ k σ, P k σ → q4d src σ.hp k = some (L[k]?))
   (hs : ∀ k σ v, P k σ → L[k]? = some v → Turn t g d (P (k + 1)) (σ.set x v)) :
   ∀ fuel k σ, k ≤ L.length → L.length < fuel + k → P k σ → ∃ σ', q9t src x t g d fuel k σ = .ok () σ' ∧ P L.length σ' := by
 intro fuel
 induction fuel with
 | zero => intro k σ hk hf; exact absurd hf (Nat.not_lt.mpr (by rw [Nat.zero_add]; exact hk))
 | succ fuel ih =>
   intro k σ hk0 hf hp
   change ∃ σ', Option.casesOn (motive := fun _ => Res Unit) (q4d src σ.hp k) _ _ = _ ∧ _
   rw [hn k σ hp]
   cases hk : L[k]? with
   | none =>
     cases Nat.le_antisymm hk0 (List.getElem?_eq_none_iff.mp hk)
     exact ⟨σ, rfl, hp⟩
   | some v =>
     have hlt := (List.getElem?_eq_some_iff.mp hk).1
     obtain ⟨b, σ1, h1, h2⟩ := hs k σ v hp hk
     change ∃ σ', okB (t (σ.set x v)) _ = _ ∧ _
     rw [h1]
     cases b with
     | false =>
       rw [if_neg (by decide)] at h2
       exact ih (k + 1) σ1 hlt (by omega) h2
     | true =>
       rw [if_pos rfl] at h2
       obtain ⟨y, σ2, r, σ3, q1, q2, q3⟩ := h2
       change ∃ σ', okB (g σ1) _ = _ ∧ _
       rw [q1]
       change ∃ σ', okB (q5h y d σ2) _ = _ ∧ _
       rw [q2]
       exact ih (k + 1) σ3 hlt (by omega) q3
noncomputable def rngL (a b : Int) : List V := (List.range (b - a).toNat).map fun i : Nat => .int (a + i)
theorem q6t {a b : Int} {H : List AO} {k : Nat} : q4d (.rng a b) H k = some ((rngL a b)[k]?) := by
 show some (if a + (k : Int) < b then some (V.int (a + k)) else none) = _
 unfold rngL
 rw [List.getElem?_map]
 by_cases h : a + k < b
 · rw [if_pos h, List.getElem?_range (by omega)]; rfl
 · rw [if_neg h, List.getElem?_eq_none (by simp; omega)]; rfl
theorem q9z {a b : Int} : (rngL a b).length = (b - a).toNat := by simp [rngL]
noncomputable def xF (g : List V → Option (V ⊕ (Addr × V))) : Fn := fun vs H => if H.all (q0b H.length) then match g vs with
 | some (.inl v) => .ok v ⟨[], H⟩
 | some (.inr (C, m)) => .ex C m ⟨[], H⟩
 | none => .bad
 else .bad
noncomputable def xR (H : List AO) : V ⊕ (Addr × V) → Res V
 | .inl v => .ok v ⟨[], H⟩
 | .inr (C, m) => .ex C m ⟨[], H⟩
theorem q6k {g : List V → Option (V ⊕ (Addr × V))} {vs : List V} {v : V ⊕ (Addr × V)} {H : List AO} (hH : H.all (q0b H.length) = true) (h : g vs = some v) : xF g vs H = xR H v := by
 unfold xF
 rw [if_pos hH, h]
 rcases v with v | ⟨C, m⟩ <;> rfl
theorem xF_to {f : Value} {n m : Nat} {fn : Fn} {g : List V → Option (V ⊕ (Addr × V))} (h : CallOk u f n fn) (hn : n ≤ m) (e : ∀ vs H v, H.all (q0b H.length) = true → g vs = some v → fn vs H = xR H v) : CallOk u f m (xF g) :=
 h.to hn fun vs H hb => by
   unfold xF at hb ⊢
   split at hb
   · rename_i hH
     cases hg : g vs with
     | none => rw [hg] at hb; exact absurd rfl hb
     | some v =>
       rw [e vs H v hH hg, if_pos hH]
       rcases v with v | ⟨C, m⟩ <;> rfl
   · exact absurd rfl hb
theorem all_app {H E : List AO} : (H ++ E).take H.length = H := by simp
theorem q8l {H E : List AO} {v w : V} {σ : St} (hH : H.all (q0b H.length) = true) (h : σ.hp = H ++ E) (ho : outV H.length (H ++ E) v = some w) : finR H.length (.ok (.ret v) σ) = .ok w ⟨[], H⟩ := by
 unfold finR
 dsimp only [flV]
 rw [h, ho, all_app]
 exact if_pos hH
theorem j5f {H : List AO} {v w : V} {σ : St} (hH : H.all (q0b H.length) = true) (h : σ.hp = H) (ho : outV H.length H v = some w) : finR H.length (.ok (.ret v) σ) = .ok w ⟨[], H⟩ :=
 q8l (E := []) hH (by rw [List.append_nil]; exact h) (by rw [List.append_nil]; exact ho)
theorem fin_x {H E : List AO} {m : V} {C : Addr} {σ : St} (hH : H.all (q0b H.length) = true) (h : σ.hp = H ++ E) (ho : below H.length m = true) : finR H.length (.ex C m σ) = .ex C m ⟨[], H⟩ := by
 unfold finR
 dsimp only
 rw [h, all_app, ho, hH]
 rfl
theorem fin_x0 {H : List AO} {m : V} {C : Addr} {σ : St} (hH : H.all (q0b H.length) = true) (h : σ.hp = H) (ho : below H.length m = true) : finR H.length (.ex C m σ) = .ex C m ⟨[], H⟩ :=
 fin_x (E := []) hH (by rw [List.append_nil]; exact h) ho
theorem j6t {n : Nat} (h : n < 100001) : small (n : Int) = true := decide_eq_true (by omega)
theorem or_p {α : Type} {a b : Option α} {x : α} (h : a = some x) : a.or b = some x := by rw [h]; rfl
theorem len_str {H : List AO} {l : List Nat} (h : l.length ≤ 100000) : lenV H [.str l] = some (.int l.length) := or_p (q0l h)
theorem q4z {H : List AO} {l : List Nat} {n k : Nat} (h : l.length ≤ 100000) (hk : l[n]? = some k) : q5a H (.str l) (.int (n : Int)) = some (.str [k]) := by
 have hlt := (List.getElem?_eq_some_iff.mp hk).1
 refine or_p ?_
 show ((ixOf (n : Int) l).map fun c => V.str [c]) = _
 unfold ixOf seqIndex?
 rw [q0l (j6t (by omega))]
 have h1 : (n : Int) < l.length := by omega
 have h2 : ¬ ((n : Int) < 0) := by omega
 simp [h1, h2, hk]
theorem j3k {d a : Nat} : bdOf d (.int (a : Int)) = some a := q0l (k := some _) (Int.natCast_nonneg a)
theorem slB_p {α β : Type} {l : List α} {lo hi : V} {k : List α → β} {a b : Nat} (h1 : bdOf 0 lo = some a) (h2 : bdOf l.length hi = some b) (h : l.length ≤ 100000) : slB l lo hi k = some (k (slL l a b)) := by
 unfold slB; rw [h1, h2]; exact q0l h
theorem j2n {H : List AO} {l : List Nat} {a b : Nat} (h : l.length ≤ 100000) : slV H (.str l) (.int (a : Int)) (.int (b : Int)) = some (.str (slL l a b)) := or_p (slB_p j3k j3k h)
theorem j3z {H : List AO} {l : List Nat} {a : Nat} (h : l.length ≤ 100000) : slV H (.str l) (.int (a : Int)) .none = some (.str (l.drop a)) :=
 or_p ((slB_p j3k rfl h).trans (by unfold slL; rw [List.take_length]))
theorem sl_strB {H : List AO} {l : List Nat} {b : Nat} (h : l.length ≤ 100000) : slV H (.str l) .none (.int (b : Int)) = some (.str (l.take b)) :=
 or_p ((slB_p rfl j3k h).trans (by unfold slL; rw [List.drop_zero]))
theorem in_str {k : Nat} {l : List Nat} : cmp .In (.str [k]) (.str l) = some (decide (k ∈ l)) := rfl
theorem nin_str {k : Nat} {l : List Nat} : cmp .NotIn (.str [k]) (.str l) = some (!decide (k ∈ l)) := rfl
theorem le_str {x y : List Nat} : cmp .LtE (.str x) (.str y) = some (!decide (y < x)) := rfl
theorem add_str {H : List AO} {x y : List Nat} (h : x.length + y.length ≤ 100000) : bin H .Add (.str x) (.str y) = some (.str (x ++ y)) := or_p (q0l h)
end
section
open Builtin
variable {u : U} {c : Cx}
theorem excK51 (uo : u.At) : ExcK u.K 51 35 := by
 rw [uo.K]
 exact ⟨fun h => h _ _ _ _ [.ref 38] _ _ _ _ _ _ _ _ _ _ rfl (by intro v hv; simp at hv; subst hv; exact ⟨_, rfl⟩), rfl, rfl, rfl⟩
theorem excK63 (uo : u.At) : ExcK u.K 63 35 := by
 rw [uo.K]
 exact ⟨fun h => h _ _ _ _ [.ref 38] _ _ _ _ _ _ _ _ _ _ rfl (by intro v hv; simp at hv; subst hv; exact ⟨_, rfl⟩), rfl, rfl, rfl⟩
theorem excG51 (uo : u.At) : ExcG u.K 51 "message" := by
 rw [uo.K]
 exact ⟨rfl, rfl, rfl, rfl, rfl⟩
theorem initK35 (uo : u.At) : InitK u 35 :=
 ⟨fun h => h _ _ _ _ _ _ (uo.get rfl) rfl rfl rfl (uo.code rfl) rfl rfl rfl (by decide) (fun _ _ => rfl) rfl rfl⟩
theorem keep51 (uo : u.At) : keepIn u.K (.ref 51) = true := by rw [uo.K]; rfl
theorem keep63 (uo : u.At) : keepIn u.K (.ref 63) = true := by rw [uo.K]; rfl
theorem pl51 (uo : u.At) : u.pl 51 = true := by rw [uo.pl]; rfl
theorem pl63 (uo : u.At) : u.pl 63 = false := by rw [uo.pl]; rfl
theorem glob51 (uo : u.At) : nsIn u.K mainGlobals (Str.ofString "NumberFault") = some (some (.ref 51)) := uo.glob rfl
theorem glob63 (uo : u.At) : nsIn u.K mainGlobals (Str.ofString "SheetFault") = some (some (.ref 63)) := uo.glob rfl
theorem q9p (uo : u.At) (ok : c.Ok) {p : Pos} (hk : c.env.kindOf (Str.ofString "NumberFault") = some .globalImplicit) : SE u c (.Name (Str.ofString "NumberFault") p) (fun σ => .ok (.val (.ref 51)) σ) :=
 q1v uo.ok ok hk (glob51 uo) (fun _ => .val _) (by decide)
theorem j0y (uo : u.At) (ok : c.Ok) {p : Pos} (hk : c.env.kindOf (Str.ofString "SheetFault") = some .globalImplicit) : SE u c (.Name (Str.ofString "SheetFault") p) (fun σ => .ok (.val (.ref 63)) σ) :=
 q1v uo.ok ok hk (glob63 uo) (fun _ => .val _) (by decide)
theorem sx_raise51 (uo : u.At) (ok : c.Ok) (hroom : 3 ≤ c.room) {np cpos pos : Pos} {es : List Expr} {fa : St → Res (List V)} (hk : c.env.kindOf (Str.ofString "NumberFault") = some .globalImplicit) (ha : SEs u c es fa) (hn : (starEach es c.env).all (!·.1) = true) :
   SX u c (.Raise (some (.Call (.Name (Str.ofString "NumberFault") np) es [] cpos)) none pos) (fun σ => (fa σ).bind fun vs σ => j7a 51 vs σ) :=
 sx_raise uo.ok ok hroom (excK51 uo) (initK35 uo) (keep51 uo) (q9p uo ok hk) ha hn
theorem sx_raise63 (uo : u.At) (ok : c.Ok) (hroom : 3 ≤ c.room) {np cpos pos : Pos} {es : List Expr} {fa : St → Res (List V)} (hk : c.env.kindOf (Str.ofString "SheetFault") = some .globalImplicit) (ha : SEs u c es fa) (hn : (starEach es c.env).all (!·.1) = true) :
   SX u c (.Raise (some (.Call (.Name (Str.ofString "SheetFault") np) es [] cpos)) none pos) (fun σ => (fa σ).bind fun vs σ => j7a 63 vs σ) :=
 sx_raise uo.ok ok hroom (excK63 uo) (initK35 uo) (keep63 uo) (j0y uo ok hk) ha hn
theorem sx_try51 (uo : u.At) (fn : c.Fn) (ok : c.Ok) (hroom : 3 ≤ c.room) {n : String} {np hp p np2 np3 ap cp rp : Pos} {body : List Stmt} {f : St → Res Fl} (hb : SB u c body f)
   (hk : c.env.kindOf (Str.ofString "NumberFault") = some .globalImplicit) (hnk : c.env.kindOf (Str.ofString n) = some .local) (hk2 : c.env.kindOf (Str.ofString "SheetFault") = some .globalImplicit)
   (hdn : (Str.ofString n == ("__debug__" : Str)) = false)
   (hes : starEach [.Attribute (.Name (Str.ofString n) np3) (Str.ofString "message") ap] c.env = [(false, eval (.Attribute (.Name (Str.ofString n) np3) (Str.ofString "message") ap) c.env)]) :
   SX u c (.Try body [.ExceptHandler (some (.Name (Str.ofString "NumberFault") np)) (some (Str.ofString n)) [.Raise (some (.Call (.Name (Str.ofString "SheetFault") np2) [.Attribute (.Name (Str.ofString n) np3) (Str.ofString "message") ap] [] cp)) none rp] hp] [] [] p) (fun σ => q5y 51 63 n (f σ)) :=
 sx_try_conv uo.ok fn ok (excK51 uo) (excK63 uo) (initK35 uo) hroom (excG51 uo) (pl51 uo) (pl63 uo) hb hk (glob51 uo) (by decide) hnk hk2 (glob63 uo) (by decide) hdn (keep63 uo) hes
theorem sx_try63 (uo : u.At) (fn : c.Fn) (ok : c.Ok) {np hp rp p cp : Pos} {kk : Nat} {body : List Stmt} {f : St → Res Fl} (hb : SB u c body f) (hk : c.env.kindOf (Str.ofString "SheetFault") = some .globalImplicit) :
   SX u c (.Try body [.ExceptHandler (some (.Name (Str.ofString "SheetFault") np)) none [.Return (some (.Constant .none kk cp)) rp] hp] [] [] p) (fun σ => q4o 63 (f σ)) :=
 sx_try_none uo.ok fn ok (excK63 uo) hb hk (glob63 uo) (by decide)
theorem st_name {x : Str} {p : Pos} {f : St → Res V} (h : SE u c (.Name x p) f) : ST u c (.Name x p) (fun σ => (f σ).bind fun v σ => ores (tru v) σ) := st_val h fun _ => rfl
theorem st_call {e : Expr} {es : List Expr} {p : Pos} {f : St → Res V} (h : SE u c (.Call e es [] p) f) : ST u c (.Call e es [] p) (fun σ => (f σ).bind fun v σ => ores (tru v) σ) := st_val h fun _ => rfl
theorem se_lower {o : Expr} {apos pos : Pos} {f : St → Res V} (ho : SE u c o f) (hbase : attributeBase o (Str.ofString "lower") c.env (eval o c.env) = eval o c.env) (hline : (apos.endLine == pos.line) = true) :
   SE u c (.Call (.Attribute o (Str.ofString "lower") apos) [] [] pos) (fun σ => (f σ).bind fun a σ => onS a fun l => (Res.ok [] σ).bind fun vs σ => ores (lowerV l vs) σ) :=
 q9x F.slot_str_lower rfl ho q5n hbase rfl hline rfl fun W σ s l t rs vs v i hr h => lower_ok i hr h
theorem se_index {o e : Expr} {apos pos : Pos} {f g : St → Res V} (ho : SE u c o f) (he : SE u c e g) (hbase : attributeBase o (Str.ofString "index") c.env (eval o c.env) = eval o c.env) (hline : (apos.endLine == pos.line) = true)
   (hes : starEach [e] c.env = [(false, eval e c.env)]) (hfew : ((backTo pos (starEach [e] c.env)).all (fun x => !x.1) && (backToKw pos (keywordEach [] c.env)).all (fun x => x.1.isSome) && decide ([e].length + ([] : List Keyword).length + (if ([] : List Keyword).isEmpty then 0 else 1) < 30)) = true) :
   SE u c (.Call (.Attribute o (Str.ofString "index") apos) [e] [] pos) (fun σ => (f σ).bind fun a σ => onS a fun l => ((g σ).bind fun v σ => (Res.ok [] σ).bind fun vs σ => .ok (v :: vs) σ).bind fun vs σ => ores (indexV l vs) σ) :=
 q9x F.slot_str_index rfl ho (q4r he q5n hes) hbase hfew hline (by rw [hes]; rfl) fun W σ s l t rs vs v i hr h => index_ok i hr h
end
section
open Builtin
variable {u : U} {c : Cx}
theorem q3w {a b : Bool} (h : a = true) (h' : b = true) : (a && b) = true := by rw [h, h']; rfl
noncomputable def relab (S scope : Scope) : Scope := { scope with names := scope.names.map fun p => if (p.2 == .free && S.kind == .function && S.names.lookup p.1 == some .cell) then (p.1, .cell) else p }
theorem rel_is {S scope : Scope} (h : c.env.scope = S) : relabel scope c.env = relab S scope := by subst h; rfl
theorem j1n {α : Type} {p q : α → Bool} {l : List α} (h : ∀ x, p x = true → q x = true) (e : l.all p = true) : l.all q = true := List.all_eq_true.mpr fun x hx => h x (List.all_eq_true.mp e x hx)
theorem imp_and {a b d e : Bool} (h : a = true → d = true) (h' : b = true → e = true) (q : (a && b) = true) : (d && e) = true := by
 cases a
 · cases q
 · cases b
   · cases q
   · rw [h rfl, h' rfl]; rfl
theorem or_beq {α : Type} [BEq α] [LawfulBEq α] {a b d : α} (h : (a == b || a == d) = true) : a = b ∨ a = d := (Bool.or_eq_true_iff.mp h).imp eq_of_beq eq_of_beq
theorem q2h {S scope : Scope} {x : String} {fs : List String} (h : c.env.scope = S) (h1 : scope.kind = .function) (h2 : (relab S scope).names.lookup (Str.ofString x) = some .local)
   (h3 : (scope.names.all fun y => !(y.2 == .local) || (scope.names.lookup y.1 == some .local)) = true) (h4 : (scope.names.all fun y => y.2 != .cell) = true)
   (h5 : scope.names.filter (·.2 == .free) = fs.map fun n => (Str.ofString n, NameKind.free)) (h6 : (fs.all fun n => S.names.lookup (Str.ofString n) == some .cell || S.names.lookup (Str.ofString n) == some .free) = true)
   (h7 : (fs.all fun n => (relab S scope).names.lookup (Str.ofString n) != some .local) = true) : q8e c scope (relab S scope) x fs :=
 ⟨rel_is h, h1, h2, fun y hy hl => by
   have := List.all_eq_true.mp h3 y hy
   rw [hl] at this
   exact eq_of_beq this, fun y hy => bne_iff_ne.mp (List.all_eq_true.mp h4 y hy), h5, fun n hn => (or_beq (List.all_eq_true.mp h6 n hn)).imp (q1y h) (q1y h), fun n hn => bne_iff_ne.mp (List.all_eq_true.mp h7 n hn)⟩
theorem q8t {n m : Nat} (h : n ≤ m) {v : V} : below n v = true → below m v = true :=
 V.rec (motive_1 := fun v => below n v = true → below m v = true) (motive_2 := fun l => belows n l = true → belows m l = true) (motive_3 := fun l => belowF n l = true → belowF m l = true) (motive_4 := fun p => below n p.2 = true → below m p.2 = true)
   (fun _ => rfl) (fun _ _ => rfl) (fun _ _ => rfl) (fun _ _ => rfl) (fun _ i => i) (fun _ i => i) (fun _ _ i => i) (fun _ q => decide_eq_true (Nat.lt_of_lt_of_le (of_decide_eq_true q) h)) (fun _ _ => rfl)
   (fun _ _ => j1n fun _ q => decide_eq_true (Nat.lt_of_lt_of_le (of_decide_eq_true q) h)) (fun _ => rfl) (fun _ _ => imp_and) (fun _ => rfl) (fun _ _ => imp_and) (fun _ _ i => i) v
theorem q7b {n m : Nat} (h : n ≤ m) {l : List V} (q : belows n l = true) : belows m l = true := q8t (v := .lst l) h q
theorem q7c {n m : Nat} (h : n ≤ m) {x : AO} (q : q0b n x = true) : q0b m x = true := by
 cases x with
 | lst l => exact q7b h q
 | ins C fs => exact q8t (v := .ins C fs) h q
 | cell v => exact q8t h q
 | cell0 => rfl
theorem q3b {n : Nat} {l : List V} (h : ∀ v ∈ l, below n v = true) : belows n l = true := by
 induction l with
 | nil => rfl
 | cons v l ih => exact q3w (h v (.head _)) (ih fun w hw => h w (.tail _ hw))
theorem belows_left {n : Nat} {l m : List V} (h : belows n (l ++ m) = true) : belows n l = true := by
 induction l with
 | nil => rfl
 | cons v l ih => exact imp_and id ih h
theorem q1s {H E : List AO} (hH : H.all (q0b H.length) = true) (hE : E.all (q0b (H ++ E).length) = true) : (H ++ E).all (q0b (H ++ E).length) = true := by
 rw [List.all_append, hE, Bool.and_true]
 exact j1n (fun x => q7c (by rw [List.length_append]; exact Nat.le_add_right _ _)) hH
theorem compOut_is {H : List AO} {σ σ' : St} {l : List V} (hH : H.all (q0b H.length) = true) (h : σ.hp = H) (h' : σ'.hp = H ++ [.lst l]) (hl : belows H.length l = true) : j5w H.length σ (.ok () σ') = .ok (.lst l) σ := by
 show q1g σ (finR H.length (.ok (.ret (.obj H.length)) σ')) = _
 rw [q8l (w := .lst l) hH h' ?_]
 · subst h; rfl
 · refine (if_neg (Nat.lt_irrefl _)).trans ?_
   rw [List.getElem?_concat_length]
   exact (if_pos hl : q9r (belows H.length l) (.lst l) = _)
noncomputable def q0n (q : Nat → Bool) : Nat → Nat → Nat
 | b, 0 => b
 | b, n + 1 => if q b then q0n q (b + 1) n else b
theorem q3r (q : Nat → Bool) : ∀ n b, b ≤ q0n q b n
 | 0, b => Nat.le_refl _
 | n + 1, b => by
   unfold q0n
   split
   · have := q3r q n (b + 1); omega
   · exact Nat.le_refl _
theorem q5d (q : Nat → Bool) : ∀ n b, q0n q b n ≤ b + n
 | 0, b => Nat.le_refl _
 | n + 1, b => by
   unfold q0n
   split
   · have := q5d q n (b + 1); omega
   · omega
theorem q5u (q : Nat → Bool) : ∀ n b i, b ≤ i → i < q0n q b n → q i = true
 | 0, b, i, h1, h2 => by unfold q0n at h2; omega
 | n + 1, b, i, h1, h2 => by
   unfold q0n at h2
   split at h2
   · rename_i hq
     by_cases e : i = b
     · rw [e]; exact hq
     · exact q5u q n (b + 1) i (by omega) h2
   · omega
theorem minL_cons {a : Int} : ∀ {l : List Int}, l ≠ [] → minL (a :: l) = min a (minL l)
 | [], h => absurd rfl h
 | _ :: _, _ => rfl
theorem j7k (q : Nat → Bool) : ∀ n b, minL ((((List.range' b n).filter fun i => !q i).map fun i : Nat => (i : Int)) ++ [((b + n : Nat) : Int)]) = (q0n q b n : Int)
 | 0, b => by simp [q0n, minL]
 | n + 1, b => by
   have ih := j7k q n (b + 1)
   rw [List.range'_succ, List.filter_cons]
   unfold q0n
   rw [show b + 1 + n = b + (n + 1) by omega] at ih
   by_cases h : q b = true
   · rw [if_neg (by simp [h]), if_pos h]
     exact ih
   · have h' : q b = false := Bool.not_eq_true _ ▸ h
     rw [if_pos (by simp [h']), if_neg h, List.map_cons, List.cons_append, minL_cons (by simp), ih]
     have := q3r q n (b + 1)
     omega
theorem j6a : ∀ l : List Int, bigs (l.map V.int) = some l
 | [] => rfl
 | a :: l => by
   show (bigs (l.map V.int)).map (a :: ·) = _
   rw [j6a l]; rfl
theorem min_ints {H : List AO} {l : List Int} (h : l ≠ []) : minV H [.lst (l.map V.int)] = some (.int (minL l)) := by
 show (bigs (l.map V.int)).bind _ = _
 rw [j6a]
 exact q0l h
noncomputable def qV (q : Nat → Bool) : V → Bool
 | .int i => !q i.toNat
 | _ => false
theorem rng_ints {b n : Nat} : rngL (b : Int) ((b + n : Nat) : Int) = (List.range' b n).map fun i : Nat => .int (i : Int) := by
 unfold rngL
 rw [show (((b + n : Nat) : Int) - (b : Int)).toNat = n by omega, show List.range' b n = (List.range n).map (b + ·) from List.range'_eq_map_range, List.map_map]
 apply List.map_congr_left
 intro i _
 show V.int ((b : Int) + i) = V.int ((b + i : Nat) : Int)
 rw [Int.natCast_add]
theorem rng_filter {q : Nat → Bool} {b n : Nat} : (rngL (b : Int) ((b + n : Nat) : Int)).filter (qV q) = (((List.range' b n).filter fun i => !q i).map fun i : Nat => (i : Int)).map V.int := by
 rw [rng_ints, List.filter_map, List.map_map]
 rfl
theorem min_comp {H : List AO} {q : Nat → Bool} {b n : Nat} : minV H [.lst ((rngL (b : Int) ((b + n : Nat) : Int)).filter (qV q) ++ [.int ((b + n : Nat) : Int)])] = some (.int (q0n q b n)) := by
 rw [rng_filter, show [V.int ((b + n : Nat) : Int)] = [((b + n : Nat) : Int)].map V.int from rfl, ← List.map_append, min_ints (by simp), j7k]
theorem j6i {H : List AO} {l m : List V} (h : l.length + m.length ≤ 100000) : bin H .Add (.lst l) (.lst m) = some (.lst (l ++ m)) := q0l h
theorem max_nat {a b : Nat} : maxV [.int (a : Int), .int (b : Int)] = some (.int ((max a b : Nat) : Int)) := by
 show some (V.int (max (a : Int) (b : Int))) = _
 congr 2; omega
theorem rng_seq {a b : Nat} (h1 : a ≤ 100000) (h2 : b ≤ 100000) : rngV [.int (a : Int), .int (b : Int)] = some (.rng a b) := by
 exact q0l (k := some (Src.rng (a : Int) b)) ⟨Int.natCast_nonneg a, Int.ofNat_le.mpr h1, Int.natCast_nonneg b, Int.ofNat_le.mpr h2⟩
theorem lt_bigN {n : Nat} (h : n ≤ 100000) : n < bigN := Nat.lt_of_le_of_lt h (by unfold bigN; decide +kernel)
end
section
open Builtin
variable {u : U} {c : Cx}
noncomputable abbrev DE (u : U) (c : Cx) (e : Expr) (d : D .v) : Prop := SE u c e (ev d)
noncomputable abbrev DT (u : U) (c : Cx) (e : Expr) (d : D .b) : Prop := ST u c e (ev d)
noncomputable abbrev DL (u : U) (c : Cx) (es : List Expr) (d : D .l) : Prop := SEs u c es (ev d)
noncomputable abbrev DI (u : U) (c : Cx) (e : Expr) (d : D .s) : Prop := SI u c e (ev d)
noncomputable abbrev DX (u : U) (c : Cx) (st : Stmt) (d : D .f) : Prop := SX u c st (ev d)
noncomputable abbrev DB (u : U) (c : Cx) (b : List Stmt) (d : D .f) : Prop := SB u c b (ev d)
noncomputable abbrev DTs (u : U) (c : Cx) (op : BoolOp) (es : List Expr) (d : D .b) : Prop := STs u c op es (ev d)
noncomputable abbrev DVs (u : U) (c : Cx) (op : BoolOp) (es : List Expr) (d : D .v) : Prop := SVs u c op es (ev d)
noncomputable abbrev DO (u : U) (c : Cx) (e : Option Expr) (d : D .v) : Prop := SEo u c e (ev d)
noncomputable abbrev DLT (u : U) (c : Cx) (es : List Expr) (d : D .b) : Prop := STL u c es (ev d)
noncomputable abbrev NoSw (value : Expr) (tg : Option Expr) (p : Pos) (c : Cx) : Prop := swapsWith value tg p.line c.env = pure false
noncomputable abbrev NoSwS (tg : List Expr) (value : Expr) (p : Pos) (c : Cx) : Prop := swapsWithSole tg value p.line c.env = pure false
noncomputable abbrev Base (o : Expr) (name : Str) (c : Cx) : Prop := attributeBase o name c.env (eval o c.env) = eval o c.env
noncomputable abbrev q2a (es : List Expr) (c : Cx) : Prop := (starEach es c.env).all (!·.1) = true
noncomputable abbrev Few (es : List Expr) (pos : Pos) (c : Cx) : Prop := ((backTo pos (starEach es c.env)).all (fun x => !x.1) && (backToKw pos (keywordEach [] c.env)).all (fun x => x.1.isSome) && decide (es.length + ([] : List Keyword).length + (if ([] : List Keyword).isEmpty then 0 else 1) < 30)) = true
noncomputable abbrev KLoc (c : Cx) (x : String) (k : NameKind) : Prop := c.env.kindOf (Str.ofString x) = some k
theorem Inv.keepL {W : Wd} {σ : St} {s : Shared} (i : Inv u c W σ s) (ks : List String) : Inv u c W (keepL ks σ) s :=
 ⟨i.F, i.N, i.ap, fun x v h => i.loc x v (q5t h).2, i.hp, i.tb, i.frs, i.dic, i.gens, i.os⟩
section
variable {l r e : Expr} {es : List Expr} {op : Operator} {cop cop' : CmpOp} {p p' pos np apos : Pos} {a b d : D .v} {ds : D .l} {t t' : D .b} {s : D .s} {x y : D .f} {n m z : String} {k : Nat}
theorem q1l {i : Int} : DE u c (.Constant (.int i) k p) (.kv (.int i)) := se_int
theorem q3y {x : String} : DE u c (.Constant (.str (Str.ofString x)) k p) (.kv (.str (q0a x))) := se_str
theorem j1r : DE u c (.Constant .none k p) (.kv .none) := se_none
theorem d_bool {b : Bool} : DE u c (.Constant (.bool b) k p) (.kv (.bool b)) := se_bool
theorem q0f (ok : c.Ok) (hk : KLoc c n .local) (hd : (Str.ofString n == ("__debug__" : Str)) = false) : DE u c (.Name (Str.ofString n) p) (.nm n) := se_local ok hk hd
theorem d_cell (ok : c.Ok) (hk : KLoc c n .cell) (hd : (Str.ofString n == ("__debug__" : Str)) = false) : DE u c (.Name (Str.ofString n) p) (.cl n) := se_cell ok hk hd
theorem d_free (ok : c.Ok) (hk : KLoc c n .free) (hd : (Str.ofString n == ("__debug__" : Str)) = false) (hn : (Str.ofString n == ("__classdict__" : Str)) = false) : DE u c (.Name (Str.ofString n) p) (.cl n) := se_free ok hk hd hn
theorem d_un {uop : UnaryOp} (h : DE u c e a) : DE u c (.UnaryOp uop e p) (.un uop a) := se_un h
theorem q2g (hl : DE u c l a) (hr : DE u c r b) : DE u c (.BinOp l op r p) (.bin op a b) := se_bin hl hr
theorem j3b (ok : c.Ok) (hl : DE u c l a) (hr : DE u c r b) (hm : behindInMarks cop r = false) : DE u c (.Compare l [cop] [r] p) (.vcmp cop a b) := se_cmp ok hl hr hm
theorem j5q (ht : DT u c e t) (hb : DE u c l a) (ho : DE u c r b) : DE u c (.IfExp e l r p) (.ife t a b) := se_if ht hb ho
theorem q3l (h : DL u c es ds) : DE u c (.Tuple es k p) (.tup ds) := se_tup h
theorem j8i (h : DL u c es ds) : DE u c (.List es p) (.lst ds) := se_lst h
theorem d_lstT (h : DL u c es ds) : DE u c (.List es p) (.lstT ds) := se_lstT h
theorem q1x (hv : DE u c l a) (hi : DE u c r b) (hs : ∀ o i, subscripted r false o i = operate [o, i] (getItem o i)) : DE u c (.Subscript l r p) (.item a b) := se_item hv hi hs
theorem d_sl {lo hi : Option Expr} (hv : DE u c l a) (hl : DO u c lo b) (hh : DO u c hi d) : DE u c (.Subscript l (.Slice lo hi none p) p') (.sl a b d) := se_slice hv hl hh
theorem j5p : DO u c none (.kv .none) := seo_none
theorem q4g (h : DE u c e a) : DO u c (some e) a := seo_some h
theorem q5i (hx : SE u c (.Name (Str.ofString n) np) (fun σ => .ok (.val (.builtin "len")) σ)) (ha : DL u c es ds) (hn : q2a es c) : DE u c (.Call (.Name (Str.ofString n) np) es [] pos) (.bi lenV ds) := se_len hx ha hn
theorem d_abs (hx : SE u c (.Name (Str.ofString n) np) (fun σ => .ok (.val (.builtin "abs")) σ)) (ha : DL u c es ds) (hn : q2a es c) : DE u c (.Call (.Name (Str.ofString n) np) es [] pos) (.bi (fun _ => absV) ds) := se_abs hx ha hn
theorem d_max (ok : c.Ok) (hx : SE u c (.Name (Str.ofString n) np) (fun σ => .ok (.val (.builtin "max")) σ)) (ha : DL u c es ds) (hn : q2a es c) : DE u c (.Call (.Name (Str.ofString n) np) es [] pos) (.bi (fun _ => maxV) ds) := se_max ok hx ha hn
theorem d_min (ok : c.Ok) (hx : SE u c (.Name (Str.ofString n) np) (fun σ => .ok (.val (.builtin "min")) σ)) (ha : DL u c es ds) (hn : q2a es c) : DE u c (.Call (.Name (Str.ofString n) np) es [] pos) (.bi minV ds) := se_min ok hx ha hn
theorem d_toint (hx : SE u c (.Name (Str.ofString n) np) (fun σ => .ok (.val (.type "int")) σ)) (ha : DL u c es ds) (hn : q2a es c) : DE u c (.Call (.Name (Str.ofString n) np) es [] pos) (.bi (fun _ => intV) ds) := se_toint hx ha hn
theorem d_tolist (hx : SE u c (.Name (Str.ofString n) np) (fun σ => .ok (.val (.type "list")) σ)) (ha : DL u c es ds) (hn : q2a es c) : DE u c (.Call (.Name (Str.ofString n) np) es [] pos) (.bi listV ds) := se_tolist hx ha hn
theorem d_push (ho : DE u c l a) (he : DE u c r b) (hes : starEach [r] c.env = [(false, eval r c.env)]) (hbase : Base l (Str.ofString "append") c) (hline : (apos.endLine == pos.line) = true) :
 DE u c (.Call (.Attribute l (Str.ofString "append") apos) [r] [] pos) (.push a b) := se_push ho he hes hbase hline
theorem d_lower (ho : DE u c l a) (hbase : Base l (Str.ofString "lower") c) (hline : (apos.endLine == pos.line) = true) : DE u c (.Call (.Attribute l (Str.ofString "lower") apos) [] [] pos) (.sm lowerV a .nil) := se_lower ho hbase hline
theorem d_index (ho : DE u c l a) (he : DE u c r b) (hbase : Base l (Str.ofString "index") c) (hline : (apos.endLine == pos.line) = true) (hes : starEach [r] c.env = [(false, eval r c.env)]) (hfew : Few [r] pos c) :
 DE u c (.Call (.Attribute l (Str.ofString "index") apos) [r] [] pos) (.sm indexV a (.cons b .nil)) := se_index ho he hbase hline hes hfew
theorem d_vone (h : DE u c e a) : DVs u c .And [e] a := svs_one h
theorem d_vone' (h : DE u c e a) : DVs u c .Or [e] a := svs_one h
theorem d_vand (h : DE u c e a) (hs : DVs u c .And (l :: es) b) : DVs u c .And (e :: l :: es) (.vand a b) := svs_and h hs
theorem d_vor (h : DE u c e a) (hs : DVs u c .Or (l :: es) b) : DVs u c .Or (e :: l :: es) (.vor a b) := svs_or h hs
theorem q7w {bop : BoolOp} (h : DVs u c bop es a) : DE u c (.BoolOp bop es p) a := se_bool_op h
theorem q2z (ok : c.Ok) (hl : DE u c l a) (hr : DE u c r b) (hm : behindInMarks cop r = false) : DT u c (.Compare l [cop] [r] p) (.cmp cop a b) := st_cmp ok hl hr hm
theorem d_cmp2 (ok : c.Ok) (hl : DE u c l a) (hr : DE u c r b) (hr' : DE u c e d) (hm : lastMarks [cop, cop'] [r, e] = false) : DT u c (.Compare l [cop, cop'] [r, e] p) (.cmp2 cop cop' a b d) := st_cmp2 ok hl hr hr' hm
theorem d_not (h : DT u c e t) : DT u c (.UnaryOp .Not e p) (.not t) := st_not h
theorem q3s {bop : BoolOp} (h : DTs u c bop es t) : DT u c (.BoolOp bop es p) t := st_bool h
theorem d_tname (h : DE u c (.Name (Str.ofString n) p) a) : DT u c (.Name (Str.ofString n) p) (.tval a) := st_name h
theorem j5o (h : DE u c (.Call e es [] p) a) : DT u c (.Call e es [] p) (.tval a) := st_call h
theorem d_tsA : DTs u c .And [] (.tk true) := sts_nil
theorem d_tsO : DTs u c .Or [] (.tk false) := sts_nil
theorem j3c (h : DT u c e t) (hs : DTs u c .And es t') : DTs u c .And (e :: es) (.tand t t') := sts_and h hs
theorem d_tor (h : DT u c e t) (hs : DTs u c .Or es t') : DTs u c .Or (e :: es) (.tor t t') := sts_or h hs
theorem d_ltn : DLT u c [] (.tk true) := stl_nil
theorem d_lt1 (h : DT u c e t) : DLT u c [e] t := stl_one h
theorem q0w : DL u c [] .nil := q5n
theorem q0j (h : DE u c e a) (hs : DL u c es ds) (he : starEach (e :: es) c.env = (false, eval e c.env) :: starEach es c.env) : DL u c (e :: es) (.cons a ds) := q4r h hs he
theorem q9c (h : DE u c e a) : DI u c e (.sval a) := si_val h
theorem q9d (hx : SE u c (.Name (Str.ofString n) np) (fun σ => .ok (.val (.type "range")) σ)) (ha : DL u c es ds) (hn : q2a es c) : DI u c (.Call (.Name (Str.ofString n) np) es [] pos) (.srng ds) := si_range hx ha hn
theorem q7v (ok : c.Ok) (fs : List String) {iter : Expr} {px : Pos} {ifs : List Expr} {scope sc' : Scope} (hi : DI u c iter s) (K : q8e c scope sc' n fs) (hs : ∀ x, foldedSetIterable iter c.env x = pure x)
 (ht : ∀ c' : Cx, c'.Ok → c'.room = c.room → c'.env.scope = sc' → DLT u c' ifs t) (hg : ∀ c' : Cx, c'.Ok → c'.room = c.room → c'.env.scope = sc' → DE u c' e a) :
 DE u c (.ListComp e [⟨.Name (Str.ofString n) px, iter, ifs, 0⟩] scope pos) (.comp false fs n s t a) := se_comp ok hi K hs ht hg
theorem d_compT (ok : c.Ok) (fs : List String) {iter : Expr} {px : Pos} {ifs : List Expr} {scope sc' : Scope} (hi : DI u c iter s) (K : q8e c scope sc' n fs) (hs : ∀ x, foldedSetIterable iter c.env x = pure x)
 (ht : ∀ c' : Cx, c'.Ok → c'.room = c.room → c'.env.scope = sc' → DLT u c' ifs t) (hg : ∀ c' : Cx, c'.Ok → c'.room = c.room → c'.env.scope = sc' → DE u c' e a) :
 DE u c (.ListComp e [⟨.Name (Str.ofString n) px, iter, ifs, 0⟩] scope pos) (.comp true fs n s t a) := se_compT ok hi K hs ht hg
end
section
variable {l r e : Expr} {es : List Expr} {st : Stmt} {rest body els : List Stmt} {p p' p1 p2 p3 tp pos np : Pos} {a b d : D .v} {ds : D .l} {t : D .b} {s : D .s} {x y : D .f} {n m z : String} {k : Nat}
theorem q0i : DB u c [] .nxt := sb_nil
theorem q0v (h : DX u c st x) (hs : DB u c rest y) : DB u c (st :: rest) (.seq x y) := j4j h hs
theorem q3z (ht : DT u c e t) (hb : DB u c body x) (ho : DB u c els y) : DX u c (.If e body els p) (.ifx t x y) := sx_if ht hb ho
theorem q0x (h : DE u c e a) : DX u c (.Return (some e) p) (.ret a) := sx_ret h
theorem q3f (ok : c.Ok) (hv : DE u c e a) (hk : KLoc c n .local) (hs : NoSw e (some (.Name (Str.ofString n) p')) p c) : DX u c (.Assign [.Name (Str.ofString n) p'] e p) (.asg false n a) := j6q (cell := false) ok hv hk hs
theorem d_asgC (ok : c.Ok) (hv : DE u c e a) (hk : KLoc c n .cell) (hs : NoSw e (some (.Name (Str.ofString n) p')) p c) : DX u c (.Assign [.Name (Str.ofString n) p'] e p) (.asg true n a) := j6q (cell := true) ok hv hk hs
theorem d_aug (ok : c.Ok) (hv : DE u c e a) (hk : KLoc c n .local) : DX u c (.AugAssign (.Name (Str.ofString n) p') .Add e p) (.aug n a) := sx_aug ok hv hk
theorem q9a (ok : c.Ok) (hv : DE u c e a) (hx : q1o c n) (hy : q1o c m) (hs : NoSwS [.Tuple [.Name (Str.ofString n) p1, .Name (Str.ofString m) p2] k tp] e p c)
 (hw : swappedStores [.Tuple [.Name (Str.ofString n) p1, .Name (Str.ofString m) p2] k tp] e c.env = pure none) : DX u c (.Assign [.Tuple [.Name (Str.ofString n) p1, .Name (Str.ofString m) p2] k tp] e p) (.tupn [n, m] a) := sx_tup2 ok hv hx hy hs hw
theorem q4f (ok : c.Ok) (hv : DE u c e a) (hx : q1o c n) (hy : q1o c m) (hs : NoSwS [.Tuple [.Name (Str.ofString n) p1, .Name (Str.ofString m) p2] k tp] e p c)
 (hw : swappedStores [.Tuple [.Name (Str.ofString n) p1, .Name (Str.ofString m) p2] k tp] e c.env = pure (some [Str.ofString n, Str.ofString m])) : DX u c (.Assign [.Tuple [.Name (Str.ofString n) p1, .Name (Str.ofString m) p2] k tp] e p) (.tups [n, m] a) := sx_tup2s ok hv hx hy hs hw
theorem d_tup3 (ok : c.Ok) (hv : DE u c e a) (hx : q1o c n) (hy : q1o c m) (hz : q1o c z) (hs : NoSwS [.Tuple [.Name (Str.ofString n) p1, .Name (Str.ofString m) p2, .Name (Str.ofString z) p3] k tp] e p c)
 (hw : swappedStores [.Tuple [.Name (Str.ofString n) p1, .Name (Str.ofString m) p2, .Name (Str.ofString z) p3] k tp] e c.env = pure none) : DX u c (.Assign [.Tuple [.Name (Str.ofString n) p1, .Name (Str.ofString m) p2, .Name (Str.ofString z) p3] k tp] e p) (.tupn [n, m, z] a) := sx_tup3 ok hv hx hy hz hs hw
theorem d_tup3s (ok : c.Ok) (hv : DE u c e a) (hx : q1o c n) (hy : q1o c m) (hz : q1o c z) (hs : NoSwS [.Tuple [.Name (Str.ofString n) p1, .Name (Str.ofString m) p2, .Name (Str.ofString z) p3] k tp] e p c)
 (hw : swappedStores [.Tuple [.Name (Str.ofString n) p1, .Name (Str.ofString m) p2, .Name (Str.ofString z) p3] k tp] e c.env = pure (some [Str.ofString n, Str.ofString m, Str.ofString z])) : DX u c (.Assign [.Tuple [.Name (Str.ofString n) p1, .Name (Str.ofString m) p2, .Name (Str.ofString z) p3] k tp] e p) (.tups [n, m, z] a) := sx_tup3s ok hv hx hy hz hs hw
theorem d_whl (fn : c.Fn) (ok : c.Ok) (ks : List String) (ht : DT u c e t) (hb : DB u c body x) : DX u c (.While e body [] p) (.whl ks t x) := fun W σ s i => by
 have h : SX u c (.While e body [] p) (q7f (fun σ => ev t (keepL ks σ)) (ev x) bigW) := sx_while fn ok bigW (fun W σ s i => ht W _ s (i.keepL ks)) hb
 have := h W σ s i
 show Sim u c (q2m u) _ (whileR ks (ev t) (ev x) σ) W s
 unfold whileR
 exact this
theorem sim_keepR {ks : List String} {W : Wd} {sh : Shared} {t : Sem Flow} {r : Res Fl} (h : Sim u c (q2m u) t r W sh) : Sim u c (q2m u) t (j7t ks r) W sh := by
 cases r with
 | bad => trivial
 | ex C m σ => exact h
 | ok fl σ => exact wpAny_mono h (fun v s' ⟨W', e, i, r⟩ => ⟨W', e, i.keepL ks, r⟩) fun _ _ x => x
theorem d_for {cell : Bool} (fn : c.Fn) (ok : c.Ok) (ks : List String) (hi : DI u c e s) (hk : KLoc c n (if cell then .cell else .local)) (hb : DB u c body x) (hs : ∀ x, foldedSetIterable e c.env x = pure x) : DX u c (.For (.Name (Str.ofString n) p1) e body [] p) (.forx ks cell n s x) := fun W σ sh i => by
 have h : Sim u c (q2m u) (PySem.exec (.For (.Name (Str.ofString n) p1) e body [] p) c.env) ((ev s σ).bind fun src σ => forF src (q1k cell n) (fun σ => ev x (keepL (n :: ks) σ)) (q0z src σ.hp) 0 σ) W sh :=
   sx_for (g := fun σ => ev x (keepL (n :: ks) σ)) fn ok hi hk (fun W σ s i => hb W _ s (i.keepL _)) hs W σ sh i
 show Sim u c (q2m u) _ ((ev s σ).bind fun src σ => j7t ks (forF src (q1k cell n) (fun σ => ev x (keepL (n :: ks) σ)) (q0z src σ.hp) 0 σ)) W sh
 revert h
 cases ev s σ with
 | bad => intro _; trivial
 | ex C m σ => intro h; exact h
 | ok src σ => exact sim_keepR
theorem d_expr (ok : c.Ok) (h : DE u c e a) (hs : NoSw e none p c) : DX u c (.Expr e p) (.expr a) := sx_expr ok h hs
theorem d_setI (hv : DE u c e a) (ho : DE u c l b) (hk : DE u c r d) (hs : NoSwS [.Subscript l r tp] e p c) (hw : swappedStores [.Subscript l r tp] e c.env = pure none) : DX u c (.Assign [.Subscript l r tp] e p) (.setI a b d) := sx_setI hv ho hk hs hw
theorem q5w (uo : u.At) (ok : c.Ok) (hr : 3 ≤ c.room) (hk : c.env.kindOf (Str.ofString "NumberFault") = some .globalImplicit) (ha : DL u c es ds) (hn : q2a es c) : DX u c (.Raise (some (.Call (.Name (Str.ofString "NumberFault") np) es [] pos)) none p) (.raise 51 ds) := sx_raise51 uo ok hr hk ha hn
theorem j1q (uo : u.At) (ok : c.Ok) (hr : 3 ≤ c.room) (hk : c.env.kindOf (Str.ofString "SheetFault") = some .globalImplicit) (ha : DL u c es ds) (hn : q2a es c) : DX u c (.Raise (some (.Call (.Name (Str.ofString "SheetFault") np) es [] pos)) none p) (.raise 63 ds) := sx_raise63 uo ok hr hk ha hn
end
end
section
open Builtin
variable {u : U} {c : Cx}
noncomputable def j0w (fd : FuncData) : Bool := !fd.scope.isCoroutine && !fd.scope.isGenerator && fd.scope.kind == .function && fd.globals == mainGlobals && fd.builtins == builtinsNs
structure Df (n : Nat) (a : Addr) (k : Nat) (xs : List String) (ds : List Value) (dvs : List V) where
 d : D .f
 fo : Obj
 fd : FuncData
 body : List Stmt
 h1 : ∀ P, (KK P).lookup a = some fo
 h2 : fo.data = .func fd
 h3 : fd.body = .stmts body
 h4 : ∀ P, codeIn (KK P) fd.code fd.qualname = true
 h5 : (j0w fd && fd.scope.names.all fun x => x.2 != .cell) = true
 h6 : ∀ {u : U} (uo : u.At) (s : Shared), u.B.StaysIn s.heap → ∀ rs : List Value, rs.length = k → BindsTo s fd ⟨rs, []⟩ ((xs.map Str.ofString).zip (rs ++ ds))
 hd : ∀ {u : U} W, Reps u W ds dvs
 h7 : xs.Nodup
 h8 : ∀ x ∈ xs, fd.scope.names.lookup (Str.ofString x) = some .local
 H : ∀ {u : U} {c : Cx}, u.At → c.Ok → c.Fn → n ≤ c.room → c.env.scope = fd.scope → c.env.code = fd.code → c.env.qual = fd.qualname ++ ".<locals>." → DB u c body d
theorem Df.code {n : Nat} {a : Addr} {k : Nat} {xs : List String} {ds : List Value} {dvs : List V} (w : Df n a k xs ds dvs) (hn : 1 ≤ n) (uo : u.At) : CodeOk u (.ref a) (n + 1) (fun vs H => if vs.length = k then finR H.length (ev w.d ⟨xs.zip (vs ++ dvs), H⟩) else .bad) := by
 have h5 := w.h5
 simp only [j0w, Bool.and_eq_true, Bool.not_eq_true', beq_iff_eq, List.all_eq_true, bne_iff_ne] at h5
 obtain ⟨⟨⟨⟨⟨a1, a2⟩, a3⟩, a4⟩, a5⟩, a6⟩ := h5
 exact j3d uo.ok (uo.get (w.h1 _)) w.h2 w.h3 (uo.code (w.h4 _)) a1 a2 a3 a4 a5 a6 (w.h6 uo) w.hd w.h7 w.h8 hn fun c ok fn hr hs hc _ hq => w.H uo ok fn hr hs hc hq
theorem Df.ok {n : Nat} {a : Addr} {k : Nat} {xs : List String} {ds : List Value} {dvs : List V} (w : Df n a k xs ds dvs) (hn : 1 ≤ n) (uo : u.At) : CallOk u (.ref a) (n + 1) (fun vs H => if vs.length = k then finR H.length (ev w.d ⟨xs.zip (vs ++ dvs), H⟩) else .bad) := (w.code hn uo).call
theorem Df.pure {n m : Nat} {a : Addr} {k : Nat} {xs : List String} {ds : List Value} {dvs : List V} (w : Df n a k xs ds dvs) (hn : 1 ≤ n) (hm : n + 1 ≤ m) {g : List V → Option V}
   (e : ∀ vs H v, H.all (q0b H.length) = true → g vs = some v → vs.length = k ∧ finR H.length (ev w.d ⟨xs.zip (vs ++ dvs), H⟩) = .ok v ⟨[], H⟩) (uo : u.At) : CallOk u (.ref a) m (q0g g) :=
 j4l (w.ok hn uo) hm fun vs H v hH h => (if_pos (e vs H v hH h).1).trans (e vs H v hH h).2
section
variable {α β : Type} {x : α} {vs : List V} {v : V}
end
section
variable {α : Type} {o : Option V} {x : V} {p : Prop} [Decidable p]
noncomputable def fv (h : o = some x) : Fact := ⟨.v o, .v x, h⟩
noncomputable def fb {o : Option Bool} {x : Bool} (h : o = some x) : Fact := ⟨.b o, .b x, h⟩
noncomputable def fr {r x : Res V} (h : r = x) : Fact := ⟨.r r, .r x, h⟩
noncomputable def fu {r x : Res Unit} (h : r = x) : Fact := ⟨.u r, .u x, h⟩
noncomputable def fS {o : Option Src} {x : Src} (h : o = some x) : Fact := ⟨.s o, .s x, h⟩
noncomputable def fT {o : Option Bool} (e : o = some (decide p)) (h : p) : Fact := fb (e.trans (congrArg some (decide_eq_true h)))
noncomputable def fN {o : Option Bool} (e : o = some (decide p)) (h : ¬ p) : Fact := fb (e.trans (congrArg some (decide_eq_false h)))
noncomputable def gN {o : Option Bool} (e : o = some (!decide p)) (h : p) : Fact := fb (e.trans (congrArg (some !·) (decide_eq_true h)))
noncomputable def gT {o : Option Bool} (e : o = some (!decide p)) (h : ¬ p) : Fact := fb (e.trans (congrArg (some !·) (decide_eq_false h)))
end
noncomputable def j2e : Option (Res Fl × List Out × List Key) → Option (V × List AO × List Out × List Key)
 | some (.ok (.ret v) σ, tp, ks) => some (v, σ.hp, tp, ks)
 | _ => none
noncomputable def nextOf (xs : List String) : Option (Res Fl × List Out × List Key) → Option (St × List Out × List Key)
 | some (.ok .next σ, tp, ks) => some (keepL xs σ, tp, ks)
 | _ => none
theorem tret {d : D .f} {σ : St} (f : List Fact) {v : V} {H : List AO} (h : j2e (et d σ (f.map Fact.o) []) = some (v, H, [], (f.map Fact.k).reverse)) : ∃ l, ev d σ = .ok (.ret v) ⟨l, H⟩ := by
 cases e : et d σ (f.map Fact.o) [] with
 | none => rw [e] at h; cases h
 | some p =>
   obtain ⟨r, tp, ks⟩ := p
   rw [e] at h
   cases r with
   | ok fl σ' =>
     cases fl with
     | ret w =>
       injection h with h
       injection h with h1 h
       injection h with h2 h
       injection h with h3 h4
       subst h1 h2 h3 h4
       exact ⟨σ'.loc, tape f e⟩
     | next => cases h
   | ex => cases h
   | bad => cases h
theorem tnext {d : D .f} {σ : St} (xs : List String) (f : List Fact) {σk : St} (h : nextOf xs (et d σ (f.map Fact.o) []) = some (σk, [], (f.map Fact.k).reverse)) : ∃ σ', ev d σ = .ok .next σ' ∧ keepL xs σ' = σk := by
 cases e : et d σ (f.map Fact.o) [] with
 | none => rw [e] at h; cases h
 | some p =>
   obtain ⟨r, tp, ks⟩ := p
   rw [e] at h
   cases r with
   | ok fl σ' =>
     cases fl with
     | next =>
       injection h with h
       injection h with h2 h
       injection h with h3 h4
       subst h3 h4
       exact ⟨σ', tape f e, h2⟩
     | ret w => cases h
   | ex => cases h
   | bad => cases h
section
variable {a b r : D .f} {t : D .b} {σ σ1 : St} {J : Res Fl → Prop} {K : St → Prop} {v : V} {H : List AO} {ks : List String} {σk : St}
theorem j6w (h : ev a σ = .ok .next σ1) (k : J (ev b σ1)) : J (ev (.seq a b) σ) := by
 show J ((ev a σ).bind _)
 rw [h]; exact k
theorem q4j (σ1 : St) (f : List Fact) (h : et a σ (f.map Fact.o) [] = some (.ok .next σ1, [], (f.map Fact.k).reverse)) (k : J (ev b σ1)) : J (ev (.seq a b) σ) := j6w (tape f h) k
theorem q3h {d : D .b} {x : Bool} (f : List Fact) (h : et d σ (f.map Fact.o) [] = some (.ok x σ1, [], (f.map Fact.k).reverse)) : ev d σ = .ok x σ1 := tape f h
theorem j3u {d : D .v} {x : V} (f : List Fact) (h : et d σ (f.map Fact.o) [] = some (.ok x σ1, [], (f.map Fact.k).reverse)) : ev d σ = .ok x σ1 := tape f h
theorem q1j {d : D .f} {x : Res Fl} (f : List Fact) (h : et d σ (f.map Fact.o) [] = some (x, [], (f.map Fact.k).reverse)) : ev d σ = x := tape f h
noncomputable def AftS {α : Type} (ks : List String) (st : α → St) (I : α → Prop) (m : α → Nat) (n : Nat) (J : Res Fl → Prop) : Res Fl → Prop
 | .ok .next σ => ∃ x, keepL ks σ = st x ∧ I x ∧ m x < n
 | .ok (.ret v) σ => J (.ok (.ret v) σ)
 | .ex C m σ => J (.ex C m σ)
 | .bad => J .bad
section
variable {α : Type} {st : α → St} {I : α → Prop} {m : α → Nat} {n : Nat}
theorem q8u (f : List Fact) (h : j2e (et b σ (f.map Fact.o) []) = some (v, H, [], (f.map Fact.k).reverse)) (k : ∀ l, J (.ok (.ret v) ⟨l, H⟩)) : AftS ks st I m n J (ev b σ) := by
 obtain ⟨l, e⟩ := tret f h
 rw [e]; exact k l
theorem q3e (x : α) (f : List Fact) (h : nextOf ks (et b σ (f.map Fact.o) []) = some (st x, [], (f.map Fact.k).reverse)) (hI : I x) (hm : m x < n) : AftS ks st I m n J (ev b σ) := by
 obtain ⟨σ', e, hk⟩ := tnext ks f h
 rw [e]
 exact ⟨x, hk, hI, hm⟩
theorem aft_seq (σ1 : St) (f : List Fact) (h : et a σ (f.map Fact.o) [] = some (.ok .next σ1, [], (f.map Fact.k).reverse)) (k : AftS ks st I m n J (ev b σ1)) : AftS ks st I m n J (ev (.seq a b) σ) := q4j (J := AftS ks st I m n J) σ1 f h k
theorem aft_seqE (σ1 : St) (h : ev a σ = .ok .next σ1) (k : AftS ks st I m n J (ev b σ1)) : AftS ks st I m n J (ev (.seq a b) σ) := j6w (J := AftS ks st I m n J) h k
end
theorem q2d {w : V} {E : List AO} (hH : H.all (q0b H.length) = true) (f : List Fact) (h : j2e (et b σ (f.map Fact.o) []) = some (v, H ++ E, [], (f.map Fact.k).reverse)) (ho : outV H.length (H ++ E) v = some w) : finR H.length (ev b σ) = .ok w ⟨[], H⟩ := by
 obtain ⟨l, e⟩ := tret f h
 rw [e]; exact q8l hH rfl ho
end
theorem q0r {b : D .f} {σ : St} {v : V} {H : List AO} (hH : H.all (q0b H.length) = true) (f : List Fact) (h : j2e (et b σ (f.map Fact.o) []) = some (v, H, [], (f.map Fact.k).reverse)) (ho : outV H.length H v = some v) : finR H.length (ev b σ) = .ok v ⟨[], H⟩ := by
 obtain ⟨l, e⟩ := tret f h
 rw [e]; exact j5f hH rfl ho
theorem bigW_eq : bigW = bigN := rfl
theorem whl_s {α : Type} {ks : List String} {t : D .b} {b r : D .f} (st : α → St) (I : α → Prop) (m : α → Nat) {J : Res Fl → Prop}
   (h : ∀ x, I x → ∃ y, ev t (st x) = .ok y (st x) ∧ (if y = true then AftS ks st I m (m x) J (ev b (st x)) else J (ev r (st x)))) {σ : St}
   (x : α) (hx : keepL ks σ = st x) (hI : I x) (hm : m x < bigW) : J (ev (.seq (.whl ks t b) r) σ) := by
 have : ∀ n x σ, m x < n → keepL ks σ = st x → I x → J ((q7f (fun σ => ev t (keepL ks σ)) (ev b) n σ).bind fun fl σ => match fl with | .next => ev r σ | .ret v => .ok (.ret v) σ) := by
   intro n
   induction n with
   | zero => intro x σ hk; exact absurd hk (Nat.not_lt_zero _)
   | succ n ih =>
     intro x σ hk hs hp
     obtain ⟨y, hy, hq⟩ := h x hp
     unfold q7f
     simp only [hs, hy]
     cases y with
     | false => exact hq
     | true =>
       rw [if_pos rfl] at hq
       dsimp only [Res.bind]
       rw [if_pos rfl]
       cases hg : ev b (st x) with
       | ok fl σ' =>
         rw [hg] at hq
         cases fl with
         | next =>
           obtain ⟨x', h1, h2, h3⟩ := hq
           exact ih x' σ' (by omega) h1 h2
         | ret v => exact hq
       | ex C m σ' => rw [hg] at hq; exact hq
       | bad => rw [hg] at hq; exact hq
 exact this bigW x σ hm hx hI
theorem keep_set {ks : List String} {x : String} {v : V} {σ : St} (h : ks.contains x = false) : keepL (x :: ks) (σ.set x v) = ⟨(x, v) :: (keepL ks σ).loc, σ.hp⟩ := by
 unfold keepL q9s
 rw [List.filterMap_cons, get_set, if_pos rfl]
 have : ks.filterMap (fun n => ((σ.set x v).get n).map (n, ·)) = ks.filterMap (fun n => (σ.get n).map (n, ·)) := by
   induction ks with
   | nil => rfl
   | cons k ks ih =>
     rw [List.contains_cons, Bool.or_eq_false_iff] at h
     rw [List.filterMap_cons, List.filterMap_cons, ih h.2, get_set, if_neg fun e => by rw [e] at h; simp at h]
 rw [this]
 rfl
noncomputable def AftF {α : Type} (ks : List String) (st : α → St) (I : α → Prop) (J : Res Fl → Prop) : Res Fl → Prop
 | .ok .next σ => ∃ x, keepL ks σ = st x ∧ I x
 | .ok (.ret v) σ => J (.ok (.ret v) (keepL ks σ))
 | .ex C m σ => J (.ex C m σ)
 | .bad => J .bad
section
variable {α : Type} {ks : List String} {st : α → St} {I : α → Prop} {J : Res Fl → Prop} {a b : D .f} {σ : St} {v : V} {H : List AO}
theorem j5e (f : List Fact) (h : j2e (et b σ (f.map Fact.o) []) = some (v, H, [], (f.map Fact.k).reverse)) (k : ∀ l, J (.ok (.ret v) ⟨l, H⟩)) : AftF ks st I J (ev b σ) := by
 obtain ⟨l, e⟩ := tret f h
 rw [e]; exact k _
theorem q3q (x : α) (f : List Fact) (h : nextOf ks (et b σ (f.map Fact.o) []) = some (st x, [], (f.map Fact.k).reverse)) (hI : I x) : AftF ks st I J (ev b σ) := by
 obtain ⟨σ', e, hk⟩ := tnext ks f h
 rw [e]
 exact ⟨x, hk, hI⟩
end
noncomputable def srcOf (xs : List String) : Option (Res Src × List Out × List Key) → Option (Src × St × List Out × List Key)
 | some (.ok x σ, tp, ks) => some (x, keepL xs σ, tp, ks)
 | _ => none
theorem tsrc {d : D .s} {σ : St} {xs : List String} (f : List Fact) {x : Src} {σk : St} (h : srcOf xs (et d σ (f.map Fact.o) []) = some (x, σk, [], (f.map Fact.k).reverse)) : ∃ σ', ev d σ = .ok x σ' ∧ keepL xs σ' = σk := by
 cases e : et d σ (f.map Fact.o) [] with
 | none => rw [e] at h; cases h
 | some p =>
   obtain ⟨r, tp, ks⟩ := p
   rw [e] at h
   cases r with
   | ok y σ' =>
     injection h with h
     injection h with h1 h
     injection h with h2 h
     injection h with h3 h4
     subst h1 h3 h4
     exact ⟨σ', tape f e, h2⟩
   | ex => cases h
   | bad => cases h
theorem for_g {α : Type} {ks : List String} {cell : Bool} {x : String} {s : D .s} {b r : D .f} (st : α → St) (bst : V → α → St) (L : List V) (I : Nat → α → Prop) {J : Res Fl → Prop} {src : Src} {σ : St} (a : α) (f : List Fact)
   (hs : srcOf ks (et s σ (f.map Fact.o) []) = some (src, st a, [], (f.map Fact.k).reverse)) (h0 : I 0 a) (hn : ∀ a k, q4d src (st a).hp k = some (L[k]?)) (hf : L.length < q0z src (st a).hp)
   (hp : ∀ k a v σ, keepL ks σ = st a → I k a → L[k]? = some v → ∃ σ', q1k cell x v σ = .ok () σ' ∧ keepL (x :: ks) σ' = bst v a)
   (h : ∀ k a v, L[k]? = some v → I k a → AftF ks st (I (k + 1)) J (ev b (bst v a))) (he : ∀ a, I L.length a → J (ev r (st a))) : J (ev (.seq (.forx ks cell x s b) r) σ) := by
 obtain ⟨σ1, e, ha⟩ := tsrc f hs
 show J (((ev s σ).bind _).bind _)
 rw [e]
 show J (Res.bind (j7t ks (forF src (q1k cell x) (fun σ => ev b (keepL (x :: ks) σ)) (q0z src σ1.hp) 0 σ1)) fun fl σ => match fl with | .next => ev r σ | .ret v => .ok (.ret v) σ)
 rw [← ha] at hf
 change L.length < q0z src σ1.hp at hf
 generalize q0z src σ1.hp = n at hf ⊢
 have key : ∀ n k a σ, k ≤ L.length → L.length < n + k → keepL ks σ = st a → I k a → J (Res.bind (j7t ks (forF src (q1k cell x) (fun σ => ev b (keepL (x :: ks) σ)) n k σ)) fun fl σ => match fl with | .next => ev r σ | .ret v => .ok (.ret v) σ) := by
   intro n
   induction n with
   | zero => intro k a σ h1 h2; exact absurd h2 (Nat.not_lt.mpr (by rw [Nat.zero_add]; exact h1))
   | succ n ih =>
     intro k a σ h1 h2 hk hI
     change J (Res.bind (j7t ks (Option.casesOn (motive := fun _ => Res Fl) (q4d src σ.hp k) _ _)) _)
     rw [show σ.hp = (st a).hp by rw [← hk]; rfl, hn a k]
     cases hv : L[k]? with
     | none =>
       cases Nat.le_antisymm h1 (List.getElem?_eq_none_iff.mp hv)
       show J (ev r (keepL ks σ))
       rw [hk]
       exact he a hI
     | some v =>
       have hlt := (List.getElem?_eq_some_iff.mp hv).1
       have hq := h k a v hv hI
       obtain ⟨σ2, p1, p2⟩ := hp k a v σ hk hI hv
       change J (Res.bind (j7t ks ((q1k cell x v σ).bind _)) _)
       rw [p1]
       change J (Res.bind (j7t ks ((ev b (keepL (x :: ks) σ2)).bind _)) _)
       rw [p2]
       revert hq
       cases ev b (bst v a) with
       | bad => exact id
       | ex C m σ' => exact id
       | ok fl σ' =>
         cases fl with
         | ret w => exact id
         | next => exact fun ⟨a', q1, q2⟩ => ih (k + 1) a' σ' hlt (by omega) q1 q2
 exact key n 0 a σ1 (Nat.zero_le _) hf ha h0
theorem for_s {α : Type} {ks : List String} {x : String} {s : D .s} {b r : D .f} (hx : ks.contains x = false) (st : α → St) (L : List V) (I : Nat → α → Prop) {J : Res Fl → Prop} {src : Src} {σ : St} (a : α) (f : List Fact)
   (hs : srcOf ks (et s σ (f.map Fact.o) []) = some (src, st a, [], (f.map Fact.k).reverse)) (h0 : I 0 a) (hn : ∀ a k, q4d src (st a).hp k = some (L[k]?)) (hf : L.length < q0z src (st a).hp)
   (h : ∀ k a v, L[k]? = some v → I k a → AftF ks st (I (k + 1)) J (ev b ⟨(x, v) :: (st a).loc, (st a).hp⟩)) (he : ∀ a, I L.length a → J (ev r (st a))) : J (ev (.seq (.forx ks false x s b) r) σ) :=
 for_g st (fun v a => ⟨(x, v) :: (st a).loc, (st a).hp⟩) L I a f hs h0 hn hf (fun k a v σ hk _ _ => ⟨σ.set x v, rfl, by rw [keep_set hx, ← hk]; rfl⟩) h he
theorem for_c {α : Type} {ks : List String} {x : String} {s : D .s} {b r : D .f} {k0 : Nat} (st : α → St) (G : V → α → List AO) (L : List V) (I : Nat → α → Prop) {J : Res Fl → Prop} {src : Src} {σ : St} (a : α) (f : List Fact)
   (hs : srcOf ks (et s σ (f.map Fact.o) []) = some (src, st a, [], (f.map Fact.k).reverse)) (h0 : I 0 a) (hn : ∀ a k, q4d src (st a).hp k = some (L[k]?)) (hf : L.length < q0z src (st a).hp)
   (hc : ∀ a, (st a).get x = some (.obj k0)) (hG : ∀ k a v, I k a → L[k]? = some v → ((st a).hp[k0]?.bind fun o => isC o (some ((st a).hp.set k0 (.cell v)))) = some (G v a))
   (h : ∀ k a v, L[k]? = some v → I k a → AftF ks st (I (k + 1)) J (ev b ⟨(x, .obj k0) :: (st a).loc, G v a⟩)) (he : ∀ a, I L.length a → J (ev r (st a))) : J (ev (.seq (.forx ks true x s b) r) σ) :=
 for_g st (fun v a => ⟨(x, .obj k0) :: (st a).loc, G v a⟩) L I a f hs h0 hn hf (fun k a v σ hk hI hv => by
   have h1 := hc a
   rw [← hk] at h1
   have h1 : σ.get x = some (.obj k0) := (q5t h1).2
   have h2 := hG k a v hI hv
   rw [← hk] at h2
   change (σ.hp[k0]?.bind fun o => isC o (some (σ.hp.set k0 (.cell v)))) = _ at h2
   refine ⟨⟨σ.loc, G v a⟩, ?_, ?_⟩
   · have : putV true x v σ = some ⟨σ.loc, G v a⟩ := by
       show (σ.get x).bind _ = _
       rw [h1]
       show (σ.hp[k0]?.bind _) = _
       cases e : σ.hp[k0]? with
       | none => rw [e] at h2; exact nn h2
       | some o =>
         rw [e] at h2
         cases o with
         | cell _ => exact congrArg (fun z => some (St.mk σ.loc z)) (Option.some.inj h2)
         | cell0 => exact congrArg (fun z => some (St.mk σ.loc z)) (Option.some.inj h2)
         | _ => exact nn h2
     unfold q1k
     rw [this]
   · show (⟨List.filterMap _ (x :: ks), G v a⟩ : St) = _
     rw [List.filterMap_cons, show (⟨σ.loc, G v a⟩ : St).get x = some (.obj k0) from h1]
     exact congrArg (fun z => (⟨(x, .obj k0) :: z, G v a⟩ : St)) (congrArg St.loc hk)) h he
end
section
open Builtin
variable {u : U} {c : Cx}
structure DfC (n : Nat) (a : Addr) (k : Nat) (xs cs : List String) where
 d : D .f
 fo : Obj
 fd : FuncData
 body : List Stmt
 h1 : ∀ P, (KK P).lookup a = some fo
 h2 : fo.data = .func fd
 h3 : fd.body = .stmts body
 h4 : ∀ P, codeIn (KK P) fd.code fd.qualname = true
 h5 : j0w fd = true
 h6 : fd.closure = []
 h7 : (fd.scope.names.filter (·.2 == .cell)).map (·.1) = cs.map Str.ofString
 h8 : ∀ rs : List Value, rs.length = k → bindArgs fd ⟨rs, []⟩ = pure ((xs.map Str.ofString).zip rs)
 h9 : xs.Nodup ∧ cs.Nodup
 h10 : (∀ x ∈ xs, fd.scope.names.lookup (Str.ofString x) = some (if cs.contains x then .cell else .local)) ∧ ∀ x ∈ cs, fd.scope.names.lookup (Str.ofString x) = some .cell
 H : ∀ {u : U} {c : Cx}, u.At → c.Ok → c.Fn → n ≤ c.room → c.env.scope = fd.scope → c.env.code = fd.code → c.env.qual = fd.qualname ++ ".<locals>." → DB u c body d
theorem DfC.ok {n : Nat} {a : Addr} {k : Nat} {xs cs : List String} (w : DfC n a k xs cs) (hn : 1 ≤ n) (uo : u.At) : CallOk u (.ref a) (n + 1) (fun vs H => if vs.length = k then finR H.length (ev w.d (q7y xs cs vs H)) else .bad) := by
 have h5 := w.h5
 simp only [j0w, Bool.and_eq_true, Bool.not_eq_true', beq_iff_eq] at h5
 obtain ⟨⟨⟨⟨a1, a2⟩, a3⟩, a4⟩, a5⟩ := h5
 exact (j8k uo.ok (uo.get (w.h1 _)) w.h2 w.h3 (uo.code (w.h4 _)) a1 a2 a3 a4 a5 w.h6 w.h7 w.h8 w.h9.1 w.h9.2 w.h10.1 w.h10.2 hn fun c ok fn hr hs hc _ hq => w.H uo ok fn hr hs hc hq).call
theorem DfC.pure {n m : Nat} {a : Addr} {k : Nat} {xs cs : List String} (w : DfC n a k xs cs) (hn : 1 ≤ n) (hm : n + 1 ≤ m) {g : List V → Option V}
   (e : ∀ vs H v, H.all (q0b H.length) = true → g vs = some v → vs.length = k ∧ finR H.length (ev w.d (q7y xs cs vs H)) = .ok v ⟨[], H⟩) (uo : u.At) : CallOk u (.ref a) m (q0g g) :=
 j4l (w.ok hn uo) hm fun vs H v hH h => (if_pos (e vs H v hH h).1).trans (e vs H v hH h).2
noncomputable def ct {t : Ty} (d : D t) (i : Nat) : D .b := ⟨(d.cs.getD i ((D.tk true).c, (D.kv .none).c)).1, []⟩
noncomputable def cg {t : Ty} (d : D t) (i : Nat) : D .v := ⟨(d.cs.getD i ((D.tk true).c, (D.kv .none).c)).2, []⟩
theorem q7h {x : String} {v : V} : ∀ {l : List (String × V)}, l.lookup x = none → setL x v l = l ++ [(x, v)] ∧ ∀ w, setL x v (l ++ [(x, w)]) = l ++ [(x, v)]
 | [], _ => ⟨rfl, fun w => if_pos (by simp)⟩
 | p :: l, h => by
   rw [List.lookup_cons] at h
   cases e : x == p.1 with
   | true => rw [e] at h; cases h
   | false =>
     rw [e] at h
     have e' : ¬ (p.1 == x) = true := by
       intro q
       rw [beq_iff_eq] at q
       rw [q] at e
       simp at e
     obtain ⟨h1, h2⟩ := q7h (v := v) h
     exact ⟨(if_neg e').trans (by rw [h1]; rfl), fun w => (if_neg e').trans (congrArg (p :: ·) (h2 w))⟩
theorem push_at {σ : St} {k : Nat} {l : List V} {v : V} (h : σ.hp[k]? = some (.lst l)) (hl : l.length ≤ 100000) : q5h v k σ = .ok .none ⟨σ.loc, σ.hp.set k (.lst (l ++ [v]))⟩ := by
 show Option.casesOn (motive := fun _ => Res V) (σ.hp[k]?.bind _) _ _ = _
 rw [h]
 show Option.casesOn (motive := fun _ => Res V) (oIf _ _) _ _ = _
 rw [q0l hl]
theorem q3d {H : List AO} {x y : AO} : (H ++ [x]).set H.length y = H ++ [y] := by rw [List.set_append_right _ _ (Nat.le_refl _), Nat.sub_self]; rfl
theorem q5p {loc : List (String × V)} {H : List AO} {l : List V} {v : V} (hl : l.length ≤ 100000) : q5h v H.length ⟨loc, H ++ [.lst l]⟩ = .ok .none ⟨loc, H ++ [.lst (l ++ [v])]⟩ := by
 rw [push_at (List.getElem?_concat_length ..) hl]
 exact congrArg (fun x => Res.ok V.none ⟨loc, x⟩) q3d
theorem comp_s {src : Src} {x : String} (t : D .b) (g : D .v) {H : List AO} {loc : List (String × V)} (L : List V) (p : V → Bool) (f : V → V) (hx : loc.lookup x = none) (hL : L.length ≤ 100000) (hH : H.all (q0b H.length) = true) (hb : belows H.length ((L.filter p).map f) = true)
   (hn : ∀ k acc, q4d src (H ++ [AO.lst acc]) k = some (L[k]?)) (hf : L.length < q0z src H)
   (ht : ∀ v acc, v ∈ L → (H ++ [AO.lst acc]).all (q0b (H ++ [AO.lst acc]).length) = true → ev t ⟨loc ++ [(x, v)], H ++ [.lst acc]⟩ = .ok (p v) ⟨loc ++ [(x, v)], H ++ [.lst acc]⟩)
   (hg : ∀ v acc, v ∈ L → p v = true → (H ++ [AO.lst acc]).all (q0b (H ++ [AO.lst acc]).length) = true → ev g ⟨loc ++ [(x, v)], H ++ [.lst acc]⟩ = .ok (f v) ⟨loc ++ [(x, v)], H ++ [.lst acc]⟩) :
   j8j false x src (ev t) (ev g) loc ⟨[], H⟩ = .ok (.lst ((L.filter p).map f)) ⟨[], H⟩ := by
 have key : ∀ (k : Nat) (σ : St) (v : V), ((σ.loc = loc ∨ ∃ w, σ.loc = loc ++ [(x, w)]) ∧ σ.hp = H ++ [.lst (((L.take k).filter p).map f)]) → L[k]? = some v → Turn (ev t) (ev g) H.length (fun σ => (σ.loc = loc ∨ ∃ w, σ.loc = loc ++ [(x, w)]) ∧ σ.hp = H ++ [.lst (((L.take (k + 1)).filter p).map f)]) (σ.set x v) := by
   intro k σ v h hv
   obtain ⟨h1, h2⟩ := h
   have hm := List.mem_of_getElem? hv
   have hlt := (List.getElem?_eq_some_iff.mp hv).1
   have htk : L.take (k + 1) = L.take k ++ [v] := by rw [List.take_add_one, hv]; rfl
   have hs : σ.set x v = ⟨loc ++ [(x, v)], H ++ [.lst (((L.take k).filter p).map f)]⟩ := by
     show (⟨setL x v σ.loc, σ.hp⟩ : St) = _
     rw [h2]
     rcases h1 with e | ⟨w, e⟩
     · rw [e, (q7h hx).1]
     · rw [e, (q7h hx).2 w]
   have hG : (H ++ [AO.lst (((L.take k).filter p).map f)]).all (q0b (H ++ [AO.lst (((L.take k).filter p).map f)]).length) = true := by
     refine q1s hH ?_
     have : belows H.length (((L.take k).filter p).map f) = true := by
       have e : ((L.filter p).map f) = (((L.take k).filter p).map f) ++ (((L.drop k).filter p).map f) := by rw [← List.map_append, ← List.filter_append, List.take_append_drop]
       rw [e] at hb
       exact belows_left hb
     rw [List.all_cons, List.all_nil, Bool.and_true]
     exact q7b (by rw [List.length_append]; omega) this
   rw [hs]
   refine ⟨p v, _, ht v _ hm hG, ?_⟩
   by_cases hp : p v = true
   · rw [if_pos hp]
     refine ⟨f v, _, .none, ⟨loc ++ [(x, v)], H ++ [.lst (((L.take (k + 1)).filter p).map f)]⟩, hg v _ hm hp hG, ?_, .inr ⟨v, rfl⟩, rfl⟩
     have hle : (((L.take k).filter p).map f).length ≤ 100000 := by
       rw [List.length_map]
       have := List.length_filter_le p (L.take k)
       rw [List.length_take] at this
       omega
     rw [q5p hle, htk, List.filter_append, List.map_append, List.filter_cons, if_pos hp]
     rfl
   · rw [if_neg hp]
     refine ⟨.inr ⟨v, rfl⟩, ?_⟩
     rw [htk, List.filter_append]
     simp [hp]
 obtain ⟨σ', h1, _, h3⟩ := comp_q (src := src) (x := x) (t := ev t) (g := ev g) (d := H.length) L (fun k σ => (σ.loc = loc ∨ ∃ w, σ.loc = loc ++ [(x, w)]) ∧ σ.hp = H ++ [.lst (((L.take k).filter p).map f)]) (fun k σ h => by rw [h.2]; exact hn k _) key (q0z src H) 0 ⟨loc, H ++ [.lst []]⟩ (Nat.zero_le _) (by omega) ⟨.inl rfl, rfl⟩
 rw [List.take_length] at h3
 show j5w H.length ⟨[], H⟩ (q9t src x (ev t) (ev g) H.length (q0z src H) 0 ⟨loc, H ++ [.lst []]⟩) = _
 rw [h1]
 exact compOut_is hH rfl h3 hb
noncomputable def exOf : Option (Res Fl × List Out × List Key) → Option (Addr × V × List AO × List Out × List Key)
 | some (.ex C m σ, tp, ks) => some (C, m, σ.hp, tp, ks)
 | _ => none
theorem tex {d : D .f} {σ : St} (f : List Fact) {C : Addr} {m : V} {H : List AO} (h : exOf (et d σ (f.map Fact.o) []) = some (C, m, H, [], (f.map Fact.k).reverse)) : ∃ l, ev d σ = .ex C m ⟨l, H⟩ := by
 cases e : et d σ (f.map Fact.o) [] with
 | none => rw [e] at h; cases h
 | some p =>
   obtain ⟨r, tp, ks⟩ := p
   rw [e] at h
   cases r with
   | ex C' m' σ' =>
     injection h with h
     injection h with h0 h
     injection h with h1 h
     injection h with h2 h
     injection h with h3 h4
     subst h0 h1 h2 h3 h4
     exact ⟨σ'.loc, tape f e⟩
   | ok => cases h
   | bad => cases h
section
variable {b : D .f} {σ : St} {C : Addr} {m : V} {H : List AO} {J : Res Fl → Prop} {α : Type} {ks : List String} {st : α → St}
theorem q7s (hH : H.all (q0b H.length) = true) (f : List Fact) (h : exOf (et b σ (f.map Fact.o) []) = some (C, m, H, [], (f.map Fact.k).reverse)) (ho : below H.length m = true) : finR H.length (ev b σ) = .ex C m ⟨[], H⟩ := by
 obtain ⟨l, e⟩ := tex f h
 rw [e]; exact fin_x0 hH rfl ho
theorem aft_ex {I : α → Prop} {k : α → Nat} {n : Nat} (f : List Fact) (h : exOf (et b σ (f.map Fact.o) []) = some (C, m, H, [], (f.map Fact.k).reverse)) (j : ∀ l, J (.ex C m ⟨l, H⟩)) : AftS ks st I k n J (ev b σ) := by
 obtain ⟨l, e⟩ := tex f h
 rw [e]; exact j l
theorem foot_ex {I : α → Prop} (f : List Fact) (h : exOf (et b σ (f.map Fact.o) []) = some (C, m, H, [], (f.map Fact.k).reverse)) (j : ∀ l, J (.ex C m ⟨l, H⟩)) : AftF ks st I J (ev b σ) := by
 obtain ⟨l, e⟩ := tex f h
 rw [e]; exact j l
end
theorem Df.x {n m : Nat} {a : Addr} {k : Nat} {xs : List String} {ds : List Value} {dvs : List V} (w : Df n a k xs ds dvs) (hn : 1 ≤ n) (hm : n + 1 ≤ m) {g : List V → Option (V ⊕ (Addr × V))}
   (e : ∀ vs H v, H.all (q0b H.length) = true → g vs = some v → vs.length = k ∧ finR H.length (ev w.d ⟨xs.zip (vs ++ dvs), H⟩) = xR H v) (uo : u.At) : CallOk u (.ref a) m (xF g) :=
 xF_to (w.ok hn uo) hm fun vs H v hH h => (if_pos (e vs H v hH h).1).trans (e vs H v hH h).2
end
end
end Mi
section
open PySem PySem.W PyProof.Rows PySem.Calls Builtin
namespace Mi
variable {u : U} {c : Cx}
theorem leq {a b d : Nat} (k : b ≤ d) (h : a ≤ b := by decide) : a ≤ d := Nat.le_trans h k
noncomputable abbrev q1e (u : U) (c : Cx) (x : String) (n : Nat) (fn : Fn) (np pos : Pos) (es : List Expr) (ds : D .l) : Prop := n ≤ c.room → KLoc c x .globalImplicit → DL u c es ds → q2a es c → DE u c (.Call (.Name (Str.ofString x) np) es [] pos) (.call fn ds)
theorem q0o {x : String} {a : Addr} {o : Obj} {fd : FuncData} {n : Nat} {fn : Fn} {np pos : Pos} {es : List Expr} {ds : D .l} (H : u.At → CallOk u (.ref a) n fn) (e : ∀ P, nsIn (KK P) mainGlobals (Str.ofString x) = some (some (.ref a))) (g : ∀ P, (KK P).lookup a = some o) (d : o.data = .func fd) (b : (Str.ofString x == ("__debug__" : Str)) = false) (uo : u.At) (ok : c.Ok) : q1e u c x n fn np pos es ds :=
 fun hr hk ha hn => se_fn uo.ok ok (H uo) hr (q1v uo.ok ok hk (uo.glob (e _)) (fun _ => .val _) b) (uo.get (g _)) d ha hn
theorem at_g {C : Addr} {n : String} (uo : u.At) (A : q7d u.K C (Str.ofString n)) {o : Expr} {pos : Pos} {a : D .v} (ho : DE u c o a) (hbase : Base o (Str.ofString n) c) (hgo : ∀ x r, letTemporaryGo o x r = pure ()) : DE u c (.Attribute o (Str.ofString n) pos) (.attr C (Str.ofString n) a) := se_attr uo.ok A ho hbase hgo
theorem j6x {C : Addr} {n : String} (uo : u.At) (A : q7d u.K C (Str.ofString n)) {o value : Expr} {tp p : Pos} {a b : D .v} (hv : DE u c value a) (ho : DE u c o b) (hs : NoSwS [.Attribute o (Str.ofString n) tp] value p c) (hw : swappedStores [.Attribute o (Str.ofString n) tp] value c.env = pure none) : DX u c (.Assign [.Attribute o (Str.ofString n) tp] value p) (.setA C (Str.ofString n) a b) := sx_setA uo.ok A hv ho hs hw
end Mi
end
section
open PySem PySem.W PyProof.Rows PySem.Calls Builtin
open Mi
set_option maxHeartbeats 4000000
local macro_rules | `(tactic| row_cond k) => `(tactic| first | assumption | exact q1y (by assumption) rfl)
local macro_rules | `(tactic| row_cond s) => `(tactic| with_unfolding_all exact rfl)
local macro_rules | `(tactic| row_cond t) => `(tactic| (refine swapped_is (by assumption) ?_; with_unfolding_all exact rfl))
section
namespace Mi
variable {u : U} {c : Cx} {np pos : Pos} {es : List Expr} {ds : D .l}
noncomputable def cdV (vs : List V) : Option V := o2 vs fun a b => oI a fun a => oI b fun b => oIf (0 ≤ b ∧ b < bigN) (some (.int (Nat.gcd a.natAbs b.toNat)))
noncomputable def W_cd : Df 1 74 2 ["one", "other"] [] [] := by
  refine' Df.mk _ _ _ _ (fun _ => rfl) rfl rfl (fun _ => rfl) rfl (fun _ _ _ => q1d (all2 fun _ _ => rfl)) (fun _ => .nil) (by decide) (by decide) ?H
  case H =>
    intro u c uo ok fn hr hsc hcd hqu
    dsimp only at hsc hcd hqu
    repeat' with_reducible first
 | (refine (?_ : DX _ _ _ _); first
  | refine' d_whl ‹_› ‹_› ["one", "other", "first", "second"] ?_ ?_
  | refine' q0x ?_
  | refine' q4f ‹_› ?_ (q0e ‹_› rfl) (q0e ‹_› rfl) (by row_cond s) (by row_cond t))
 | refine' d_abs (name_abs ‹_› ‹_› (by row_cond k)) ?_ rfl
 | (refine (?_ : DE _ _ _ _); first
  | refine' q0f ‹_› (by row_cond k) (by decide)
  | exact q1l
  | refine' q2g ?_ ?_
  | refine' q3l ?_)
 | refine' q2z ‹_› ?_ ?_ rfl
 | exact q0w
 | refine' q0j ?_ ?_ rfl
 | exact q0i
 | refine' q0v ?_ ?_
 | intro _ _ _ _
theorem q8p : (uo : u.At) → CallOk u (.ref 74) 2 (q0g cdV) := W_cd.pure (by decide) (by decide) fun vs H v hH h => by
 obtain ⟨_, _, rfl, h⟩ := o2_s h
 obtain ⟨a, rfl, h⟩ := oI_s h
 obtain ⟨b, rfl, h⟩ := oI_s h
 obtain ⟨⟨hb, hb2⟩, h⟩ := q0h h
 cases h
 refine ⟨rfl, ?_⟩
 obtain ⟨b, rfl⟩ := Int.eq_ofNat_of_zero_le hb
 have ha : absV [.int a] = some (.int a.natAbs) := congrArg (some ∘ V.int) (show (if a < 0 then -a else a) = (a.natAbs : Int) by split <;> omega)
 refine q4j (J := fun r => finR H.length r = .ok (.int (Nat.gcd a.natAbs b)) ⟨[], H⟩) ⟨[("one", .int a), ("other", .int b), ("second", .int b), ("first", .int a.natAbs)], H⟩ [fv ha] (by kernel_rfl) ?_
 refine whl_s (J := fun r => finR H.length r = _) (fun x : Nat × Nat => ⟨[("one", .int a), ("other", .int b), ("first", .int x.1), ("second", .int x.2)], H⟩) (fun x => Nat.gcd x.1 x.2 = Nat.gcd a.natAbs b) (fun x => x.2) ?_ (a.natAbs, b) (by kernel_rfl) rfl (Nat.lt_of_lt_of_eq (by omega) bigW_eq.symm)
 rintro ⟨x, k⟩ hx
 by_cases hk : 0 < k
 · exact ⟨true, q3h [fT q1c (show (0 : Int) < k by omega)] (by kernel_rfl), (if_pos rfl).mpr (q3e (x := (k, x % k)) [fv (q2l (H := H) (a := x) (b := k) (by omega))] (by kernel_rfl) (by rw [← hx, Nat.gcd_comm x k, Nat.gcd_rec k x, Nat.gcd_comm]) (Nat.mod_lt _ hk))⟩
 · refine ⟨false, q3h [fN q1c (show ¬ (0 : Int) < k by omega)] (by kernel_rfl), ?_⟩
   rw [if_neg (by decide)]
   have : k = 0 := by omega
   subst this
   rw [← hx, Nat.gcd_zero_right]
   exact q0r hH [] (by kernel_rfl) rfl
theorem q6z (uo : u.At) (ok : c.Ok) : q1e u c "common_divisor" 2 (q0g cdV) np pos es ds := q0o q8p (fun _ => rfl) (fun _ => rfl) rfl (by decide) uo ok
noncomputable def q5c (t b : Int) : Int × Int := if b < 0 then (-t / Nat.gcd t.natAbs b.natAbs, -b / Nat.gcd t.natAbs b.natAbs) else (t / Nat.gcd t.natAbs b.natAbs, b / Nat.gcd t.natAbs b.natAbs)
noncomputable def V.q (p : Int × Int) : V := .tup [.int p.1, .int p.2]
noncomputable def j2g (vs : List V) : Option V := o2 vs fun t b => oI t fun t => oI b fun b => oIf (b ≠ 0 ∧ b.natAbs < bigN) (some (.q (q5c t b)))
theorem q6g {t b : Int} (h : b ≠ 0) (h2 : b.natAbs < bigN) : j2g [.int t, .int b] = some (.q (q5c t b)) := q0l ⟨h, h2⟩
theorem j0f {t b : Int} {v : V} (h : j2g [.int t, .int b] = some v) : v = .q (q5c t b) := by
 cases (q0h h).2; rfl
theorem cdV_eq {t b : Int} (h1 : 0 < b) (h2 : b.natAbs < bigN) : cdV [.int t, .int b] = some (.int (Nat.gcd t.natAbs b.natAbs)) := by
 have h : cdV [.int t, .int b] = some (.int (Nat.gcd t.natAbs b.toNat)) := q0l ⟨by omega, by omega⟩
 rw [h, show b.toNat = b.natAbs by omega]
noncomputable def W_fr : Df 4 82 2 ["top", "bottom"] [] [] := by
  refine' Df.mk _ _ _ _ (fun _ => rfl) rfl rfl (fun _ => rfl) rfl (fun uo _ hs => all2 fun _ _ => BindsTo.of_defaults rfl (hs _ _ (uo.get rfl)) rfl rfl rfl) (fun _ => .nil) (by decide) (by decide) ?H
  case H =>
    intro u c uo ok fn hr hsc hcd hqu
    dsimp only at hsc hcd hqu
    repeat' with_reducible first
 | (refine (?_ : DX _ _ _ _); first
  | refine' q0x ?_
  | refine' q3z ?_ ?_ ?_
  | refine' q3f ‹_› ?_ (by row_cond k) (by row_cond s)
  | refine' q4f ‹_› ?_ (q0e ‹_› rfl) (q0e ‹_› rfl) (by row_cond s) (by row_cond t)
  | refine' q5w ‹_› ‹_› (leq hr) (by row_cond k) ?_ rfl)
 | refine' q6z uo ‹_› (leq hr) (by row_cond k) ?_ rfl
 | (refine (?_ : DE _ _ _ _); first
  | refine' q0f ‹_› (by row_cond k) (by decide)
  | exact q1l
  | exact q3y
  | refine' d_un ?_
  | refine' q2g ?_ ?_
  | refine' q3l ?_)
 | refine' q2z ‹_› ?_ ?_ rfl
 | exact q0w
 | refine' q0j ?_ ?_ rfl
 | exact q0i
 | refine' q0v ?_ ?_
 | intro _ _ _ _
theorem fraction_ok : (uo : u.At) → CallOk u (.ref 82) 5 (q0g j2g) := W_fr.pure (by decide) (by decide) fun vs H v hH h => by
 obtain ⟨_, _, rfl, h⟩ := o2_s h
 obtain ⟨t, rfl, h⟩ := oI_s h
 obtain ⟨b, rfl, h⟩ := oI_s h
 obtain ⟨⟨hb, hb2⟩, h⟩ := q0h h
 cases h
 refine ⟨rfl, ?_⟩
 have e2 : 0 < b.natAbs := by omega
 have e3 := Nat.gcd_pos_of_pos_right t.natAbs e2
 have e4 := Nat.le_of_dvd e2 (Nat.gcd_dvd_right t.natAbs b.natAbs)
 have d (x : Int) := q3v (H := H) (a := x) (b := (Nat.gcd t.natAbs b.natAbs : Int)) (by omega) (by omega)
 by_cases hn : b < 0
 · have e6 := cdV_eq (t := -t) (b := -b) (by omega) (by omega)
   rw [Int.natAbs_neg, Int.natAbs_neg] at e6
   rw [show q5c t b = _ from if_pos hn]
   exact q0r hH [fN q0t hb, fT q1n hn, fr (q0d hH e6), fv (d (-t)), fv (d (-b))] (by kernel_rfl) rfl
 · have e6 := cdV_eq (t := t) (b := b) (by omega) (by omega)
   rw [show q5c t b = _ from if_neg hn]
   exact q0r hH [fN q0t hb, fN q1n hn, fr (q0d hH e6), fv (d t), fv (d b)] (by kernel_rfl) rfl
theorem q1q (uo : u.At) (ok : c.Ok) : q1e u c "fraction" 5 (q0g j2g) np pos es ds := q0o fraction_ok (fun _ => rfl) (fun _ => rfl) rfl (by decide) uo ok
noncomputable abbrev okM (x y : Int) : Prop := small x = true ∨ small y = true
theorem mulF {H : List AO} {x y : Int} (h : okM x y) : bin H .Mult (.int x) (.int y) = some (.int (x * y)) := q1i h
noncomputable def plusV (vs : List V) : Option V := o2 vs fun x y => oQ x fun a b => oQ y fun d e => oIf (okM a e ∧ okM d b ∧ okM b e) (j2g [.int (a * e + d * b), .int (b * e)])
noncomputable def W_plus : Df 5 89 2 ["a", "b"] [] [] := by
  refine' Df.mk _ _ _ _ (fun _ => rfl) rfl rfl (fun _ => rfl) rfl (fun _ _ _ => q1d (all2 fun _ _ => rfl)) (fun _ => .nil) (by decide) (by decide) ?H
  case H =>
    intro u c uo ok fn hr hsc hcd hqu
    dsimp only at hsc hcd hqu
    repeat' with_reducible first
 | refine' q0x ?_
 | refine' q1q uo ‹_› (leq hr) (by row_cond k) ?_ rfl
 | (refine (?_ : DE _ _ _ _); first
  | refine' q0f ‹_› (by row_cond k) (by decide)
  | exact q1l
  | refine' q2g ?_ ?_
  | refine' q1x ?_ ?_ (fun _ _ => rfl))
 | exact q0w
 | refine' q0j ?_ ?_ rfl
 | exact q0i
 | refine' q0v ?_ ?_
 | intro _ _ _ _
theorem plus_ok : (uo : u.At) → CallOk u (.ref 89) 6 (q0g plusV) := W_plus.pure (by decide) (by decide) fun vs H v hH h => by
 obtain ⟨_, _, rfl, h⟩ := o2_s h
 obtain ⟨a, b, rfl, h⟩ := oQ_s h
 obtain ⟨d, e, rfl, h⟩ := oQ_s h
 obtain ⟨⟨h1, h2, h3⟩, h⟩ := q0h h
 obtain rfl := j0f h
 exact ⟨rfl, q0r hH [fv (mulF (H := H) h1), fv (mulF (H := H) h2), fv (mulF (H := H) h3), fr (q0d hH h)] (by kernel_rfl) rfl⟩
noncomputable def minusV (vs : List V) : Option V := o2 vs fun x y => oQ x fun a b => oQ y fun d e => oIf (okM a e ∧ okM d b ∧ okM b e) (j2g [.int (a * e - d * b), .int (b * e)])
noncomputable def W_minus : Df 5 96 2 ["a", "b"] [] [] := by
  refine' Df.mk _ _ _ _ (fun _ => rfl) rfl rfl (fun _ => rfl) rfl (fun _ _ _ => q1d (all2 fun _ _ => rfl)) (fun _ => .nil) (by decide) (by decide) ?H
  case H =>
    intro u c uo ok fn hr hsc hcd hqu
    dsimp only at hsc hcd hqu
    repeat' with_reducible first
 | refine' q0x ?_
 | refine' q1q uo ‹_› (leq hr) (by row_cond k) ?_ rfl
 | (refine (?_ : DE _ _ _ _); first
  | refine' q0f ‹_› (by row_cond k) (by decide)
  | exact q1l
  | refine' q2g ?_ ?_
  | refine' q1x ?_ ?_ (fun _ _ => rfl))
 | exact q0w
 | refine' q0j ?_ ?_ rfl
 | exact q0i
 | refine' q0v ?_ ?_
 | intro _ _ _ _
theorem minus_ok : (uo : u.At) → CallOk u (.ref 96) 6 (q0g minusV) := W_minus.pure (by decide) (by decide) fun vs H v hH h => by
 obtain ⟨_, _, rfl, h⟩ := o2_s h
 obtain ⟨a, b, rfl, h⟩ := oQ_s h
 obtain ⟨d, e, rfl, h⟩ := oQ_s h
 obtain ⟨⟨h1, h2, h3⟩, h⟩ := q0h h
 obtain rfl := j0f h
 exact ⟨rfl, q0r hH [fv (mulF (H := H) h1), fv (mulF (H := H) h2), fv (mulF (H := H) h3), fr (q0d hH h)] (by kernel_rfl) rfl⟩
noncomputable def timesV (vs : List V) : Option V := o2 vs fun x y => oQ x fun a b => oQ y fun d e => oIf (okM a d ∧ okM b e) (j2g [.int (a * d), .int (b * e)])
noncomputable def W_times : Df 5 103 2 ["a", "b"] [] [] := by
  refine' Df.mk _ _ _ _ (fun _ => rfl) rfl rfl (fun _ => rfl) rfl (fun _ _ _ => q1d (all2 fun _ _ => rfl)) (fun _ => .nil) (by decide) (by decide) ?H
  case H =>
    intro u c uo ok fn hr hsc hcd hqu
    dsimp only at hsc hcd hqu
    repeat' with_reducible first
 | refine' q0x ?_
 | refine' q1q uo ‹_› (leq hr) (by row_cond k) ?_ rfl
 | (refine (?_ : DE _ _ _ _); first
  | refine' q0f ‹_› (by row_cond k) (by decide)
  | exact q1l
  | refine' q2g ?_ ?_
  | refine' q1x ?_ ?_ (fun _ _ => rfl))
 | exact q0w
 | refine' q0j ?_ ?_ rfl
 | exact q0i
 | refine' q0v ?_ ?_
 | intro _ _ _ _
theorem times_ok : (uo : u.At) → CallOk u (.ref 103) 6 (q0g timesV) := W_times.pure (by decide) (by decide) fun vs H v hH h => by
 obtain ⟨_, _, rfl, h⟩ := o2_s h
 obtain ⟨a, b, rfl, h⟩ := oQ_s h
 obtain ⟨d, e, rfl, h⟩ := oQ_s h
 obtain ⟨⟨h1, h2⟩, h⟩ := q0h h
 obtain rfl := j0f h
 exact ⟨rfl, q0r hH [fv (mulF (H := H) h1), fv (mulF (H := H) h2), fr (q0d hH h)] (by kernel_rfl) rfl⟩
noncomputable def j0h (vs : List V) : Option V := o2 vs fun x y => oQ x fun a b => oQ y fun d e => oIf (d ≠ 0 ∧ okM a e ∧ okM b d) (j2g [.int (a * e), .int (b * d)])
noncomputable def W_divided : Df 5 110 2 ["a", "b"] [] [] := by
  refine' Df.mk _ _ _ _ (fun _ => rfl) rfl rfl (fun _ => rfl) rfl (fun _ _ _ => q1d (all2 fun _ _ => rfl)) (fun _ => .nil) (by decide) (by decide) ?H
  case H =>
    intro u c uo ok fn hr hsc hcd hqu
    dsimp only at hsc hcd hqu
    repeat' with_reducible first
 | (refine (?_ : DX _ _ _ _); first
  | refine' q0x ?_
  | refine' q3z ?_ ?_ ?_
  | refine' q5w ‹_› ‹_› (leq hr) (by row_cond k) ?_ rfl)
 | refine' q1q uo ‹_› (leq hr) (by row_cond k) ?_ rfl
 | (refine (?_ : DE _ _ _ _); first
  | refine' q0f ‹_› (by row_cond k) (by decide)
  | exact q1l
  | exact q3y
  | refine' q2g ?_ ?_
  | refine' q1x ?_ ?_ (fun _ _ => rfl))
 | refine' q2z ‹_› ?_ ?_ rfl
 | exact q0w
 | refine' q0j ?_ ?_ rfl
 | exact q0i
 | refine' q0v ?_ ?_
 | intro _ _ _ _
theorem divided_ok : (uo : u.At) → CallOk u (.ref 110) 6 (q0g j0h) := W_divided.pure (by decide) (by decide) fun vs H v hH h => by
 obtain ⟨_, _, rfl, h⟩ := o2_s h
 obtain ⟨a, b, rfl, h⟩ := oQ_s h
 obtain ⟨d, e, rfl, h⟩ := oQ_s h
 obtain ⟨⟨h0, h1, h2⟩, h⟩ := q0h h
 obtain rfl := j0f h
 exact ⟨rfl, q0r hH [fN q0t h0, fv (mulF (H := H) h1), fv (mulF (H := H) h2), fr (q0d hH h)] (by kernel_rfl) rfl⟩
noncomputable def j0d (vs : List V) : Option V := o1 vs fun x => oQ x fun a b => some (.tup [.int (-a), .int b])
noncomputable def W_negated : Df 1 117 1 ["a"] [] [] := by
  refine' Df.mk _ _ _ _ (fun _ => rfl) rfl rfl (fun _ => rfl) rfl (fun _ _ _ => q1d (all1 fun _ => rfl)) (fun _ => .nil) (by decide) (by decide) ?H
  case H =>
    intro u c uo ok fn hr hsc hcd hqu
    dsimp only at hsc hcd hqu
    repeat' with_reducible first
 | refine' q0x ?_
 | (refine (?_ : DE _ _ _ _); first
  | refine' q0f ‹_› (by row_cond k) (by decide)
  | exact q1l
  | refine' d_un ?_
  | refine' q3l ?_
  | refine' q1x ?_ ?_ (fun _ _ => rfl))
 | exact q0w
 | refine' q0j ?_ ?_ rfl
 | exact q0i
 | refine' q0v ?_ ?_
 | intro _ _ _ _
theorem negated_ok : (uo : u.At) → CallOk u (.ref 117) 2 (q0g j0d) := W_negated.pure (by decide) (by decide) fun vs H v hH h => by
 obtain ⟨_, rfl, h⟩ := o1_s h
 obtain ⟨a, b, rfl, h⟩ := oQ_s h
 cases h
 exact ⟨rfl, q0r hH [] (by kernel_rfl) rfl⟩
noncomputable def sgn (a : Int) : Int := if 0 < a then 1 else if a < 0 then -1 else 0
noncomputable def j4d (vs : List V) : Option V := o1 vs fun x => oQ x fun a b => some (.int (sgn a))
noncomputable def W_sign : Df 1 124 1 ["a"] [] [] := by
  refine' Df.mk _ _ _ _ (fun _ => rfl) rfl rfl (fun _ => rfl) rfl (fun _ _ _ => q1d (all1 fun _ => rfl)) (fun _ => .nil) (by decide) (by decide) ?H
  case H =>
    intro u c uo ok fn hr hsc hcd hqu
    dsimp only at hsc hcd hqu
    repeat' with_reducible first
 | (refine (?_ : DX _ _ _ _); first
  | refine' q0x ?_
  | refine' q3z ?_ ?_ ?_)
 | (refine (?_ : DE _ _ _ _); first
  | refine' q0f ‹_› (by row_cond k) (by decide)
  | exact q1l
  | refine' d_un ?_
  | refine' q1x ?_ ?_ (fun _ _ => rfl))
 | refine' q2z ‹_› ?_ ?_ rfl
 | exact q0i
 | refine' q0v ?_ ?_
 | intro _ _ _ _
theorem sign_of_ok : (uo : u.At) → CallOk u (.ref 124) 2 (q0g j4d) := W_sign.pure (by decide) (by decide) fun vs H v hH h => by
 obtain ⟨_, rfl, h⟩ := o1_s h
 obtain ⟨a, b, rfl, h⟩ := oQ_s h
 cases h
 refine ⟨rfl, ?_⟩
 unfold sgn
 by_cases h1 : 0 < a
 · rw [if_pos h1]; exact q0r hH [fT q1c h1] (by kernel_rfl) rfl
 · rw [if_neg h1]
   by_cases h2 : a < 0
   · rw [if_pos h2]; exact q0r hH [fN q1c h1, fT q1n h2] (by kernel_rfl) rfl
   · rw [if_neg h2]; exact q0r hH [fN q1c h1, fN q1n h2] (by kernel_rfl) rfl
noncomputable def j1o (vs : List V) : Option V := o1 vs fun x => oQ x fun a b => oIf (0 < b ∧ b.natAbs < bigN) (some (.int (a / b)))
noncomputable def W_floor : Df 1 138 1 ["a"] [] [] := by
  refine' Df.mk _ _ _ _ (fun _ => rfl) rfl rfl (fun _ => rfl) rfl (fun _ _ _ => q1d (all1 fun _ => rfl)) (fun _ => .nil) (by decide) (by decide) ?H
  case H =>
    intro u c uo ok fn hr hsc hcd hqu
    dsimp only at hsc hcd hqu
    repeat' with_reducible first
 | refine' q0x ?_
 | (refine (?_ : DE _ _ _ _); first
  | refine' q0f ‹_› (by row_cond k) (by decide)
  | exact q1l
  | refine' q2g ?_ ?_
  | refine' q1x ?_ ?_ (fun _ _ => rfl))
 | exact q0i
 | refine' q0v ?_ ?_
 | intro _ _ _ _
theorem floor_of_ok : (uo : u.At) → CallOk u (.ref 138) 2 (q0g j1o) := W_floor.pure (by decide) (by decide) fun vs H v hH h => by
 obtain ⟨_, rfl, h⟩ := o1_s h
 obtain ⟨a, b, rfl, h⟩ := oQ_s h
 obtain ⟨⟨h1, h2⟩, h⟩ := q0h h
 cases h
 exact ⟨rfl, q0r hH [fv (q3v (H := H) (a := a) h1 h2)] (by kernel_rfl) rfl⟩
noncomputable def q9y (vs : List V) : Option V := o1 vs fun x => oQ x fun a b => oIf (0 < b ∧ (2 * b).natAbs < bigN) (some (.int ((2 * a + b) / (2 * b))))
noncomputable def W_rounded : Df 1 145 1 ["a"] [] [] := by
  refine' Df.mk _ _ _ _ (fun _ => rfl) rfl rfl (fun _ => rfl) rfl (fun _ _ _ => q1d (all1 fun _ => rfl)) (fun _ => .nil) (by decide) (by decide) ?H
  case H =>
    intro u c uo ok fn hr hsc hcd hqu
    dsimp only at hsc hcd hqu
    repeat' with_reducible first
 | refine' q0x ?_
 | (refine (?_ : DE _ _ _ _); first
  | refine' q0f ‹_› (by row_cond k) (by decide)
  | exact q1l
  | refine' q2g ?_ ?_
  | refine' q1x ?_ ?_ (fun _ _ => rfl))
 | exact q0i
 | refine' q0v ?_ ?_
 | intro _ _ _ _
theorem rounded_ok : (uo : u.At) → CallOk u (.ref 145) 2 (q0g q9y) := W_rounded.pure (by decide) (by decide) fun vs H v hH h => by
 obtain ⟨_, rfl, h⟩ := o1_s h
 obtain ⟨a, b, rfl, h⟩ := oQ_s h
 obtain ⟨⟨h1, h2⟩, h⟩ := q0h h
 cases h
 have m (x : Int) := mulF (H := H) (x := 2) (y := x) (.inl (by decide))
 exact ⟨rfl, q0r hH [fv (m a), fv (m b), fv (q3v (H := H) (a := 2 * a + b) (b := 2 * b) (by omega) h2)] (by kernel_rfl) rfl⟩
theorem j8o (uo : u.At) (ok : c.Ok) : q1e u c "sign_of" 2 (q0g j4d) np pos es ds := q0o sign_of_ok (fun _ => rfl) (fun _ => rfl) rfl (by decide) uo ok
noncomputable def j5u (vs : List V) : Option V := o2 vs fun x y => oQ x fun a b => oQ y fun d e => oIf (okM a e ∧ okM d b) (some (.int (sgn (a * e - d * b))))
noncomputable def W_compare : Df 2 131 2 ["a", "b"] [] [] := by
  refine' Df.mk _ _ _ _ (fun _ => rfl) rfl rfl (fun _ => rfl) rfl (fun _ _ _ => q1d (all2 fun _ _ => rfl)) (fun _ => .nil) (by decide) (by decide) ?H
  case H =>
    intro u c uo ok fn hr hsc hcd hqu
    dsimp only at hsc hcd hqu
    repeat' with_reducible first
 | refine' q0x ?_
 | refine' j8o uo ‹_› (leq hr) (by row_cond k) ?_ rfl
 | (refine (?_ : DE _ _ _ _); first
  | refine' q0f ‹_› (by row_cond k) (by decide)
  | exact q1l
  | refine' q2g ?_ ?_
  | refine' q3l ?_
  | refine' q1x ?_ ?_ (fun _ _ => rfl))
 | exact q0w
 | refine' q0j ?_ ?_ rfl
 | exact q0i
 | refine' q0v ?_ ?_
 | intro _ _ _ _
theorem compare_ok : (uo : u.At) → CallOk u (.ref 131) 3 (q0g j5u) := W_compare.pure (by decide) (by decide) fun vs H v hH h => by
 obtain ⟨_, _, rfl, h⟩ := o2_s h
 obtain ⟨a, b, rfl, h⟩ := oQ_s h
 obtain ⟨d, e, rfl, h⟩ := oQ_s h
 obtain ⟨⟨h1, h2⟩, h⟩ := q0h h
 cases h
 exact ⟨rfl, q0r hH [fv (mulF (H := H) h1), fv (mulF (H := H) h2), fr (q0d hH (show j4d [.tup [.int (a * e - d * b), .int 1]] = some (.int (sgn (a * e - d * b))) from rfl))] (by kernel_rfl) rfl⟩
end Mi
end
section
namespace Mi
variable {u : U} {c : Cx} {np pos : Pos} {es : List Expr} {ds : D .l}
theorem name_PI_TOP (uo : u.At) (ok : c.Ok) {p : Pos} (hk : KLoc c "PI_TOP" .globalImplicit) : DE u c (.Name (Str.ofString "PI_TOP") p) (.kv (.int 314159265358979323846264338327950288419716939937510)) :=
 q1v uo.ok ok hk (uo.glob rfl) (fun _ => .int _ _) (by decide)
theorem j2f (uo : u.At) (ok : c.Ok) {p : Pos} (hk : KLoc c "PI_BOTTOM" .globalImplicit) : DE u c (.Name (Str.ofString "PI_BOTTOM") p) (.kv (.int 100000000000000000000000000000000000000000000000000)) :=
 q1v uo.ok ok hk (uo.glob rfl) (fun _ => .int _ _) (by decide)
theorem j7j (uo : u.At) (ok : c.Ok) {p : Pos} (hk : KLoc c "MORE" .globalImplicit) : DE u c (.Name (Str.ofString "MORE") p) (.kv (.int 65536)) :=
 q1v uo.ok ok hk (uo.glob rfl) (fun _ => .int _ _) (by decide)
theorem j2s (uo : u.At) (ok : c.Ok) {p : Pos} (hk : KLoc c "RIGHT" .globalImplicit) : DE u c (.Name (Str.ofString "RIGHT") p) (.kv (.tup [.int 90, .int 1])) :=
 q1v uo.ok ok hk (uo.glob rfl) (fun _ => .tup (.inr (uo.get rfl)) rfl rfl (.cons (.int _ _) (.cons (.int _ _) .nil))) (by decide)
theorem j0z (uo : u.At) (ok : c.Ok) {p : Pos} (hk : KLoc c "HALF_RIGHT" .globalImplicit) : DE u c (.Name (Str.ofString "HALF_RIGHT") p) (.kv (.tup [.int 45, .int 1])) :=
 q1v uo.ok ok hk (uo.glob rfl) (fun _ => .tup (.inr (uo.get rfl)) rfl rfl (.cons (.int _ _) (.cons (.int _ _) .nil))) (by decide)
theorem q4l (uo : u.At) (ok : c.Ok) {p : Pos} (hk : KLoc c "ZERO" .globalImplicit) : DE u c (.Name (Str.ofString "ZERO") p) (.kv (.tup [.int 0, .int 1])) :=
 q1v uo.ok ok hk (uo.glob rfl) (fun _ => .tup (.inr (uo.get rfl)) rfl rfl (.cons (.int _ _) (.cons (.int _ _) .nil))) (by decide)
theorem name_ONE (uo : u.At) (ok : c.Ok) {p : Pos} (hk : KLoc c "ONE" .globalImplicit) : DE u c (.Name (Str.ofString "ONE") p) (.kv (.tup [.int 1, .int 1])) :=
 q1v uo.ok ok hk (uo.glob rfl) (fun _ => .tup (.inr (uo.get rfl)) rfl rfl (.cons (.int _ _) (.cons (.int _ _) .nil))) (by decide)
theorem q9f (uo : u.At) (ok : c.Ok) : q1e u c "rounded" 2 (q0g q9y) np pos es ds := q0o rounded_ok (fun _ => rfl) (fun _ => rfl) rfl (by decide) uo ok
theorem q9h (uo : u.At) (ok : c.Ok) : q1e u c "divided" 6 (q0g j0h) np pos es ds := q0o divided_ok (fun _ => rfl) (fun _ => rfl) rfl (by decide) uo ok
theorem j5y (uo : u.At) (ok : c.Ok) : q1e u c "floor_of" 2 (q0g j1o) np pos es ds := q0o floor_of_ok (fun _ => rfl) (fun _ => rfl) rfl (by decide) uo ok
theorem q6b (uo : u.At) (ok : c.Ok) : q1e u c "negated" 2 (q0g j0d) np pos es ds := q0o negated_ok (fun _ => rfl) (fun _ => rfl) rfl (by decide) uo ok
theorem j8r (uo : u.At) (ok : c.Ok) : q1e u c "compare" 3 (q0g j5u) np pos es ds := q0o compare_ok (fun _ => rfl) (fun _ => rfl) rfl (by decide) uo ok
theorem j3h (uo : u.At) (ok : c.Ok) : q1e u c "minus" 6 (q0g minusV) np pos es ds := q0o minus_ok (fun _ => rfl) (fun _ => rfl) rfl (by decide) uo ok
noncomputable def scaledV (vs : List V) : Option V := o2 vs fun x s => oQ x fun a b => oI s fun sc => oIf (b = 1 ∧ small a = true ∧ small sc = true) (some (.int (a * 314159265358979323846264338327950288419716939937510 * sc / 18000000000000000000000000000000000000000000000000000)))
noncomputable def W_scaled : Df 1 217 2 ["degrees", "scale"] [] [] := by
  refine' Df.mk _ _ _ _ (fun _ => rfl) rfl rfl (fun _ => rfl) rfl (fun _ _ _ => q1d (all2 fun _ _ => rfl)) (fun _ => .nil) (by decide) (by decide) ?H
  case H =>
    intro u c uo ok fn hr hsc hcd hqu
    dsimp only at hsc hcd hqu
    repeat' with_reducible first
 | refine' q0x ?_
 | (refine (?_ : DE _ _ _ _); first
  | exact name_PI_TOP uo ‹_› (by row_cond k)
  | exact j2f uo ‹_› (by row_cond k)
  | refine' q0f ‹_› (by row_cond k) (by decide)
  | exact q1l
  | refine' q2g ?_ ?_
  | refine' q1x ?_ ?_ (fun _ _ => rfl))
 | exact q0i
 | refine' q0v ?_ ?_
 | intro _ _ _ _
theorem q8h : (uo : u.At) → CallOk u (.ref 217) 2 (q0g scaledV) := W_scaled.pure (by decide) (by decide) fun vs H v hH h => by
 obtain ⟨_, _, rfl, h⟩ := o2_s h
 obtain ⟨a, b, rfl, h⟩ := oQ_s h
 obtain ⟨sc, rfl, h⟩ := oI_s h
 obtain ⟨⟨rfl, h1, h2⟩, hv⟩ := q0h h
 cases hv
 exact ⟨rfl, q0r hH [fv (mulF (H := H) (x := a) (y := 314159265358979323846264338327950288419716939937510) (.inl h1)), fv (mulF (H := H) (x := a * 314159265358979323846264338327950288419716939937510) (y := sc) (.inr h2)),
   fv (show bin H .Mult (.int 180) (.int 1) = some (.int 180) from (by kernel_rfl)), fv (show bin H .Mult (.int 180) (.int 100000000000000000000000000000000000000000000000000) = some (.int 18000000000000000000000000000000000000000000000000000) from (by kernel_rfl)),
   fv (q3v (H := H) (a := a * 314159265358979323846264338327950288419716939937510 * sc) (b := 18000000000000000000000000000000000000000000000000000) (by decide) (by unfold bigN; decide +kernel))] (by kernel_rfl) rfl⟩
noncomputable def serL (sq sc : Int) : Nat → Int → Int → Int → Option Int
 | 0, _, _, _ => none
 | n + 1, t, x, s => if x = 0 then some t else oIf (okM x sq ∧ (0 < sc ∧ sc.natAbs < bigN) ∧ okM s (s + 1) ∧ 0 < s * (s + 1) ∧ (s * (s + 1)).natAbs < bigN) (serL sq sc n (t + x) (-(x * sq / sc / (s * (s + 1)))) (s + 2))
noncomputable def j4e (vs : List V) : Option V := o2 (vs.take 2) fun a b => o2 (vs.drop 2) fun c d => oI a fun first => oI b fun sq => oI c fun sc => oI d fun begin => (serL sq sc 50 0 first begin).map .int
noncomputable def W_series : Df 1 224 4 ["first", "square", "scale", "begin"] [] [] := by
  refine' Df.mk _ _ _ _ (fun _ => rfl) rfl rfl (fun _ => rfl) rfl (fun _ _ _ => q1d (all4 fun _ _ _ _ => rfl)) (fun _ => .nil) (by decide) (by decide) ?H
  case H =>
    intro u c uo ok fn hr hsc hcd hqu
    dsimp only at hsc hcd hqu
    repeat' with_reducible first
 | (refine (?_ : DX _ _ _ _); first
  | refine' d_whl ‹_› ‹_› ["square", "scale", "total", "term", "step"] ?_ ?_
  | refine' q0x ?_
  | refine' q3f ‹_› ?_ (by row_cond k) (by row_cond s)
  | refine' d_aug ‹_› ?_ (by row_cond k)
  | refine' d_tup3s ‹_› ?_ (q0e ‹_› rfl) (q0e ‹_› rfl) (q0e ‹_› rfl) (by row_cond s) (by row_cond t))
 | (refine (?_ : DE _ _ _ _); first
  | refine' q0f ‹_› (by row_cond k) (by decide)
  | exact q1l
  | refine' d_un ?_
  | refine' q2g ?_ ?_
  | refine' q3l ?_)
 | refine' q2z ‹_› ?_ ?_ rfl
 | exact q0w
 | refine' q0j ?_ ?_ rfl
 | exact q0i
 | refine' q0v ?_ ?_
 | intro _ _ _ _
structure Ser where
 n : Nat
 t : Int
 x : Int
 s : Int
theorem series_ok : (uo : u.At) → CallOk u (.ref 224) 2 (q0g j4e) := W_series.pure (by decide) (by decide) fun vs H v hH h => by
 obtain ⟨_, _, e1, h⟩ := o2_s h
 obtain ⟨_, _, e2, h⟩ := o2_s h
 obtain rfl : vs = _ := (List.take_append_drop 2 vs).symm.trans (by rw [e1, e2])
 obtain ⟨first, rfl, h⟩ := oI_s h
 obtain ⟨sq, rfl, h⟩ := oI_s h
 obtain ⟨sc, rfl, h⟩ := oI_s h
 obtain ⟨begin, rfl, h⟩ := oI_s h
 obtain ⟨r, hr, rfl⟩ := Option.map_eq_some_iff.mp h
 refine ⟨rfl, ?_⟩
 refine q4j (J := fun y => finR H.length y = .ok (.int r) ⟨[], H⟩) ⟨[("first", .int first), ("square", .int sq), ("scale", .int sc), ("begin", .int begin), ("step", .int begin), ("term", .int first), ("total", .int 0)], H⟩ [] (by kernel_rfl) ?_
 refine whl_s (J := fun y => finR H.length y = _) (fun a : Ser => ⟨[("square", .int sq), ("scale", .int sc), ("total", .int a.t), ("term", .int a.x), ("step", .int a.s)], H⟩) (fun a => serL sq sc a.n a.t a.x a.s = some r) Ser.n ?_ ⟨50, 0, first, begin⟩ (by kernel_rfl) hr (show 50 < bigW by unfold bigW; decide +kernel)
 rintro ⟨n, t, x, s⟩ hx
 cases n with
 | zero => cases hx
 | succ n =>
   unfold serL at hx
   by_cases h0 : x = 0
   · rw [if_pos h0] at hx
     cases hx
     exact ⟨false, q3h [gN q7x h0] (by kernel_rfl), (if_neg (by decide)).mpr (q0r hH [] (by kernel_rfl) rfl)⟩
   · rw [if_neg h0] at hx
     obtain ⟨⟨c1, ⟨c2, c3⟩, c4, c5, c6⟩, hx⟩ := q0h hx
     exact ⟨true, q3h [gT q7x h0] (by kernel_rfl), (if_pos rfl).mpr (q3e (x := ⟨n, t + x, _, s + 2⟩) [fv (mulF (H := H) c1), fv (q3v (H := H) (a := x * sq) c2 c3), fv (mulF (H := H) c4), fv (q3v (H := H) (a := x * sq / sc) c5 c6)] (by kernel_rfl) hx (Nat.lt_succ_self _))⟩
theorem q6x (uo : u.At) (ok : c.Ok) : q1e u c "scaled_radians" 2 (q0g scaledV) np pos es ds := q0o q8h (fun _ => rfl) (fun _ => rfl) rfl (by decide) uo ok
theorem call_series (uo : u.At) (ok : c.Ok) : q1e u c "series" 2 (q0g j4e) np pos es ds := q0o series_ok (fun _ => rfl) (fun _ => rfl) rfl (by decide) uo ok
noncomputable def nearV (vs : List V) : Option V := o3 vs fun a b d => oI a fun n => oI b fun sc => oI d fun bt => oIf (okM n bt ∧ (sc ≠ 0 ∧ sc.natAbs < bigN) ∧ bt ≠ 0 ∧ bt.natAbs < bigN) ((q9y [.q (q5c (n * bt) sc)]).bind fun r => oI r fun r => some (.q (q5c r bt)))
noncomputable def W_near : Df 5 238 3 ["number", "scale", "bottom"] [] [] := by
  refine' Df.mk _ _ _ _ (fun _ => rfl) rfl rfl (fun _ => rfl) rfl (fun _ _ _ => q1d (all3 fun _ _ _ => rfl)) (fun _ => .nil) (by decide) (by decide) ?H
  case H =>
    intro u c uo ok fn hr hsc hcd hqu
    dsimp only at hsc hcd hqu
    repeat' with_reducible first
 | refine' q0x ?_
 | (refine (?_ : DE _ _ (.Call _ _ _ _) _); first
  | refine' q1q uo ‹_› (leq hr) (by row_cond k) ?_ rfl
  | refine' q9f uo ‹_› (leq hr) (by row_cond k) ?_ rfl)
 | (refine (?_ : DE _ _ _ _); first
  | refine' q0f ‹_› (by row_cond k) (by decide)
  | refine' q2g ?_ ?_)
 | exact q0w
 | refine' q0j ?_ ?_ rfl
 | exact q0i
 | refine' q0v ?_ ?_
 | intro _ _ _ _
theorem near_ok : (uo : u.At) → CallOk u (.ref 238) 6 (q0g nearV) := W_near.pure (by decide) (by decide) fun vs H v hH h => by
 obtain ⟨_, _, _, rfl, h⟩ := o3_s h
 obtain ⟨n, rfl, h⟩ := oI_s h
 obtain ⟨sc, rfl, h⟩ := oI_s h
 obtain ⟨bt, rfl, h⟩ := oI_s h
 obtain ⟨⟨h1, ⟨h2, h3⟩, h4, h5⟩, h⟩ := q0h h
 obtain ⟨r, hr, h⟩ := Option.bind_eq_some_iff.mp h
 obtain ⟨r, rfl, h⟩ := oI_s h
 cases h
 exact ⟨rfl, q0r hH [fv (mulF (H := H) h1), fr (q0d hH (q6g (t := n * bt) h2 h3)), fr (q0d hH hr), fr (q0d hH (q6g (t := r) h4 h5))] (by kernel_rfl) rfl⟩
theorem call_near (uo : u.At) (ok : c.Ok) : q1e u c "near" 6 (q0g nearV) np pos es ds := q0o near_ok (fun _ => rfl) (fun _ => rfl) rfl (by decide) uo ok
noncomputable def quadV : V := .tup [.int 759250125, .int 1073741824]
noncomputable def is45 (x b : V) : Bool := ((oQ x fun n d => oI b fun bt => oIf (n = 45 ∧ d = 1 ∧ bt = 4294967296) (some ())).isSome)
theorem is45_s {x b : V} (h : is45 x b = true) : x = .tup [.int 45, .int 1] ∧ b = .int 4294967296 := by
 obtain ⟨_, h⟩ := Option.isSome_iff_exists.mp h
 obtain ⟨n, d, rfl, h⟩ := oQ_s h
 obtain ⟨bt, rfl, h⟩ := oI_s h
 obtain ⟨⟨rfl, rfl, rfl⟩, _⟩ := q0h h
 exact ⟨rfl, rfl⟩
noncomputable def q3n (vs : List V) : Option V := o2 vs fun x b => oIf (is45 x b = true) (some (.tup [quadV, quadV]))
noncomputable def W_small : Df 6 231 2 ["degrees", "bottom"] [] [] := by
  refine' Df.mk _ _ _ _ (fun _ => rfl) rfl rfl (fun _ => rfl) rfl (fun _ _ _ => q1d (all2 fun _ _ => rfl)) (fun _ => .nil) (by decide) (by decide) ?H
  case H =>
    intro u c uo ok fn hr hsc hcd hqu
    dsimp only at hsc hcd hqu
    repeat' with_reducible first
 | (refine (?_ : DX _ _ _ _); first
  | refine' q0x ?_
  | refine' q3f ‹_› ?_ (by row_cond k) (by row_cond s)
  | refine' q4f ‹_› ?_ (q0e ‹_› rfl) (q0e ‹_› rfl) (by row_cond s) (by row_cond t))
 | (refine (?_ : DE _ _ (.Call _ _ _ _) _); first
  | refine' q6x uo ‹_› (leq hr) (by row_cond k) ?_ rfl
  | refine' call_series uo ‹_› (leq hr) (by row_cond k) ?_ rfl
  | refine' call_near uo ‹_› (leq hr) (by row_cond k) ?_ rfl)
 | (refine (?_ : DE _ _ _ _); first
  | exact j7j uo ‹_› (by row_cond k)
  | refine' q0f ‹_› (by row_cond k) (by decide)
  | exact q1l
  | refine' q2g ?_ ?_
  | refine' q3l ?_)
 | exact q0w
 | refine' q0j ?_ ?_ rfl
 | exact q0i
 | refine' q0v ?_ ?_
 | intro _ _ _ _
theorem j3y : (uo : u.At) → CallOk u (.ref 231) 7 (q0g q3n) := W_small.pure (by decide) (by decide) fun vs H v hH h => by
 obtain ⟨_, _, rfl, h⟩ := o2_s h
 obtain ⟨h1, h⟩ := q0h h
 obtain ⟨rfl, rfl⟩ := is45_s h1
 cases h
 exact ⟨rfl, q0r hH [fv (show bin H .Mult (.int 4294967296) (.int 65536) = some (.int 281474976710656) from (by kernel_rfl)),
   fr (q0d hH (show scaledV [.tup [.int 45, .int 1], .int 281474976710656] = some (.int 221069929750888) from (by kernel_rfl))),
   fv (show bin H .Mult (.int 221069929750888) (.int 221069929750888) = some (.int 48871913840062555257736788544) from (by kernel_rfl)), fv (show bin H .FloorDiv (.int 48871913840062555257736788544) (.int 281474976710656) = some (.int 173627916808749) from (by kernel_rfl)),
   fr (q0d hH (show j4e [.int 281474976710656, .int 173627916808749, .int 281474976710656, .int 1] = some (.int 199032864766436) from (by kernel_rfl))),
   fr (q0d hH (show j4e [.int 221069929750888, .int 173627916808749, .int 281474976710656, .int 2] = some (.int 199032864766435) from (by kernel_rfl))),
   fr (q0d hH (show nearV [.int 199032864766436, .int 281474976710656, .int 4294967296] = some quadV from (by kernel_rfl))),
   fr (q0d hH (show nearV [.int 199032864766435, .int 281474976710656, .int 4294967296] = some quadV from (by kernel_rfl)))] (by kernel_rfl) rfl⟩
theorem j1t (uo : u.At) (ok : c.Ok) : q1e u c "small_turn" 7 (q0g q3n) np pos es ds := q0o j3y (fun _ => rfl) (fun _ => rfl) rfl (by decide) uo ok
noncomputable def W_quarter : Df 7 245 2 ["degrees", "bottom"] [] [] := by
  refine' Df.mk _ _ _ _ (fun _ => rfl) rfl rfl (fun _ => rfl) rfl (fun _ _ _ => q1d (all2 fun _ _ => rfl)) (fun _ => .nil) (by decide) (by decide) ?H
  case H =>
    intro u c uo ok fn hr hsc hcd hqu
    dsimp only at hsc hcd hqu
    repeat' with_reducible first
 | (refine (?_ : DX _ _ _ _); first
  | refine' q0x ?_
  | refine' q3z ?_ ?_ ?_
  | refine' q3f ‹_› ?_ (by row_cond k) (by row_cond s)
  | refine' q9a ‹_› ?_ (q0e ‹_› rfl) (q0e ‹_› rfl) (by row_cond s) (by row_cond t))
 | (refine (?_ : DE _ _ (.Call _ _ _ _) _); first
  | refine' j8r uo ‹_› (leq hr) (by row_cond k) ?_ rfl
  | refine' j1t uo ‹_› (leq hr) (by row_cond k) ?_ rfl
  | refine' j3h uo ‹_› (leq hr) (by row_cond k) ?_ rfl)
 | (refine (?_ : DE _ _ _ _); first
  | exact j2s uo ‹_› (by row_cond k)
  | exact j0z uo ‹_› (by row_cond k)
  | refine' q0f ‹_› (by row_cond k) (by decide)
  | exact q1l
  | refine' q3l ?_)
 | refine' q2z ‹_› ?_ ?_ rfl
 | exact q0w
 | refine' q0j ?_ ?_ rfl
 | exact q0i
 | refine' q0v ?_ ?_
 | intro _ _ _ _
theorem j0t : (uo : u.At) → CallOk u (.ref 245) 8 (q0g q3n) := W_quarter.pure (by decide) (by decide) fun vs H v hH h => by
 have h0 := h
 obtain ⟨_, _, rfl, h⟩ := o2_s h
 obtain ⟨h1, h⟩ := q0h h
 obtain ⟨rfl, rfl⟩ := is45_s h1
 cases h
 exact ⟨rfl, q0r hH [fr (q0d hH (show j5u [.tup [.int 45, .int 1], .tup [.int 45, .int 1]] = some (.int 0) from (by kernel_rfl))), fN q1n (show ¬ (0 : Int) < 0 by decide), fT q0t (show (0 : Int) = 0 from rfl), fr (q0d hH h0)] (by kernel_rfl) rfl⟩
theorem q8s (uo : u.At) (ok : c.Ok) : q1e u c "quarter_turn" 8 (q0g q3n) np pos es ds := q0o j0t (fun _ => rfl) (fun _ => rfl) rfl (by decide) uo ok
end Mi
end
section
namespace Mi
variable {u : U} {c : Cx} {np pos : Pos} {es : List Expr} {ds : D .l}
theorem j8c (t : Int) : q5c t 1 = (t, 1) := by
 rw [show q5c t 1 = _ from if_neg (by decide)]
 simp
theorem fracI_div (n : Int) : 0 < (q5c n 90).2 ∧ (q5c n 90).2.natAbs < bigN ∧ (q5c n 90).1 / (q5c n 90).2 = n / 90 := by
 rw [show q5c n 90 = _ from if_neg (by decide)]
 dsimp only
 have h1 : Nat.gcd n.natAbs (90 : Int).natAbs ∣ 90 := Nat.gcd_dvd_right _ _
 have h2 : Nat.gcd n.natAbs (90 : Int).natAbs ∣ n.natAbs := Nat.gcd_dvd_left _ _
 generalize Nat.gcd n.natAbs (90 : Int).natAbs = g at *
 obtain ⟨m, hm⟩ := h1
 obtain ⟨k, hk⟩ := Int.ofNat_dvd_left.mpr h2
 have hg : 0 < g := Nat.pos_of_ne_zero fun h => by subst h; simp at hm
 have hmp : 0 < m := Nat.pos_of_ne_zero fun h => by subst h; simp at hm
 have e90 : (90 : Int) = g * m := by exact_mod_cast hm
 have hgz : (g : Int) ≠ 0 := by omega
 rw [e90, hk, Int.mul_ediv_cancel_left _ hgz, Int.mul_ediv_cancel_left _ hgz]
 refine ⟨by omega, ?_, by rw [Int.mul_ediv_mul_of_pos _ _ (by omega)]⟩
 have : m ≤ 90 := by rw [hm]; exact Nat.le_mul_of_pos_left _ hg
 have : (90 : Nat) < bigN := by unfold bigN; decide +kernel
 omega
noncomputable abbrev Pr := (Int × Int) × (Int × Int)
noncomputable def rotP (p : Pr) : Pr := ((-p.2.1, p.2.2), p.1)
noncomputable def rotN : Nat → Pr → Pr
 | 0, p => p
 | n + 1, p => rotN n (rotP p)
noncomputable def prV (p : Pr) : V := .tup [.q p.1, .q p.2]
noncomputable def turn0 (n bt : Int) : Option Pr := if n % 90 = 0 then some ((1, 1), (0, 1)) else if n % 90 = 45 ∧ bt = 4294967296 then some ((759250125, 1073741824), (759250125, 1073741824)) else none
noncomputable def turnV (vs : List V) : Option V := o2 vs fun x b => oQ x fun n d => oI b fun bt => oIf (d = 1 ∧ n.natAbs < 100000) ((turn0 n bt).map fun p => prV (rotN (n / 90 % 4).toNat p))
noncomputable def q4a : Df 8 253 2 ["degrees", "bottom"] [] [] := by
  refine' Df.mk _ _ _ _ (fun _ => rfl) rfl rfl (fun _ => rfl) rfl (fun uo _ hs => all2 fun _ _ => BindsTo.of_defaults rfl (hs _ _ (uo.get rfl)) rfl rfl rfl) (fun _ => .nil) (by decide) (by decide) ?H
  case H =>
    intro u c uo ok fn hr hsc hcd hqu
    dsimp only at hsc hcd hqu
    repeat' with_reducible first
 | (refine (?_ : DX _ _ _ _); first
  | refine' d_for (cell := false) ‹_› ‹_› ["cosine", "sine"] ?_ (by row_cond k) ?_ (fun _ => rfl)
  | refine' q0x ?_
  | refine' q3z ?_ ?_ ?_
  | refine' q3f ‹_› ?_ (by row_cond k) (by row_cond s)
  | refine' q4f ‹_› ?_ (q0e ‹_› rfl) (q0e ‹_› rfl) (by row_cond s) (by row_cond t)
  | refine' q9a ‹_› ?_ (q0e ‹_› rfl) (q0e ‹_› rfl) (by row_cond s) (by row_cond t))
 | (refine (?_ : DE _ _ (.Call _ _ _ _) _); first
  | refine' q9h uo ‹_› (leq hr) (by row_cond k) ?_ rfl
  | refine' j5y uo ‹_› (leq hr) (by row_cond k) ?_ rfl
  | refine' j3h uo ‹_› (leq hr) (by row_cond k) ?_ rfl
  | refine' q8s uo ‹_› (leq hr) (by row_cond k) ?_ rfl
  | refine' q6b uo ‹_› (leq hr) (by row_cond k) ?_ rfl)
 | (refine (?_ : DE _ _ _ _); first
  | exact j2s uo ‹_› (by row_cond k)
  | refine' q0f ‹_› (by row_cond k) (by decide)
  | exact q1l
  | refine' q2g ?_ ?_
  | refine' q3l ?_
  | refine' q1x ?_ ?_ (fun _ _ => rfl))
 | refine' q2z ‹_› ?_ ?_ rfl
 | exact q0w
 | refine' q0j ?_ ?_ rfl
 | exact q0i
 | refine' q0v ?_ ?_
 | refine' q9d (q2r ‹_› ‹_› (by row_cond k)) ?_ rfl
 | intro _ _ _ _
theorem j6n {vs : List V} {H : List AO} {v : V} (hH : H.all (q0b H.length) = true) (h : turnV vs = some v) : vs.length = 2 ∧ finR H.length (ev q4a.d ⟨["degrees", "bottom"].zip (vs ++ []), H⟩) = .ok v ⟨[], H⟩ := by
 obtain ⟨_, _, rfl, h⟩ := o2_s h
 obtain ⟨n, d, rfl, h⟩ := oQ_s h
 obtain ⟨bt, rfl, h⟩ := oI_s h
 obtain ⟨⟨rfl, hn⟩, h2⟩ := q0h h
 obtain ⟨p, hp, rfl⟩ := Option.map_eq_some_iff.mp h2
 refine ⟨rfl, ?_⟩
 obtain ⟨d1, d2, d3⟩ := fracI_div n
 have e1 : j0h [.tup [.int n, .int 1], .tup [.int 90, .int 1]] = some (.q (q5c n 90)) := by
   refine (q0l (p := (90 : Int) ≠ 0 ∧ okM n 1 ∧ okM 1 90) ⟨by decide, .inr (by decide), .inl (by decide)⟩).trans ?_
   rw [Int.mul_one]
   exact q6g (b := 90) (by decide) (by unfold bigN; decide +kernel)
 have e2 : j1o [.q (q5c n 90)] = some (.int (n / 90)) := by
   rw [← d3]; exact q0l ⟨d1, d2⟩
 have e3 := mulF (H := H) (x := 90) (y := n / 90) (.inl (by decide))
 have e4 : minusV [.tup [.int n, .int 1], .tup [.int (90 * (n / 90)), .int 1]] = some (.q (n % 90, 1)) := by
   refine (q0l (p := okM n 1 ∧ okM (90 * (n / 90)) 1 ∧ okM 1 1) ⟨.inr (by decide), .inr (by decide), .inl (by decide)⟩).trans ?_
   rw [Int.mul_one, Int.mul_one, show n - 90 * (n / 90) = n % 90 by omega]
   have := q6g (t := n % 90) (b := 1) (by decide) (by unfold bigN; decide +kernel)
   rwa [j8c] at this
 have e6 : rngV [.int (n / 90 % 4)] = some (.rng 0 (n / 90 % 4)) := or_p (q0l ⟨by omega, by omega⟩)
 have hl : (rngL 0 (n / 90 % 4)).length = (n / 90 % 4).toNat := by rw [q9z, Int.sub_zero]
 refine q4j (J := fun y => finR H.length y = _) ⟨[("degrees", .tup [.int n, .int 1]), ("bottom", .int bt), ("quarters", .int (n / 90))], H⟩ [fr (q0d hH e1), fr (q0d hH e2)] (by kernel_rfl) ?_
 refine q4j (J := fun y => finR H.length y = _) ⟨[("degrees", .tup [.int n, .int 1]), ("bottom", .int bt), ("quarters", .int (n / 90)), ("rest", .q (n % 90, 1))], H⟩ [fv e3, fr (q0d hH e4)] (by kernel_rfl) ?_
 refine q4j (J := fun y => finR H.length y = _) ⟨[("degrees", .tup [.int n, .int 1]), ("bottom", .int bt), ("quarters", .int (n / 90)), ("rest", .q (n % 90, 1)), ("cosine", .q (1, 1)), ("sine", .q (0, 1))], H⟩ [] (by kernel_rfl) ?_
 refine j6w (J := fun y => finR H.length y = _) (σ1 := ⟨[("degrees", .tup [.int n, .int 1]), ("bottom", .int bt), ("quarters", .int (n / 90)), ("rest", .q (n % 90, 1)), ("cosine", .q p.1), ("sine", .q p.2)], H⟩) ?_ ?_
 · unfold turn0 at hp
   by_cases h0 : n % 90 = 0
   · rw [if_pos h0] at hp
     cases hp
     exact q1j [gN q7x h0] (by kernel_rfl)
   · rw [if_neg h0] at hp
     obtain ⟨⟨h1, rfl⟩, hp2⟩ := q0h hp
     cases hp2
     rw [h1]
     exact q1j [gT q7x (show ¬ (45 : Int) = 0 by decide), fr (q0d hH (show q3n [.tup [.int 45, .int 1], .int 4294967296] = some (.tup [quadV, quadV]) from (by kernel_rfl)))] (by kernel_rfl)
 refine for_s (J := fun y => finR H.length y = _) rfl (fun p : Pr => ⟨[("cosine", .q p.1), ("sine", .q p.2)], H⟩) (rngL 0 (n / 90 % 4)) (fun k q => rotN ((n / 90 % 4).toNat - k) q = rotN (n / 90 % 4).toNat p) p [fv (q2l (H := H) (a := n / 90) (b := 4) (by decide)), fS e6] (by kernel_rfl) rfl (fun _ _ => q6t) ?_ ?_ ?_
 · rw [q9z]; exact Nat.lt_succ_self _
 · intro k q v hk hq
   have hlt := (List.getElem?_eq_some_iff.mp hk).1
   rw [hl] at hlt
   refine q3q (rotP q) [fr (q0d hH (show j0d [.q q.2] = some (.q (-q.2.1, q.2.2)) from rfl))] (by kernel_rfl) ?_
   rw [← hq, show (n / 90 % 4).toNat - k = (n / 90 % 4).toNat - (k + 1) + 1 by omega]
   rfl
 · intro q hq
   rw [hl, Nat.sub_self] at hq
   obtain rfl : q = _ := hq
   exact q0r hH [] (by kernel_rfl) rfl
theorem turn_of_ok : (uo : u.At) → CallOk u (.ref 253) 9 (q0g turnV) := q4a.pure (by decide) (by decide) fun vs H v hH h => j6n hH h
noncomputable def W_turn1 : Df 8 253 1 ["degrees", "bottom"] [.int 65536 514] [.int 65536] := Df.mk q4a.d q4a.fo q4a.fd q4a.body q4a.h1 q4a.h2 q4a.h3 q4a.h4 q4a.h5 (fun uo _ hs => all1 fun _ => BindsTo.of_defaults rfl (hs _ _ (uo.get rfl)) rfl rfl rfl) (fun _ => .cons (.int _ _) .nil) q4a.h7 q4a.h8 q4a.H
noncomputable def turn1V (vs : List V) : Option V := o1 vs fun x => turnV [x, .int 65536]
theorem turn_of1_ok : (uo : u.At) → CallOk u (.ref 253) 9 (q0g turn1V) := W_turn1.pure (by decide) (by decide) fun vs H v hH h => by
 obtain ⟨x, rfl, h⟩ := o1_s h
 exact ⟨rfl, (j6n (vs := [x, .int 65536]) hH h).2⟩
end Mi
end
section
namespace Mi
variable {u : U} {c : Cx} {np pos : Pos} {es : List Expr} {ds : D .l}
noncomputable def oTB {α : Type} (vs : List V) (k : List Nat → Nat → Option α) : Option α := o2 vs fun x y => oS x fun t => oI y fun b => oIf (t.length ≤ 90000 ∧ 0 ≤ b ∧ b ≤ t.length) (k t b.toNat)
theorem j7f {α : Type} {vs : List V} {k : List Nat → Nat → Option α} {x : α} (h : oTB vs k = some x) : ∃ t, ∃ b : Nat, vs = [.str t, .int b] ∧ t.length ≤ 90000 ∧ b ≤ t.length ∧ k t b = some x := by
 obtain ⟨_, _, rfl, h⟩ := o2_s h
 obtain ⟨t, rfl, h⟩ := oS_s h
 obtain ⟨b, rfl, h⟩ := oI_s h
 obtain ⟨⟨h1, h2, h3⟩, h⟩ := q0h h
 obtain ⟨b, rfl⟩ := Int.eq_ofNat_of_zero_le h2
 exact ⟨t, b, rfl, h1, Int.ofNat_le.mp h3, h⟩
theorem oTB_p {α : Type} {k : List Nat → Nat → Option α} {t : List Nat} {b : Nat} (h1 : t.length ≤ 90000) (h2 : b ≤ t.length) : oTB [.str t, .int (b : Int)] k = k t b := q0l ⟨h1, Int.natCast_nonneg _, Int.ofNat_le.mpr h2⟩
theorem j4w {n m : Nat} (h : n ≤ 90000) : n - m < bigW := Nat.lt_of_le_of_lt (Nat.sub_le _ _) (Nat.lt_of_le_of_lt h (by unfold bigW; decide +kernel))
theorem zlt {a b : Nat} (h : a < b) : (a : Int) < b := Int.ofNat_lt.mpr h
theorem znlt {a b : Nat} (h : ¬ a < b) : ¬ (a : Int) < b := fun q => h (Int.ofNat_lt.mp q)
theorem zne {a b : Nat} (h : ¬ a = b) : ¬ (a : Int) = b := fun q => h (Int.ofNat_inj.mp q)
theorem q1f {t : List Nat} (h : t.length ≤ 90000) : t.length ≤ 100000 := Nat.le_trans h (by decide)
noncomputable def blQ (t : List Nat) (i : Nat) : Bool := match t[i]? with | some k => decide (k ∈ q0a " \t\n\r") | none => false
theorem bl_at {t : List Nat} {i k : Nat} (hk : t[i]? = some k) : blQ t i = decide (k ∈ q0a " \t\n\r") := by unfold blQ; rw [hk]
noncomputable def q0p (t : List Nat) (b : Nat) : Nat := q0n (blQ t) b (t.length - b)
noncomputable def j8s (vs : List V) : Option V := oTB vs fun t b => some (.int (q0p t b))
theorem fn_stop {q : Nat → Bool} {b n : Nat} (h : q b = false) : q0n q b n = b := by
 cases n with
 | zero => rfl
 | succ n => unfold q0n; rw [if_neg (by simp [h])]
theorem fn_go {q : Nat → Bool} {b n : Nat} (h : q b = true) (hn : b < n) : q0n q b (n - b) = q0n q (b + 1) (n - (b + 1)) := by
 obtain ⟨m, hm⟩ : ∃ m, n - b = m + 1 := ⟨n - b - 1, by omega⟩
 rw [hm, show n - (b + 1) = m by omega]
 show (if q b then _ else _) = _
 rw [if_pos h]
theorem fn_end {q : Nat → Bool} {n : Nat} : q0n q n (n - n) = n := by rw [Nat.sub_self]; rfl
theorem q2y {σ : St} {x : String} {k : Nat} {v : V} (h1 : σ.get x = some (.obj k)) (h2 : σ.hp[k]? = some (.cell v)) : getC σ x = some v := by unfold getC; rw [h1]; show σ.hp[k]?.bind _ = _; rw [h2]; rfl
theorem app_at {H E : List AO} {k : Nat} {x : AO} (h : H[k]? = some x) : (H ++ E)[k]? = some x := by
 rw [List.getElem?_append_left (List.getElem?_eq_some_iff.mp h).1]; exact h
theorem q9i {H E : List AO} {x : AO} : (H ++ x :: E)[H.length]? = some x := by rw [List.getElem?_append_right (Nat.le_refl _), Nat.sub_self]; rfl
theorem j1z {H E : List AO} {x y : AO} : (H ++ x :: y :: E)[H.length + 1]? = some y := by rw [List.getElem?_append_right (Nat.le_succ _), show H.length.succ - H.length = 1 by omega]; rfl
theorem q4c {b n : Nat} : (rngL (b : Int) (n : Int)).length = n - b := by rw [q9z]; omega
theorem rng_mem {b n : Nat} {v : V} (h : v ∈ rngL (b : Int) (n : Int)) : ∃ i : Nat, v = .int i ∧ b ≤ i ∧ i < n := by
 unfold rngL at h
 obtain ⟨j, h1, h2⟩ := List.mem_map.mp h
 have := List.mem_range.mp h1
 exact ⟨b + j, by rw [← h2]; push_cast; rfl, by omega, by omega⟩
theorem min_rng {H : List AO} {q : Nat → Bool} {b n : Nat} (h : b ≤ n) : minV H [.lst ((rngL (b : Int) (n : Int)).filter (qV q) ++ [.int (n : Int)])] = some (.int (q0n q b (n - b))) := by
 have := min_comp (H := H) (q := q) (b := b) (n := n - b)
 rw [show b + (n - b) = n by omega] at this
 exact this
theorem ints_below {n : Nat} {l : List V} (h : ∀ v ∈ l, ∃ i, v = .int i) : belows n l = true := q3b fun v hv => by obtain ⟨i, rfl⟩ := h v hv; rfl
theorem comp_rng {x : String} (t : D .b) (g : D .v) {H : List AO} {loc : List (String × V)} {b n : Nat} (q : Nat → Bool) (hx : loc.lookup x = none) (hL : n ≤ 100000) (hH : H.all (q0b H.length) = true)
   (ht : ∀ (i : Nat) acc, b ≤ i → i < n → (H ++ [AO.lst acc]).all (q0b (H ++ [AO.lst acc]).length) = true → ev t ⟨loc ++ [(x, .int i)], H ++ [.lst acc]⟩ = .ok (!q i) ⟨loc ++ [(x, .int i)], H ++ [.lst acc]⟩)
   (hg : ∀ v acc, ev g ⟨loc ++ [(x, v)], H ++ [.lst acc]⟩ = .ok v ⟨loc ++ [(x, v)], H ++ [.lst acc]⟩) : j8j false x (.rng (b : Int) (n : Int)) (ev t) (ev g) loc ⟨[], H⟩ = .ok (.lst ((rngL (b : Int) (n : Int)).filter (qV q))) ⟨[], H⟩ := by
 have := comp_s (src := .rng (b : Int) (n : Int)) t g (rngL (b : Int) (n : Int)) (qV q) id hx (by rw [q4c]; omega) hH (ints_below fun v hv => by
   rw [List.map_id] at hv
   obtain ⟨i, rfl, _⟩ := rng_mem (List.mem_filter.mp hv).1
   exact ⟨_, rfl⟩) (fun _ _ => q6t) (by rw [q9z]; exact Nat.lt_succ_self _) (fun v acc hm hG => by
     obtain ⟨i, rfl, h1, h2⟩ := rng_mem hm
     exact ht i acc h1 h2 hG) (fun v acc _ _ _ => hg v acc)
 rwa [List.map_id] at this
theorem flt_add {H : List AO} (q : Nat → Bool) (b : Nat) {n : Nat} (h : n ≤ 90000) : bin H .Add (.lst ((rngL (b : Int) (n : Int)).filter (qV q))) (.lst [.int n]) = some (.lst ((rngL (b : Int) (n : Int)).filter (qV q) ++ [.int n])) := j6i (by
 have := List.length_filter_le (qV q) (rngL (b : Int) n)
 rw [q4c] at this
 rw [List.length_singleton]; omega)
theorem name_SPACES (uo : u.At) (ok : c.Ok) {p : Pos} (hk : KLoc c "SPACES" .globalImplicit) : DE u c (.Name (Str.ofString "SPACES") p) (.kv (.str (q0a " \t\n\r"))) :=
 q1v uo.ok ok hk (uo.glob rfl) (fun _ => by rw [q1u]; exact .str _ _) (by decide)
theorem q9o (uo : u.At) (ok : c.Ok) {p : Pos} (hk : KLoc c "_law_blanks" .globalImplicit) : DE u c (.Name (Str.ofString "_law_blanks") p) (.kv (.str (q0a " \t\n\r"))) :=
 q1v uo.ok ok hk (uo.glob rfl) (fun _ => by rw [q1u]; exact .str _ _) (by decide)
noncomputable def W_sp : Df 1 387 2 ["text", "at"] [] [] := by
  refine' Df.mk _ _ _ _ (fun _ => rfl) rfl rfl (fun _ => rfl) rfl (fun _ _ _ => q1d (all2 fun _ _ => rfl)) (fun _ => .nil) (by decide) (by decide) ?H
  case H =>
    intro u c uo ok fn hr hsc hcd hqu
    dsimp only at hsc hcd hqu
    repeat' with_reducible first
 | (refine (?_ : DX _ _ _ _); first
  | refine' d_whl ‹_› ‹_› ["text", "at"] ?_ ?_
  | refine' q0x ?_
  | refine' d_aug ‹_› ?_ (by row_cond k))
 | refine' q5i (q1h ‹_› ‹_› (by row_cond k)) ?_ rfl
 | (refine (?_ : DE _ _ _ _); first
  | exact name_SPACES uo ‹_› (by row_cond k)
  | refine' q0f ‹_› (by row_cond k) (by decide)
  | exact q1l
  | refine' q1x ?_ ?_ (fun _ _ => rfl))
 | refine' q2z ‹_› ?_ ?_ rfl
 | refine' q3s ?_
 | exact q0w
 | refine' q0j ?_ ?_ rfl
 | exact q0i
 | refine' q0v ?_ ?_
 | exact d_tsA
 | refine' j3c ?_ ?_
 | intro _ _ _ _
theorem j3x : (uo : u.At) → CallOk u (.ref 387) 2 (q0g j8s) := W_sp.pure (by decide) (by decide) fun vs H v hH h => by
 obtain ⟨t, b, rfl, h1, h3, h⟩ := j7f h
 cases h
 refine ⟨rfl, ?_⟩
 refine whl_s (J := fun r => finR H.length r = .ok (.int (q0p t b)) ⟨[], H⟩) (fun i : Nat => ⟨[("text", .str t), ("at", .int i)], H⟩) (fun i => i ≤ t.length ∧ q0p t i = q0p t b) (fun i => t.length - i) ?_ b (by kernel_rfl) ⟨h3, rfl⟩ (j4w h1)
 rintro i ⟨hi, g4⟩
 have e1 := len_str (H := H) (q1f h1)
 by_cases hlt : i < t.length
 · obtain ⟨k, hk⟩ : ∃ k, t[i]? = some k := ⟨_, List.getElem?_eq_getElem hlt⟩
   have e2 := q4z (H := H) (q1f h1) hk
   by_cases hbl : k ∈ q0a " \t\n\r"
   · exact ⟨true, q3h [fv e1, fT q1n (zlt hlt), fv e2, fT in_str hbl] (by kernel_rfl), (if_pos rfl).mpr (q3e (x := i + 1) [] (by kernel_rfl) ⟨hlt, by rw [← g4]; exact (fn_go (by rw [bl_at hk]; exact decide_eq_true hbl) hlt).symm⟩ (by omega))⟩
   · refine ⟨false, q3h [fv e1, fT q1n (zlt hlt), fv e2, fN in_str hbl] (by kernel_rfl), (if_neg (by decide)).mpr ?_⟩
     rw [← g4, show q0p t i = i from fn_stop (by rw [bl_at hk]; exact decide_eq_false hbl)]
     exact q0r hH [] (by kernel_rfl) rfl
 · refine ⟨false, q3h [fv e1, fN q1n (znlt hlt)] (by kernel_rfl), (if_neg (by decide)).mpr ?_⟩
   have : i = t.length := by omega
   rw [← g4, this, show q0p t t.length = t.length from fn_end]
   exact q0r hH [] (by kernel_rfl) rfl
noncomputable def W_lb : DfC 1 444 2 ["text", "begin"] ["text"] := by
  refine' DfC.mk _ _ _ _ (fun _ => rfl) rfl rfl (fun _ => rfl) rfl rfl rfl (all2 fun _ _ => rfl) (by decide) (by decide) ?H
  case H =>
    intro u c uo ok fn hr hsc hcd hqu
    dsimp only at hsc hcd hqu
    repeat' with_reducible first
 | refine' q0x ?_
 | (refine (?_ : DE _ _ (.Call _ _ _ _) _); first
  | refine' q5i (q1h ‹_› ‹_› (by row_cond k)) ?_ rfl
  | refine' d_max ‹_› (j0e ‹_› ‹_› (by row_cond k)) ?_ rfl
  | refine' d_min ‹_› (j4v ‹_› ‹_› (by row_cond k)) ?_ rfl)
 | (refine (?_ : DE _ _ _ _); first
  | exact q9o uo ‹_› (by row_cond k)
  | (refine (?_ : DE _ _ (.ListComp _ _ _ _) _); refine' q7v ‹_› ["text"] ?_ (q2h ‹_› rfl rfl rfl rfl rfl rfl rfl) (fun _ => rfl) ?_ ?_)
  | refine' q0f ‹_› (by row_cond k) (by decide)
  | refine' d_cell ‹_› (by row_cond k) (by decide)
  | refine' j8i ?_
  | refine' q2g ?_ ?_
  | refine' q1x ?_ ?_ (fun _ _ => rfl))
 | refine' q2z ‹_› ?_ ?_ rfl
 | exact q0w
 | refine' q0j ?_ ?_ rfl
 | exact q0i
 | refine' q0v ?_ ?_
 | refine' q9d (q2r ‹_› ‹_› (by row_cond k)) ?_ rfl
 | refine' d_lt1 ?_
 | intro _ _ _ _
theorem q7e : (uo : u.At) → CallOk u (.ref 444) 2 (q0g j8s) := W_lb.pure (by decide) (by decide) fun vs H v hH h => by
 obtain ⟨t, b, rfl, h1, h3, h⟩ := j7f h
 cases h
 refine ⟨rfl, ?_⟩
 have hA : (H ++ [AO.cell (.str t)]).all (q0b (H ++ [AO.cell (.str t)]).length) = true := q1s hH rfl
 have e1 := len_str (H := H ++ [AO.cell (.str t)]) (q1f h1)
 have hg : getC ⟨[("begin", .int b), ("text", .obj H.length)], H ++ [.cell (.str t)]⟩ "text" = some (.str t) := q2y rfl q9i
 have e6 : maxV [.int (b : Int), .int (t.length : Int)] = some (.int (t.length : Int)) := by rw [max_nat, Nat.max_eq_right h3]
 refine q2d (E := [.cell (.str t)]) (v := .int (q0p t b)) hH [fv hg, fv e1, fS (rng_seq (a := b) (b := t.length) (by omega) (by omega)), fr (comp_rng (ct W_lb.d 0) (cg W_lb.d 0) (x := "at") (b := b) (n := t.length) (H := H ++ [.cell (.str t)]) (loc := [("text", .obj H.length)]) (blQ t) rfl (by omega) hA ?_ ?_), fv hg, fv e1, fv e6, fv (flt_add (H := H ++ [.cell (.str t)]) (blQ t) b h1), fv (min_rng (H := H ++ [.cell (.str t)]) (q := blQ t) h3)] (by kernel_rfl) rfl
 · intro i acc k1 k2 _
   obtain ⟨k, hk⟩ : ∃ k, t[i]? = some k := ⟨_, List.getElem?_eq_getElem k2⟩
   have hg : getC ⟨[("text", .obj H.length)] ++ [("at", .int i)], (H ++ [.cell (.str t)]) ++ [.lst acc]⟩ "text" = some (.str t) := q2y rfl (app_at q9i)
   rw [bl_at hk]
   exact q3h [fv hg, fv (q4z (H := (H ++ [.cell (.str t)]) ++ [.lst acc]) (q1f h1) hk), fb (nin_str (k := k) (l := q0a " \t\n\r"))] (by kernel_rfl)
 · intro v acc
   exact j3u [] (by kernel_rfl)
noncomputable def q1z (ahead : List Nat) : Bool := match ahead.getLast? with | none => true | some k => decide (k ∈ q0a "eE")
noncomputable def isOf (ahead : List Nat) (c : Nat) : Bool := if c ∈ q0a "+-" then q1z ahead else if c ∈ q0a "eE" then !q1z ahead else if c = 46 then ahead.all (fun k => !decide (k ∈ q0a ".eE")) else decide (c ∈ q0a "0123456789")
noncomputable def ofQ (t : List Nat) (b i : Nat) : Bool := match t[i]? with | some k => isOf (slL t b i) k | none => false
noncomputable def nEnd (t : List Nat) (b : Nat) : Nat := q0n (ofQ t b) b (t.length - b)
noncomputable def q1a (t : List Nat) : Bool := t.all (· < 128)
theorem j4a {t : List Nat} {b : Nat} : slL t b b = [] := by unfold slL; simp
theorem j4b {t : List Nat} {b i k : Nat} (hb : b ≤ i) (hk : t[i]? = some k) : slL t b (i + 1) = slL t b i ++ [k] := by
 unfold slL
 have := (List.getElem?_eq_some_iff.mp hk).1
 rw [List.take_add_one, hk, List.drop_append_of_le_length (by rw [List.length_take]; omega)]
 rfl
theorem q9u {t : List Nat} {b i : Nat} (h : q1a t = true) : q1a (slL t b i) = true := by
 unfold q1a slL at *
 rw [List.all_eq_true] at h ⊢
 exact fun x hx => h x (List.mem_of_mem_take (List.mem_of_mem_drop hx))
theorem q8v {t : List Nat} {b i : Nat} : (slL t b i).length ≤ t.length := by unfold slL; simp; omega
theorem j3a {t : List Nat} {b : Nat} : q1z (slL t b b) = true := by rw [j4a]; rfl
theorem first_next {t : List Nat} {b i k : Nat} (hb : b ≤ i) (hk : t[i]? = some k) : q1z (slL t b (i + 1)) = decide (k ∈ q0a "eE") := by
 rw [j4b hb hk]; unfold q1z; rw [List.getLast?_append]; rfl
theorem low_e {l : List Nat} : (101 ∈ l.map lowc) ↔ (101 ∈ l ∨ 69 ∈ l) := by
 rw [List.mem_map]
 constructor
 · rintro ⟨a, h1, h2⟩
   unfold lowc at h2
   split at h2
   · right; have : a = 69 := by omega
     rw [← this]; exact h1
   · left; rw [← h2]; exact h1
 · rintro (h | h)
   · exact ⟨101, h, rfl⟩
   · exact ⟨69, h, rfl⟩
theorem q6u (k : Nat) : (k ∈ q0a "0123456789") ↔ (48 ≤ k ∧ k ≤ 57) := by
 show k ∈ List.range' 48 10 ↔ _
 rw [List.mem_range'_1]
 exact ⟨fun h => ⟨h.1, Nat.le_of_lt_succ h.2⟩, fun h => ⟨h.1, Nat.lt_succ_of_le h.2⟩⟩
theorem one_lt {a b : Nat} : ([a] < [b]) ↔ a < b := by
 rw [List.cons_lt_cons_iff]; simp
theorem lower_is' {l : List Nat} (h : q1a l = true) (h2 : l.length ≤ 100000) : lowerV l [] = some (.str (l.map lowc)) := q0l ⟨fun k hk => of_decide_eq_true (List.all_eq_true.mp h k hk), h2⟩
theorem of_at {t : List Nat} {b i k : Nat} (hk : t[i]? = some k) : ofQ t b i = isOf (slL t b i) k := by unfold ofQ; rw [hk]
theorem prev_at {t : List Nat} {b i : Nat} (hb : b < i) (hi : i ≤ t.length) : ∃ k, t[i - 1]? = some k ∧ q1z (slL t b i) = decide (k ∈ q0a "eE") ∧ slL t b i = slL t b (i - 1) ++ [k] := by
 have hk : t[i - 1]? = some t[i - 1] := List.getElem?_eq_getElem (by omega)
 have h1 := first_next (t := t) (b := b) (i := i - 1) (by omega) hk
 have h2 := j4b (t := t) (b := b) (i := i - 1) (by omega) hk
 rw [show i - 1 + 1 = i by omega] at h1 h2
 exact ⟨_, hk, h1, h2⟩
theorem j7u {H : List AO} {l : List Nat} {n k : Nat} (h : l.length ≤ 100000) (h0 : 0 < n) (hk : l[n - 1]? = some k) : q5a H (.str l) (.int ((n : Int) - 1)) = some (.str [k]) := by
 rw [show (n : Int) - 1 = ((n - 1 : Nat) : Int) by omega]; exact q4z h hk
noncomputable def nEndV (vs : List V) : Option V := oTB vs fun t b => oIf (q1a t = true) (some (.int (nEnd t b)))
noncomputable def W_ne : Df 2 373 2 ["text", "at"] [] [] := by
  refine' Df.mk _ _ _ _ (fun _ => rfl) rfl rfl (fun _ => rfl) rfl (fun _ _ _ => q1d (all2 fun _ _ => rfl)) (fun _ => .nil) (by decide) (by decide) ?H
  case H =>
    intro u c uo ok fn hr hsc hcd hqu
    dsimp only at hsc hcd hqu
    repeat' with_reducible first
 | (refine (?_ : DX _ _ _ _); first
  | refine' d_whl ‹_› ‹_› ["text", "begin", "at", "points"] ?_ ?_
  | refine' q0x ?_
  | refine' q3z ?_ ?_ ?_
  | refine' q3f ‹_› ?_ (by row_cond k) (by row_cond s)
  | refine' d_aug ‹_› ?_ (by row_cond k)
  | refine' q4f ‹_› ?_ (q0e ‹_› rfl) (q0e ‹_› rfl) (by row_cond s) (by row_cond t))
 | (refine (?_ : DE _ _ (.Call _ _ _ _) _); first
  | refine' d_lower ?_ rfl rfl
  | refine' q5i (q1h ‹_› ‹_› (by row_cond k)) ?_ rfl)
 | (refine (?_ : DE _ _ _ _); first
  | refine' q0f ‹_› (by row_cond k) (by decide)
  | exact q1l
  | exact q3y
  | refine' q2g ?_ ?_
  | refine' j3b ‹_› ?_ ?_ rfl
  | refine' q3l ?_
  | refine' q1x ?_ ?_ (fun _ _ => rfl)
  | refine' d_sl ?_ ?_ ?_
  | refine' q7w ?_)
 | refine' q2z ‹_› ?_ ?_ rfl
 | refine' d_cmp2 ‹_› ?_ ?_ ?_ rfl
 | refine' d_not ?_
 | refine' q3s ?_
 | refine' d_tname ?_
 | exact q0w
 | refine' q0j ?_ ?_ rfl
 | exact q0i
 | refine' q0v ?_ ?_
 | exact d_tsO
 | refine' d_tor ?_ ?_
 | refine' d_vor ?_ ?_
 | refine' d_vone' ?_
 | refine' q4g ?_
 | intro _ _ _ _
theorem j4q : (uo : u.At) → CallOk u (.ref 373) 3 (q0g nEndV) := W_ne.pure (by decide) (by decide) fun vs H v hH h => by
 obtain ⟨t, b, rfl, h1, h3, h⟩ := j7f h
 obtain ⟨hasc, h⟩ := q0h h
 cases h
 refine ⟨rfl, ?_⟩
 refine q4j (J := fun r => finR H.length r = .ok (.int (nEnd t b)) ⟨[], H⟩) ⟨[("text", .str t), ("at", .int b), ("points", .int 0), ("begin", .int b)], H⟩ [] (by kernel_rfl) ?_
 refine whl_s (J := fun r => finR H.length r = _) (fun x : Nat × Nat => ⟨[("text", .str t), ("begin", .int b), ("at", .int x.1), ("points", .int x.2)], H⟩) (fun x => b ≤ x.1 ∧ x.1 ≤ t.length ∧ (0 < x.2 ↔ 46 ∈ slL t b x.1) ∧ q0n (ofQ t b) x.1 (t.length - x.1) = nEnd t b) (fun x => t.length - x.1) ?_ (b, 0) (by kernel_rfl) ⟨Nat.le_refl _, h3, by rw [j4a]; simp, rfl⟩ (j4w h1)
 rintro ⟨i, p⟩ ⟨hbi, hi, g6, g7⟩
 have e1 := len_str (H := H) (l := t) (by omega)
 by_cases hlt : i < t.length
 rotate_left
 · refine ⟨false, q3h [fv e1, fN q1n (show ¬ (i : Int) < t.length by omega)] (by kernel_rfl), ?_⟩
   have : i = t.length := by omega
   rw [if_neg (by decide), ← g7, this, fn_end]
   exact q0r hH [] (by kernel_rfl) rfl
 refine ⟨true, q3h [fv e1, fT q1n (show (i : Int) < t.length by omega)] (by kernel_rfl), ?_⟩
 rw [if_pos rfl]
 obtain ⟨k, hk⟩ : ∃ k, t[i]? = some k := ⟨_, List.getElem?_eq_getElem hlt⟩
 have e2 := q4z (H := H) (by omega) hk
 have hq := of_at (b := b) hk
 have hsn := j4b hbi hk
 have stop : ofQ t b i = false → ∀ l, finR H.length (.ok (.ret (.int i)) ⟨l, H⟩) = .ok (.int (nEnd t b)) ⟨[], H⟩ := fun h2 l => by
   rw [← g7, fn_stop h2]; exact j5f hH rfl rfl
 have go : ∀ p' : Nat, ofQ t b i = true → (0 < p' ↔ 46 ∈ slL t b i ++ [k]) → b ≤ i + 1 ∧ i + 1 ≤ t.length ∧ (0 < p' ↔ 46 ∈ slL t b (i + 1)) ∧ q0n (ofQ t b) (i + 1) (t.length - (i + 1)) = nEnd t b :=
   fun p' a1 a7 => ⟨Nat.le_succ_of_le hbi, hlt, by rw [hsn]; exact a7, by rw [← g7]; exact (fn_go a1 hlt).symm⟩
 have hm : t.length - (i + 1) < t.length - i := by omega
 obtain ⟨fb, hfb⟩ : ∃ fb, fb = q1z (slL t b i) := ⟨_, rfl⟩
 unfold isOf at hq
 rw [← hfb] at hq
 refine aft_seq ⟨[("text", .str t), ("begin", .int b), ("at", .int i), ("points", .int p), ("sign", .str [k])], H⟩ [fv e2] (by kernel_rfl) ?_
 refine aft_seqE ⟨[("text", .str t), ("begin", .int b), ("at", .int i), ("points", .int p), ("sign", .str [k]), ("is_first", .bool fb)], H⟩ ?_ ?_
 · by_cases hib : i = b
   · rw [hfb, hib, j3a]
     exact q1j [fT q0t (show (b : Int) = b from rfl)] (by kernel_rfl)
   · obtain ⟨k', q1, q2, _⟩ := prev_at (t := t) (b := b) (i := i) (by omega) hi
     have e6 := j7u (H := H) (show t.length ≤ 100000 by omega) (show 0 < i by omega) q1
     have hib' : ¬ (i : Int) = b := by omega
     rw [hfb, q2]
     by_cases hk' : k' ∈ q0a "eE"
     · rw [decide_eq_true hk']; exact q1j [fN q0t hib', fv e6, fT in_str hk'] (by kernel_rfl)
     · rw [decide_eq_false hk']; exact q1j [fN q0t hib', fv e6, fN in_str hk'] (by kernel_rfl)
 by_cases k46 : k = 46
 · subst k46
   rw [if_neg (by decide), if_neg (by decide), if_pos rfl] at hq
   have hd : ([46] : List Nat) = q0a "." := rfl
   by_cases hp : 0 < p
   · exact q8u [fT q0c hd, fT q1c (show (1 : Int) < p + 1 by omega)] (by kernel_rfl) (stop (by rw [hq, List.all_eq_false]; exact ⟨46, g6.mp hp, by decide⟩))
   · have hp0 : p = 0 := by omega
     subst hp0
     have e3 := j2n (H := H) (a := b) (b := i) (show t.length ≤ 100000 by omega)
     have e4 := lower_is' (q9u (b := b) (i := i) hasc) (Nat.le_trans q8v (by omega))
     have e5 : (101 ∈ (slL t b i).map lowc) ↔ (101 ∈ slL t b i ∨ 69 ∈ slL t b i) := low_e
     by_cases he : 101 ∈ slL t b i ∨ 69 ∈ slL t b i
     · refine q8u [fT q0c hd, fN q1c (show ¬ (1 : Int) < ((0 : Nat) : Int) + 1 by decide), fv e3, fv e4, fT in_str (e5.mpr he)] (by kernel_rfl) (stop ?_)
       rw [hq, List.all_eq_false]
       rcases he with he | he
       · exact ⟨101, he, by decide⟩
       · exact ⟨69, he, by decide⟩
     · refine q3e (x := (i + 1, 1)) [fT q0c hd, fN q1c (show ¬ (1 : Int) < ((0 : Nat) : Int) + 1 by decide), fv e3, fv e4, fN in_str (mt e5.mp he)] (by kernel_rfl) (go 1 ?_ (by simp)) hm
       rw [hq, List.all_eq_true]
       intro x hx
       have n1 : x ≠ 46 := fun e => by subst e; exact absurd (g6.mpr hx) (Nat.lt_irrefl _)
       have n2 : x ≠ 101 := fun e => by subst e; exact he (.inl hx)
       have n3 : x ≠ 69 := fun e => by subst e; exact he (.inr hx)
       rw [show q0a ".eE" = [46, 101, 69] from rfl]
       simp [n1, n2, n3]
 · have hd : ¬ ([k] : List Nat) = q0a "." := fun e => k46 (by injection e)
   have a7 : (0 < p ↔ 46 ∈ slL t b i ++ [k]) := by rw [g6]; simp; intro e; exact absurd e.symm k46
   by_cases ks : k ∈ q0a "+-"
   · rw [if_pos ks] at hq
     cases fb with
     | false => exact q8u [fN q0c hd, fT in_str ks] (by kernel_rfl) (stop hq)
     | true => exact q3e (x := (i + 1, p)) [fN q0c hd, fT in_str ks] (by kernel_rfl) (go p hq a7) hm
   · rw [if_neg ks] at hq
     by_cases kE : k ∈ q0a "eE"
     · rw [if_pos kE] at hq
       cases fb with
       | true => exact q8u [fN q0c hd, fN in_str ks, fT in_str kE] (by kernel_rfl) (stop hq)
       | false => exact q3e (x := (i + 1, p)) [fN q0c hd, fN in_str ks, fT in_str kE] (by kernel_rfl) (go p hq a7) hm
     · rw [if_neg kE, if_neg k46] at hq
       have l0 : (([k] : List Nat) < q0a "0") ↔ k < 48 := one_lt
       have l9 : ((q0a "9" : List Nat) < [k]) ↔ 57 < k := one_lt
       by_cases d1 : k < 48
       · exact q8u [fN q0c hd, fN in_str ks, fN in_str kE, gN le_str (l0.mpr d1)] (by kernel_rfl) (stop (by rw [hq]; exact decide_eq_false fun h => by have := (q6u k).mp h; omega))
       · by_cases d2 : 57 < k
         · exact q8u [fN q0c hd, fN in_str ks, fN in_str kE, gT le_str (mt l0.mp d1), gN le_str (l9.mpr d2)] (by kernel_rfl) (stop (by rw [hq]; exact decide_eq_false fun h => by have := (q6u k).mp h; omega))
         · exact q3e (x := (i + 1, p)) [fN q0c hd, fN in_str ks, fN in_str kE, gT le_str (mt l0.mp d1), gT le_str (mt l9.mp d2)] (by kernel_rfl) (go p (by rw [hq]; exact decide_eq_true ((q6u k).mpr ⟨by omega, by omega⟩)) a7) hm
end Mi
end
section
namespace Mi
variable {u : U} {c : Cx} {np pos : Pos} {es : List Expr} {ds : D .l}
theorem q5z (uo : u.At) (ok : c.Ok) : q1e u c "spaces_end" 2 (q0g j8s) np pos es ds := q0o j3x (fun _ => rfl) (fun _ => rfl) rfl (by decide) uo ok
theorem q6a (uo : u.At) (ok : c.Ok) : q1e u c "number_end" 3 (q0g nEndV) np pos es ds := q0o j4q (fun _ => rfl) (fun _ => rfl) rfl (by decide) uo ok
theorem q3u (uo : u.At) (ok : c.Ok) : q1e u c "_law_blank_end" 2 (q0g j8s) np pos es ds := q0o q7e (fun _ => rfl) (fun _ => rfl) rfl (by decide) uo ok
theorem q4x {α β γ : Type} {f : α → Option β} {g : γ → α} {h : γ → β} {l : List γ} (e : ∀ x ∈ l, f (g x) = some (h x)) : mapO f (l.map g) = some (l.map h) := by
 induction l with
 | nil => rfl
 | cons x l ih =>
   show (f (g x)).bind _ = _
   rw [e x (.head _)]
   show (mapO f (l.map g)).map _ = _
   rw [ih fun y hy => e y (.tail _ hy)]
   rfl
theorem ascii_lt {l : List Nat} (h : q1a l = true) : l.all (· < 1114112) = true := j1n (fun x q => decide_eq_true (Nat.lt_trans (of_decide_eq_true q) (by decide))) h
theorem q4q {n : Nat} {l : List Nat} (h : q1a l = true) : toPy (n + 1) (.str l) = some (.str ⟨l.toArray⟩) := q0l (ascii_lt h)
theorem j3q {n : Nat} {l : List V} {m : List PyData} (h : mapO (toPy n) l = some m) : toPy (n + 1) (.lst l) = some (.list m) := congrArg (Option.map PyData.list) h
theorem eqV_is {a b : V} {x y : PyData} (h1 : toPy 5 a = some x) (h2 : toPy 5 b = some y) : eqV a b = some (PyData.eqv x y) := by unfold eqV; rw [h1, h2]; rfl
theorem eq_nil {l : List V} {m : List PyData} (h : mapO (toPy 4) l = some m) : cmp .Eq (.lst l) (.lst []) = some m.isEmpty := by
 show eqV (.lst l) (.lst []) = _
 rw [eqV_is (j3q h) (j3q (n := 4) (m := []) rfl)]
 cases m <;> rfl
theorem eqv_self (n : Nat) : ∀ {v : V} {d : PyData}, toPy n v = some d → PyData.eqv d d = true := by
 induction n with
 | zero => exact fun h => nn h
 | succ n ih =>
   have all : ∀ {l : List V} {m : List PyData}, mapO (toPy n) l = some m → PyData.eqvAll m m = true := by
     intro l
     induction l with
     | nil => intro m h; cases Option.some.inj h; rfl
     | cons v l il =>
       intro m h
       obtain ⟨b, r, h1, h2, rfl⟩ := q5r h
       exact q3w (ih h1) (il h2)
   intro v d h
   cases v with
   | none => cases Option.some.inj h; rfl
   | bool b => cases Option.some.inj h; simp [PyData.eqv]
   | int b => cases Option.some.inj h; simp [PyData.eqv]
   | str l =>
     cases Option.some.inj (q0h h).2
     simp [PyData.eqv]
   | tup l =>
     obtain ⟨m, h1, rfl⟩ := q3p h
     exact all h1
   | lst l =>
     obtain ⟨m, h1, rfl⟩ := q3p h
     exact all h1
   | _ => exact nn h
theorem eqV_self {v : V} {d : PyData} (h : toPy 5 v = some d) : eqV v v = some true := by rw [eqV_is h h, eqv_self 5 h]
theorem nth_str {l : List Nat} {H : List AO} {k : Nat} : q4d (.seq (.str l)) H k = some ((l.map fun k => V.str [k])[k]?) := by
 show some (l[k]?.map fun k => V.str [k]) = _
 rw [List.getElem?_map]
theorem seq_str {H : List AO} {l : List Nat} (h : q1a l = true) : seqS H (.str l) = some (.seq (.str l)) := or_p (q0l h)
theorem fuel_str {H : List AO} {l : List Nat} : q0z (.seq (.str l)) H = l.length + 1 := rfl
theorem j7v {H : List AO} {l : List Nat} {k : Nat} (h : l.length ≤ 100000) : q5a H (.str (l ++ [k])) (.int (-1)) = some (.str [k]) := by
 refine or_p ?_
 show ((ixOf (-1) (l ++ [k])).map fun c => V.str [c]) = _
 have e : seqIndex? (-1) (l ++ [k]).length = some l.length := by
   unfold seqIndex?
   rw [List.length_append, List.length_singleton]
   generalize l.length = n
   rw [show (if (-1 : Int) < 0 then -1 + ((n + 1 : Nat) : Int) else -1) = (n : Int) by rw [if_pos (by decide)]; omega]
   dsimp only
   rw [if_pos (q3w (decide_eq_true (Int.natCast_nonneg n)) (decide_eq_true (by omega)))]
   rfl
 unfold ixOf
 rw [q0l (by decide), e]
 show (l ++ [k])[l.length]?.map _ = _
 rw [List.getElem?_concat_length]
 rfl
theorem comp_str {x : String} (t : D .b) (g : D .v) {H : List AO} {loc : List (String × V)} {l : List Nat} (q : Nat → Bool) (hx : loc.lookup x = none) (hL : l.length ≤ 100000) (hH : H.all (q0b H.length) = true)
   (ht : ∀ (k : Nat) acc, ev t ⟨loc ++ [(x, .str [k])], H ++ [.lst acc]⟩ = .ok (q k) ⟨loc ++ [(x, .str [k])], H ++ [.lst acc]⟩) (hg : ∀ v acc, ev g ⟨loc ++ [(x, v)], H ++ [.lst acc]⟩ = .ok v ⟨loc ++ [(x, v)], H ++ [.lst acc]⟩) :
   j8j false x (.seq (.str l)) (ev t) (ev g) loc ⟨[], H⟩ = .ok (.lst ((l.filter q).map fun k => V.str [k])) ⟨[], H⟩ := by
 have hm : ∀ v, v ∈ l.map (fun k => V.str [k]) → ∃ k, v = .str [k] := fun v hv => by
   obtain ⟨k, _, rfl⟩ := List.mem_map.mp hv
   exact ⟨k, rfl⟩
 have := comp_s (src := .seq (.str l)) t g (l.map fun k => V.str [k]) (fun v => match v with | .str [k] => q k | _ => false) id hx (by rw [List.length_map]; exact hL) hH (q3b fun v hv => by
   rw [List.map_id] at hv
   obtain ⟨k, rfl⟩ := hm v (List.mem_filter.mp hv).1
   rfl) (fun _ _ => nth_str) (by rw [fuel_str, List.length_map]; exact Nat.lt_succ_self _) (fun v acc hv _ => by
     obtain ⟨k, rfl⟩ := hm v hv
     exact ht k acc) (fun v acc _ _ _ => hg v acc)
 rwa [List.map_id, List.filter_map] at this
noncomputable def isOfV (vs : List V) : Option V := o3 vs fun x y z => oTB [x, y] fun t b => oI z fun i => oIf (q1a t = true ∧ (b : Int) ≤ i ∧ i < t.length) (some (.bool (ofQ t b i.toNat)))
theorem isOf_p {t : List Nat} {b i : Nat} (h1 : t.length ≤ 90000) (h2 : q1a t = true) (h3 : b ≤ i) (h4 : i < t.length) : isOfV [.str t, .int b, .int i] = some (.bool (ofQ t b i)) :=
 (oTB_p (k := fun t b => oI (α := V) (V.int (i : Int)) fun i => oIf (q1a t = true ∧ (b : Int) ≤ i ∧ i < t.length) (some (V.bool (ofQ t b i.toNat)))) h1 (Nat.le_trans h3 (Nat.le_of_lt h4))).trans (q0l ⟨h2, Int.ofNat_le.mpr h3, zlt h4⟩)
theorem dots {l : List Nat} (h : q1a l = true) : cmp .Eq (.lst ((l.filter fun k => decide (k ∈ q0a ".eE")).map fun k => V.str [k])) (.lst []) = some (l.all fun k => !decide (k ∈ q0a ".eE")) := by
 rw [eq_nil (m := (l.filter fun k => decide (k ∈ q0a ".eE")).map fun k => PyData.str ⟨[k].toArray⟩) (q4x fun x hx => q4q (by
   unfold q1a at h ⊢
   have := List.all_eq_true.mp h x (List.mem_filter.mp hx).1
   simpa using this))]
 congr 1
 rw [Bool.eq_iff_iff]
 simp [List.filter_eq_nil_iff]
noncomputable def W_of : Df 2 434 3 ["text", "begin", "at"] [] [] := by
  refine' Df.mk _ _ _ _ (fun _ => rfl) rfl rfl (fun _ => rfl) rfl (fun _ _ _ => q1d (all3 fun _ _ _ => rfl)) (fun _ => .nil) (by decide) (by decide) ?H
  case H =>
    intro u c uo ok fn hr hsc hcd hqu
    dsimp only at hsc hcd hqu
    repeat' with_reducible first
 | (refine (?_ : DX _ _ _ _); first
  | refine' q0x ?_
  | refine' q3z ?_ ?_ ?_
  | refine' q3f ‹_› ?_ (by row_cond k) (by row_cond s)
  | refine' q4f ‹_› ?_ (q0e ‹_› rfl) (q0e ‹_› rfl) (by row_cond s) (by row_cond t))
 | (refine (?_ : DE _ _ _ _); first
  | (refine (?_ : DE _ _ (.ListComp _ _ _ _) _); refine' q7v ‹_› [] ?_ (q2h ‹_› rfl rfl rfl rfl rfl rfl rfl) (fun _ => rfl) ?_ ?_)
  | refine' q0f ‹_› (by row_cond k) (by decide)
  | exact q1l
  | exact q3y
  | refine' j8i ?_
  | refine' d_un ?_
  | refine' j3b ‹_› ?_ ?_ rfl
  | refine' q3l ?_
  | refine' q1x ?_ ?_ (fun _ _ => rfl)
  | refine' d_sl ?_ ?_ ?_
  | refine' q7w ?_)
 | refine' q2z ‹_› ?_ ?_ rfl
 | exact q0w
 | refine' q0j ?_ ?_ rfl
 | exact q0i
 | refine' q0v ?_ ?_
 | refine' d_vor ?_ ?_
 | refine' d_vone' ?_
 | refine' q4g ?_
 | refine' q9c ?_
 | refine' d_lt1 ?_
 | intro _ _ _ _
theorem j2b : (uo : u.At) → CallOk u (.ref 434) 3 (q0g isOfV) := W_of.pure (by decide) (by decide) fun vs H v hH h => by
 obtain ⟨_, _, _, rfl, h2⟩ := o3_s h
 obtain ⟨t, b, e, h1, _, g3⟩ := j7f h2
 obtain ⟨i, rfl, g4⟩ := oI_s g3
 obtain ⟨⟨hasc, q3, q4⟩, h5⟩ := q0h g4
 cases e
 cases h5
 obtain ⟨i, rfl⟩ := Int.eq_ofNat_of_zero_le (Int.le_trans (Int.natCast_nonneg b) q3)
 have h3 : b ≤ i := Int.ofNat_le.mp q3
 have h4 : i < t.length := Int.ofNat_lt.mp q4
 refine ⟨rfl, ?_⟩
 show finR H.length _ = .ok (.bool (ofQ t b i)) ⟨[], H⟩
 obtain ⟨k, hk⟩ : ∃ k, t[i]? = some k := ⟨_, List.getElem?_eq_getElem h4⟩
 have e2 := q4z (H := H) (q1f h1) hk
 have hq := of_at (b := b) hk
 have e3 := j2n (H := H) (a := b) (b := i) (q1f h1)
 have hcase : (slL t b i = [] ∧ q1z (slL t b i) = true) ∨ (∃ l k', slL t b i = l ++ [k'] ∧ l.length ≤ 100000 ∧ q1z (slL t b i) = decide (k' ∈ q0a "eE")) := by
   by_cases hib : i = b
   · subst hib; exact .inl ⟨j4a, j3a⟩
   · obtain ⟨k', q1, q2, q3⟩ := prev_at (t := t) (b := b) (i := i) (by omega) (by omega)
     exact .inr ⟨_, k', q3, Nat.le_trans q8v (q1f h1), q2⟩
 have hla : (slL t b i).length ≤ 100000 := Nat.le_trans q8v (q1f h1)
 have hsa : q1a (slL t b i) = true := q9u hasc
 obtain ⟨ib, hfb⟩ : ∃ ib, ib = q1z (slL t b i) := ⟨_, rfl⟩
 unfold isOf at hq
 rw [← hfb] at hq
 rw [hq]
 refine q4j (J := fun y => finR H.length y = _) ⟨[("text", .str t), ("begin", .int b), ("at", .int i), ("ahead", .str (slL t b i)), ("sign", .str [k])], H⟩ [fv e2, fv e3] (by kernel_rfl) ?_
 refine j6w (J := fun y => finR H.length y = _) (σ1 := ⟨[("text", .str t), ("begin", .int b), ("at", .int i), ("ahead", .str (slL t b i)), ("sign", .str [k]), ("is_first", .bool ib)], H⟩) ?_ ?_
 · rcases hcase with ⟨e, hf⟩ | ⟨l, k', hl, hll, hf⟩
   · rw [hfb, hf, e]; exact q1j [fT q0c (show ([] : List Nat) = q0a "" from rfl)] (by kernel_rfl)
   · rw [hfb, hf, hl]
     have hne : ¬ (l ++ [k']) = q0a "" := by simp [q0a]
     by_cases hk' : k' ∈ q0a "eE"
     · rw [decide_eq_true hk']; exact q1j [fN q0c hne, fv (j7v (H := H) (l := l) (k := k') hll), fT in_str hk'] (by kernel_rfl)
     · rw [decide_eq_false hk']; exact q1j [fN q0c hne, fv (j7v (H := H) (l := l) (k := k') hll), fN in_str hk'] (by kernel_rfl)
 by_cases ks : k ∈ q0a "+-"
 · rw [if_pos ks]
   exact q0r hH [fT in_str ks] (by kernel_rfl) rfl
 · rw [if_neg ks]
   by_cases kE : k ∈ q0a "eE"
   · rw [if_pos kE]
     exact q0r hH [fN in_str ks, fT in_str kE] (by kernel_rfl) rfl
   · rw [if_neg kE]
     by_cases k46 : k = 46
     · subst k46
       rw [if_pos rfl]
       exact q0r hH [fN in_str ks, fN in_str kE, fT q0c (show [46] = q0a "." from rfl), fS (seq_str (H := H) hsa), fr (comp_str (ct W_of.d 0) (cg W_of.d 0) (x := "one") (H := H) (loc := []) (fun k => decide (k ∈ q0a ".eE")) rfl hla hH
         (fun k acc => q3h [fb (in_str (k := k) (l := q0a ".eE"))] (by kernel_rfl)) (fun v acc => j3u [] (by kernel_rfl))), fb (dots hsa)] (by kernel_rfl) rfl
     · rw [if_neg k46]
       exact q0r hH [fN in_str ks, fN in_str kE, fN q0c (show ¬ [k] = q0a "." from fun e => k46 (by injection e)), fb (in_str (k := k) (l := q0a "0123456789"))] (by kernel_rfl) rfl
theorem j1v (uo : u.At) (ok : c.Ok) : q1e u c "_law_is_of" 3 (q0g isOfV) np pos es ds := q0o j2b (fun _ => rfl) (fun _ => rfl) rfl (by decide) uo ok
noncomputable def W_ln : DfC 4 439 2 ["text", "begin"] ["text", "begin"] := by
  refine' DfC.mk _ _ _ _ (fun _ => rfl) rfl rfl (fun _ => rfl) rfl rfl rfl (all2 fun _ _ => rfl) (by decide) (by decide) ?H
  case H =>
    intro u c uo ok fn hr hsc hcd hqu
    dsimp only at hsc hcd hqu
    repeat' with_reducible first
 | refine' q0x ?_
 | (refine (?_ : DE _ _ (.Call _ _ _ _) _); first
  | refine' j1v uo ‹_› (by omega) (by row_cond k) ?_ rfl
  | refine' q5i (q1h ‹_› ‹_› (by row_cond k)) ?_ rfl
  | refine' d_min ‹_› (j4v ‹_› ‹_› (by row_cond k)) ?_ rfl)
 | (refine (?_ : DE _ _ _ _); first
  | (refine (?_ : DE _ _ (.ListComp _ _ _ _) _); refine' q7v ‹_› [] ?_ (q2h ‹_› rfl rfl rfl rfl rfl rfl rfl) (fun _ => rfl) ?_ ?_)
  | (refine (?_ : DE _ _ (.ListComp _ _ _ _) _); refine' q7v ‹_› ["begin","text"] ?_ (q2h ‹_› rfl rfl rfl rfl rfl rfl rfl) (fun _ => rfl) ?_ ?_)
  | refine' q0f ‹_› (by row_cond k) (by decide)
  | refine' d_cell ‹_› (by row_cond k) (by decide)
  | refine' j8i ?_
  | refine' q2g ?_ ?_)
 | refine' d_not ?_
 | refine' j5o ?_
 | exact q0w
 | refine' q0j ?_ ?_ rfl
 | exact q0i
 | refine' q0v ?_ ?_
 | refine' q9d (q2r ‹_› ‹_› (by row_cond k)) ?_ rfl
 | refine' d_lt1 ?_
 | intro _ _ _ _
theorem q6p : (uo : u.At) → CallOk u (.ref 439) 5 (q0g nEndV) := W_ln.pure (by decide) (by decide) fun vs H v hH h => by
 obtain ⟨t, b, rfl, h1, h3, h⟩ := j7f h
 obtain ⟨hasc, h⟩ := q0h h
 cases h
 refine ⟨rfl, ?_⟩
 have hA : (H ++ [AO.cell (.str t), AO.cell (.int b)]).all (q0b (H ++ [AO.cell (.str t), AO.cell (.int b)]).length) = true := q1s hH rfl
 have e1 := len_str (H := H ++ [AO.cell (.str t), AO.cell (.int b)]) (q1f h1)
 have ht : getC ⟨[("text", .obj H.length), ("begin", .obj (H.length + 1))], H ++ [.cell (.str t), .cell (.int b)]⟩ "text" = some (.str t) := q2y rfl q9i
 have hb : getC ⟨[("text", .obj H.length), ("begin", .obj (H.length + 1))], H ++ [.cell (.str t), .cell (.int b)]⟩ "begin" = some (.int b) := q2y rfl j1z
 refine q2d (E := [.cell (.str t), .cell (.int b)]) (v := .int (nEnd t b)) hH [fv hb, fv ht, fv e1, fS (rng_seq (a := b) (b := t.length) (by omega) (by omega)),
   fr (comp_rng (ct W_ln.d 0) (cg W_ln.d 0) (x := "at") (b := b) (n := t.length) (H := H ++ [.cell (.str t), .cell (.int b)]) (loc := [("begin", .obj (H.length + 1)), ("text", .obj H.length)]) (ofQ t b) rfl (by omega) hA ?_ ?_),
   fv ht, fv e1, fv (flt_add (H := H ++ [.cell (.str t), .cell (.int b)]) (ofQ t b) b h1), fv (min_rng (H := H ++ [.cell (.str t), .cell (.int b)]) (q := ofQ t b) h3)] (by kernel_rfl) rfl
 · intro i acc k1 k2 hG
   have ht : getC ⟨[("begin", .obj (H.length + 1)), ("text", .obj H.length)] ++ [("at", .int i)], (H ++ [.cell (.str t), .cell (.int b)]) ++ [.lst acc]⟩ "text" = some (.str t) := q2y rfl (app_at q9i)
   have hb : getC ⟨[("begin", .obj (H.length + 1)), ("text", .obj H.length)] ++ [("at", .int i)], (H ++ [.cell (.str t), .cell (.int b)]) ++ [.lst acc]⟩ "begin" = some (.int b) := q2y rfl (app_at j1z)
   exact q3h [fv ht, fv hb, fr (q0d hG (isOf_p h1 hasc k1 k2))] (by kernel_rfl)
 · intro v acc
   exact j3u [] (by kernel_rfl)
noncomputable def gEnd (t : List Nat) (b : Nat) : Option Nat := if t[q0p t b]? = some 44 then (if q0p t (q0p t b + 1) = t.length then none else some (q0p t (q0p t b + 1))) else some (q0p t b)
theorem q8d {t : List Nat} {b : Nat} (h : b ≤ t.length) : b ≤ q0p t b ∧ q0p t b ≤ t.length := by
 have h1 := q3r (blQ t) (t.length - b) b
 have h2 := q5d (blQ t) (t.length - b) b
 exact ⟨h1, Nat.le_trans h2 (Nat.le_of_eq (Nat.add_sub_of_le h))⟩
noncomputable def gapW (o : Option Nat) : V ⊕ (Addr × V) := Option.casesOn o (.inr (63, .str (q0a "a comma of a transform stands at the end"))) fun n => .inl (.int n)
noncomputable def gapU (o : Option Nat) : V := Option.casesOn o .none fun n => .int n
noncomputable def gapX (vs : List V) : Option (V ⊕ (Addr × V)) := oTB vs fun t b => some (gapW (gEnd t b))
noncomputable def gapN (vs : List V) : Option V := oTB vs fun t b => some (gapU (gEnd t b))
theorem q3m {H : List AO} {t : List Nat} {b : Nat} (hH : H.all (q0b H.length) = true) (h1 : t.length ≤ 90000) (h3 : b ≤ t.length) : q0g j8s [.str t, .int (b : Int)] H = .ok (.int (q0p t b)) ⟨[], H⟩ := q0d hH (oTB_p h1 h3)
noncomputable def W_gap : Df 3 380 2 ["text", "at"] [] [] := by
  refine' Df.mk _ _ _ _ (fun _ => rfl) rfl rfl (fun _ => rfl) rfl (fun _ _ _ => q1d (all2 fun _ _ => rfl)) (fun _ => .nil) (by decide) (by decide) ?H
  case H =>
    intro u c uo ok fn hr hsc hcd hqu
    dsimp only at hsc hcd hqu
    repeat' with_reducible first
 | (refine (?_ : DX _ _ _ _); first
  | refine' q0x ?_
  | refine' q3z ?_ ?_ ?_
  | refine' q3f ‹_› ?_ (by row_cond k) (by row_cond s)
  | refine' j1q ‹_› ‹_› (leq hr) (by row_cond k) ?_ rfl)
 | (refine (?_ : DE _ _ (.Call _ _ _ _) _); first
  | refine' q5z uo ‹_› (leq hr) (by row_cond k) ?_ rfl
  | refine' q5i (q1h ‹_› ‹_› (by row_cond k)) ?_ rfl)
 | (refine (?_ : DE _ _ _ _); first
  | refine' q0f ‹_› (by row_cond k) (by decide)
  | exact q1l
  | exact q3y
  | refine' q2g ?_ ?_
  | refine' q1x ?_ ?_ (fun _ _ => rfl))
 | refine' q2z ‹_› ?_ ?_ rfl
 | refine' q3s ?_
 | exact q0w
 | refine' q0j ?_ ?_ rfl
 | exact q0i
 | refine' q0v ?_ ?_
 | exact d_tsA
 | refine' j3c ?_ ?_
 | intro _ _ _ _
theorem gap_end_ok : (uo : u.At) → CallOk u (.ref 380) 5 (xF gapX) := W_gap.x (by decide) (by decide) fun vs H v hH h => by
 obtain ⟨t, b, rfl, h1, h3, h⟩ := j7f h
 cases h
 refine ⟨rfl, ?_⟩
 have f1 := q8d h3
 have e0 := q3m hH h1 h3
 have e1 := len_str (H := H) (q1f h1)
 unfold gEnd
 generalize q0p t b = a at *
 by_cases ha : a < t.length
 · obtain ⟨k, hk⟩ : ∃ k, t[a]? = some k := ⟨_, List.getElem?_eq_getElem ha⟩
   have e2 := q4z (H := H) (q1f h1) hk
   rw [hk]
   by_cases k44 : k = 44
   · subst k44
     have e3 := q3m hH h1 (show a + 1 ≤ t.length from ha)
     rw [if_pos rfl]
     generalize q0p t (a + 1) = d at *
     have hc : ([44] : List Nat) = q0a "," := rfl
     by_cases hd : d = t.length
     · rw [if_pos hd]
       exact q7s hH [fr e0, fv e1, fT q1n (zlt ha), fv e2, fT q0c hc, fr e3, fv e1, fT q0t (show (d : Int) = t.length by rw [hd])] (by kernel_rfl) rfl
     · rw [if_neg hd]
       exact q0r hH [fr e0, fv e1, fT q1n (zlt ha), fv e2, fT q0c hc, fr e3, fv e1, fN q0t (zne hd)] (by kernel_rfl) rfl
   · rw [if_neg fun e => k44 (Option.some.inj e)]
     exact q0r hH [fr e0, fv e1, fT q1n (zlt ha), fv e2, fN q0c (show ¬ [k] = q0a "," from fun e => k44 (by injection e))] (by kernel_rfl) rfl
 · rw [List.getElem?_eq_none (by omega), if_neg fun e => nomatch e]
   exact q0r hH [fr e0, fv e1, fN q1n (znlt ha)] (by kernel_rfl) rfl
noncomputable def W_lgap : Df 3 451 2 ["text", "at"] [] [] := by
  refine' Df.mk _ _ _ _ (fun _ => rfl) rfl rfl (fun _ => rfl) rfl (fun _ _ _ => q1d (all2 fun _ _ => rfl)) (fun _ => .nil) (by decide) (by decide) ?H
  case H =>
    intro u c uo ok fn hr hsc hcd hqu
    dsimp only at hsc hcd hqu
    repeat' with_reducible first
 | (refine (?_ : DX _ _ _ _); first
  | refine' q0x ?_
  | refine' q3z ?_ ?_ ?_
  | refine' q3f ‹_› ?_ (by row_cond k) (by row_cond s))
 | (refine (?_ : DE _ _ (.Call _ _ _ _) _); first
  | refine' q3u uo ‹_› (leq hr) (by row_cond k) ?_ rfl
  | refine' q5i (q1h ‹_› ‹_› (by row_cond k)) ?_ rfl)
 | (refine (?_ : DE _ _ _ _); first
  | refine' q0f ‹_› (by row_cond k) (by decide)
  | exact q1l
  | exact q3y
  | exact j1r
  | refine' q2g ?_ ?_
  | refine' j5q ?_ ?_ ?_
  | refine' d_sl ?_ ?_ ?_)
 | refine' q2z ‹_› ?_ ?_ rfl
 | exact q0w
 | refine' q0j ?_ ?_ rfl
 | exact q0i
 | refine' q0v ?_ ?_
 | refine' q4g ?_
 | intro _ _ _ _
theorem q9k : (uo : u.At) → CallOk u (.ref 451) 5 (q0g gapN) := W_lgap.pure (by decide) (by decide) fun vs H v hH h => by
 obtain ⟨t, b, rfl, h1, h3, h⟩ := j7f h
 cases h
 refine ⟨rfl, ?_⟩
 have f1 := q8d h3
 have e0 := q3m hH h1 h3
 have e1 := len_str (H := H) (q1f h1)
 unfold gEnd
 generalize q0p t b = a at *
 have e2 : slV H (.str t) (.int (a : Int)) (.int ((a : Int) + 1)) = some (.str (slL t a (a + 1))) := j2n (b := a + 1) (q1f h1)
 by_cases ha : a < t.length
 · obtain ⟨k, hk⟩ : ∃ k, t[a]? = some k := ⟨_, List.getElem?_eq_getElem ha⟩
   rw [j4b (Nat.le_refl _) hk, j4a] at e2
   rw [hk]
   by_cases k44 : k = 44
   · subst k44
     have e3 := q3m hH h1 (show a + 1 ≤ t.length from ha)
     rw [if_pos rfl]
     have hc : ([44] : List Nat) = q0a "," := rfl
     have f2 := q8d (show a + 1 ≤ t.length from ha)
     generalize q0p t (a + 1) = d at *
     by_cases hd : d = t.length
     · rw [if_pos hd]
       exact q0r hH [fr e0, fv e2, gN q1m hc, fr e3, fv e1, fN q1n (show ¬ (d : Int) < t.length by omega)] (by kernel_rfl) rfl
     · rw [if_neg hd]
       exact q0r hH [fr e0, fv e2, gN q1m hc, fr e3, fv e1, fT q1n (show (d : Int) < t.length by omega)] (by kernel_rfl) rfl
   · rw [if_neg fun e => k44 (Option.some.inj e)]
     exact q0r hH [fr e0, fv e2, gT q1m (show ¬ [k] = q0a "," from fun e => k44 (by injection e))] (by kernel_rfl) rfl
 · have hs : slL t a (a + 1) = [] := by unfold slL; rw [List.drop_eq_nil_iff, List.length_take]; omega
   rw [hs] at e2
   rw [List.getElem?_eq_none (by omega), if_neg fun e => nomatch e]
   exact q0r hH [fr e0, fv e2, gT q1m (show ¬ ([] : List Nat) = q0a "," by decide)] (by kernel_rfl) rfl
end Mi
end
section
namespace Mi
variable {u : U} {c : Cx} {np pos : Pos} {es : List Expr} {ds : D .l}
theorem q9g (uo : u.At) (ok : c.Ok) : q1e u c "gap_end" 5 (xF gapX) np pos es ds := q0o gap_end_ok (fun _ => rfl) (fun _ => rfl) rfl (by decide) uo ok
theorem q4p (uo : u.At) (ok : c.Ok) : q1e u c "_law_gap_end" 5 (q0g gapN) np pos es ds := q0o q9k (fun _ => rfl) (fun _ => rfl) rfl (by decide) uo ok
theorem q3g (uo : u.At) (ok : c.Ok) : q1e u c "_law_number_end" 5 (q0g nEndV) np pos es ds := q0o q6p (fun _ => rfl) (fun _ => rfl) rfl (by decide) uo ok
theorem j4o {H : List AO} {l : List V} (hl : belows H.length l = true) : outV H.length (H ++ [.lst l]) (.obj H.length) = some (.lst l) := by
 refine (if_neg (Nat.lt_irrefl _)).trans ?_
 rw [List.getElem?_concat_length]
 exact (if_pos hl : q9r (belows H.length l) (.lst l) = _)
theorem q2v {n : Nat} {l : List (List Nat)} : belows n (l.map V.str) = true := q3b fun v hv => by
 obtain ⟨x, _, rfl⟩ := List.mem_map.mp hv
 rfl
theorem j6h {H : List AO} {l : List V} (hH : H.all (q0b H.length) = true) (hl : belows H.length l = true) : (H ++ [AO.lst l]).all (q0b (H ++ [AO.lst l]).length) = true :=
 q1s hH (q3w (q7b (by rw [List.length_append]; exact Nat.le_add_right _ _) hl) rfl)
theorem q5b (H : List AO) (l : List V) : some (isL (H ++ [AO.lst l]) H.length) = some true := by unfold isL; rw [List.getElem?_concat_length]
theorem is_int {i : Int} : cmp .Is (.int i) .none = some false := rfl
theorem is_nn : cmp .Is .none .none = some true := rfl
theorem is_lst (l : List V) : cmp .Is (.lst l) .none = some false := rfl
noncomputable abbrev CutR := List Nat ⊕ List (List Nat)
noncomputable def consS (x : List Nat) (s : CutR) : CutR := Sum.casesOn s .inl fun l => .inr (x :: l)
noncomputable def cutGo (t : List Nat) (n : Nat) : Nat → CutR := Nat.rec (fun a => if a = t.length then .inr [] else .inl []) (fun _ ih a => if a = t.length then .inr [] else if nEnd t a = a then .inl (q0a "a number of a transform is missing") else
 Option.casesOn (gEnd t (nEnd t a)) (.inl (q0a "a comma of a transform stands at the end")) fun d => consS (slL t a (nEnd t a)) (ih d)) n
theorem j5s {t : List Nat} {n a : Nat} : cutGo t (n + 1) a = if a = t.length then .inr [] else if nEnd t a = a then .inl (q0a "a number of a transform is missing") else
 Option.casesOn (gEnd t (nEnd t a)) (.inl (q0a "a comma of a transform stands at the end")) fun d => consS (slL t a (nEnd t a)) (cutGo t n d) := rfl
theorem cutGo_e {t : List Nat} {n : Nat} : cutGo t n t.length = .inr [] := by cases n <;> exact if_pos rfl
noncomputable def q2u (t : List Nat) : CutR := cutGo t t.length 0
noncomputable def prep (acc : List (List Nat)) (s : CutR) : CutR := Sum.casesOn s .inl fun l => .inr (acc ++ l)
theorem prep_cons {acc : List (List Nat)} {x : List Nat} {s : CutR} : prep acc (consS x s) = prep (acc ++ [x]) s := by
 cases s with
 | inl => rfl
 | inr l => exact congrArg Sum.inr (by rw [List.append_assoc]; rfl)
theorem prep_nil {s : CutR} : prep [] s = s := by cases s <;> rfl
theorem j4m {acc : List (List Nat)} : prep acc (.inr []) = .inr acc := congrArg Sum.inr (List.append_nil _)
theorem j1b {t : List Nat} {b : Nat} (h : b ≤ t.length) : b ≤ nEnd t b ∧ nEnd t b ≤ t.length :=
 ⟨q3r (ofQ t b) (t.length - b) b, Nat.le_trans (q5d (ofQ t b) (t.length - b) b) (Nat.le_of_eq (Nat.add_sub_of_le h))⟩
theorem gEnd_le {t : List Nat} {b d : Nat} (h : b ≤ t.length) (e : gEnd t b = some d) : b ≤ d ∧ d ≤ t.length := by
 unfold gEnd at e
 have h1 := q8d h
 by_cases hk : t[q0p t b]? = some 44
 · rw [if_pos hk] at e
   have h2 := q8d (t := t) (b := q0p t b + 1) (List.getElem?_eq_some_iff.mp hk).1
   by_cases hd : q0p t (q0p t b + 1) = t.length
   · rw [if_pos hd] at e; cases e
   · rw [if_neg hd] at e
     cases Option.some.inj e
     exact ⟨Nat.le_trans h1.1 (Nat.le_trans (Nat.le_succ _) h2.1), h2.2⟩
 · rw [if_neg hk] at e
   cases Option.some.inj e
   exact h1
noncomputable def cutW (s : CutR) : V ⊕ (Addr × V) := Sum.casesOn s (fun m => .inr (63, .str m)) fun l => .inl (.lst (l.map V.str))
noncomputable def cutU (s : CutR) : V := Sum.casesOn s (fun _ => .none) fun l => .lst (l.map V.str)
noncomputable def oTA {α : Type} (vs : List V) (k : List Nat → Option α) : Option α := o1 vs fun x => oS x fun t => oIf (t.length ≤ 90000 ∧ q1a t = true) (k t)
theorem oTA_s {α : Type} {vs : List V} {k : List Nat → Option α} {x : α} (h : oTA vs k = some x) : ∃ t, vs = [.str t] ∧ t.length ≤ 90000 ∧ q1a t = true ∧ k t = some x := by
 obtain ⟨_, rfl, h⟩ := o1_s h
 obtain ⟨t, rfl, h⟩ := oS_s h
 obtain ⟨⟨h1, h2⟩, h⟩ := q0h h
 exact ⟨t, rfl, h1, h2, h⟩
theorem oTA_p {α : Type} {k : List Nat → Option α} {t : List Nat} (h1 : t.length ≤ 90000) (h2 : q1a t = true) : oTA [.str t] k = k t := q0l ⟨h1, h2⟩
noncomputable def cutX (vs : List V) : Option (V ⊕ (Addr × V)) := oTA vs fun t => some (cutW (q2u t))
noncomputable def cutN (vs : List V) : Option V := oTA vs fun t => some (cutU (q2u t))
section
variable {H : List AO} {t : List Nat} {b d : Nat}
theorem j1c (hH : H.all (q0b H.length) = true) (h1 : t.length ≤ 90000) (h2 : q1a t = true) (h3 : b ≤ t.length) : q0g nEndV [.str t, .int (b : Int)] H = .ok (.int (nEnd t b)) ⟨[], H⟩ := q0d hH ((oTB_p h1 h3).trans (q0l h2))
theorem gap_x1 (hH : H.all (q0b H.length) = true) (h1 : t.length ≤ 90000) (h3 : b ≤ t.length) (hg : gEnd t b = some d) : xF gapX [.str t, .int (b : Int)] H = .ok (.int d) ⟨[], H⟩ := (q6k (g := gapX) hH (oTB_p h1 h3)).trans (by rw [hg]; rfl)
theorem gap_x0 (hH : H.all (q0b H.length) = true) (h1 : t.length ≤ 90000) (h3 : b ≤ t.length) (hg : gEnd t b = none) : xF gapX [.str t, .int (b : Int)] H = .ex 63 (.str (q0a "a comma of a transform stands at the end")) ⟨[], H⟩ := (q6k (g := gapX) hH (oTB_p h1 h3)).trans (by rw [hg]; rfl)
theorem gap_n (hH : H.all (q0b H.length) = true) (h1 : t.length ≤ 90000) (h3 : b ≤ t.length) : q0g gapN [.str t, .int (b : Int)] H = .ok (gapU (gEnd t b)) ⟨[], H⟩ := q0d hH (oTB_p h1 h3)
end
noncomputable def CutI (t : List Nat) (n i : Nat) (acc : List V) : Prop := ∃ as : List (List Nat), acc = as.map V.str ∧ i ≤ t.length ∧ as.length ≤ i ∧ prep as (cutGo t n i) = q2u t
theorem CutI.all {t : List Nat} {n i : Nat} {acc : List V} (h : CutI t n i acc) {H : List AO} (hH : H.all (q0b H.length) = true) : (H ++ [AO.lst acc]).all (q0b (H ++ [AO.lst acc]).length) = true := by
 obtain ⟨as, rfl, _⟩ := h
 exact j6h hH q2v
theorem CutI.len {t : List Nat} {n i : Nat} {acc : List V} (h : CutI t n i acc) (h1 : t.length ≤ 90000) : acc.length ≤ 100000 := by
 obtain ⟨as, rfl, h2, h3, _⟩ := h
 rw [List.length_map]
 exact Nat.le_trans h3 (Nat.le_trans h2 (q1f h1))
theorem CutI.none {t : List Nat} {n i : Nat} {acc : List V} (h : CutI t (n + 1) i acc) (hi : ¬ i = t.length) (hn : nEnd t i = i) : q2u t = .inl (q0a "a number of a transform is missing") := by
 obtain ⟨as, rfl, _, _, h⟩ := h
 rw [j5s, if_neg hi, if_pos hn] at h
 exact h.symm
theorem CutI.comma {t : List Nat} {n i : Nat} {acc : List V} (h : CutI t (n + 1) i acc) (hi : ¬ i = t.length) (hn : ¬ nEnd t i = i) (hg : gEnd t (nEnd t i) = Option.none) : q2u t = .inl (q0a "a comma of a transform stands at the end") := by
 obtain ⟨as, rfl, _, _, h⟩ := h
 rw [j5s, if_neg hi, if_neg hn, hg] at h
 exact h.symm
theorem CutI.next {t : List Nat} {n i d : Nat} {acc : List V} (h : CutI t (n + 1) i acc) (hi : ¬ i = t.length) (hn : ¬ nEnd t i = i) (hg : gEnd t (nEnd t i) = some d) : CutI t n d (acc ++ [.str (slL t i (nEnd t i))]) ∧ i < d := by
 obtain ⟨as, rfl, h1, h2, h⟩ := h
 rw [j5s, if_neg hi, if_neg hn, hg] at h
 have f1 := j1b h1
 have f2 := gEnd_le f1.2 hg
 have hd : i < d := Nat.lt_of_lt_of_le (Nat.lt_of_le_of_ne f1.1 (Ne.symm hn)) f2.1
 refine ⟨⟨as ++ [slL t i (nEnd t i)], by rw [List.map_append]; rfl, f2.2, ?_, prep_cons.symm.trans h⟩, hd⟩
 rw [List.length_append]
 exact Nat.succ_le_of_lt (Nat.lt_of_le_of_lt h2 hd)
noncomputable def W_cut : Df 5 366 1 ["text"] [] [] := by
  refine' Df.mk _ _ _ _ (fun _ => rfl) rfl rfl (fun _ => rfl) rfl (fun _ _ _ => q1d (all1 fun _ => rfl)) (fun _ => .nil) (by decide) (by decide) ?H
  case H =>
    intro u c uo ok fn hr hsc hcd hqu
    dsimp only at hsc hcd hqu
    repeat' with_reducible first
 | (refine (?_ : DX _ _ _ _); first
  | refine' d_whl ‹_› ‹_› ["text", "found", "at"] ?_ ?_
  | refine' q0x ?_
  | refine' q3z ?_ ?_ ?_
  | refine' q3f ‹_› ?_ (by row_cond k) (by row_cond s)
  | refine' q4f ‹_› ?_ (q0e ‹_› rfl) (q0e ‹_› rfl) (by row_cond s) (by row_cond t)
  | refine' j1q ‹_› ‹_› (leq hr) (by row_cond k) ?_ rfl
  | refine' d_expr ‹_› ?_ (by row_cond s))
 | (refine (?_ : DE _ _ (.Call _ _ _ _) _); first
  | refine' q6a uo ‹_› (leq hr) (by row_cond k) ?_ rfl
  | refine' q9g uo ‹_› (leq hr) (by row_cond k) ?_ rfl
  | refine' d_push ?_ ?_ rfl rfl rfl
  | refine' q5i (q1h ‹_› ‹_› (by row_cond k)) ?_ rfl)
 | (refine (?_ : DE _ _ _ _); first
  | refine' d_lstT ?_
  | refine' q0f ‹_› (by row_cond k) (by decide)
  | exact q1l
  | exact q3y
  | refine' q3l ?_
  | refine' d_sl ?_ ?_ ?_)
 | refine' q2z ‹_› ?_ ?_ rfl
 | exact q0w
 | refine' q0j ?_ ?_ rfl
 | exact q0i
 | refine' q0v ?_ ?_
 | refine' q4g ?_
 | intro _ _ _ _
theorem j2h : (uo : u.At) → CallOk u (.ref 366) 6 (xF cutX) := W_cut.x (by decide) (by decide) fun vs H v hH h => by
 obtain ⟨t, rfl, h1, hasc, h⟩ := oTA_s h
 cases h
 refine ⟨rfl, ?_⟩
 refine q4j (J := fun r => finR H.length r = xR H (cutW (q2u t))) ⟨[("text", .str t), ("at", .int 0), ("found", .obj H.length)], H ++ [.lst []]⟩ [] (by kernel_rfl) ?_
 refine whl_s (J := fun r => finR H.length r = _) (fun x : Nat × Nat × List V => ⟨[("text", .str t), ("found", .obj H.length), ("at", .int x.2.1)], H ++ [.lst x.2.2]⟩) (fun x => x.2.1 ≤ t.length ∧ t.length - x.2.1 ≤ x.1 ∧ CutI t x.1 x.2.1 x.2.2) (fun x => t.length - x.2.1) ?_ (t.length, 0, []) (by kernel_rfl) ⟨Nat.zero_le _, Nat.le_refl _, [], rfl, Nat.zero_le _, Nat.le_refl _, prep_nil⟩ (j4w h1)
 rintro ⟨n, i, acc⟩ ⟨hi, hin, hI⟩
 dsimp only at hi hin hI
 have hA := hI.all hH
 have e1 := len_str (H := H ++ [.lst acc]) (q1f h1)
 by_cases hlt : i < t.length
 · have hne : ¬ i = t.length := Nat.ne_of_lt hlt
   refine ⟨true, q3h [fv e1, fT q1n (zlt hlt)] (by kernel_rfl), (if_pos rfl).mpr ?_⟩
   have e2 := j1c hA h1 hasc hi
   obtain ⟨n, rfl⟩ : ∃ m, n = m + 1 := Nat.exists_eq_add_one.mpr (Nat.lt_of_lt_of_le (Nat.sub_pos_of_lt hlt) hin)
   by_cases hn : nEnd t i = i
   · rw [hn] at e2
     rw [hI.none hne hn]
     exact aft_ex (H := H ++ [.lst acc]) [fr e2, fT q0t (show (i : Int) = i from rfl)] (by kernel_rfl) fun l => fin_x hH rfl rfl
   · have f1 := j1b hi
     have e3 := j2n (H := H ++ [.lst acc]) (a := i) (b := nEnd t i) (q1f h1)
     have e4 := q5p (loc := []) (H := H) (v := .str (slL t i (nEnd t i))) (hI.len h1)
     have hB : (H ++ [AO.lst (acc ++ [.str (slL t i (nEnd t i))])]).all (q0b (H ++ [AO.lst (acc ++ [.str (slL t i (nEnd t i))])]).length) = true := by
       obtain ⟨as, rfl, _⟩ := hI
       have := j6h (l := (as ++ [slL t i (nEnd t i)]).map V.str) hH q2v
       rwa [List.map_append] at this
     cases hg : gEnd t (nEnd t i) with
     | none =>
       rw [hI.comma hne hn hg]
       exact aft_ex (H := H ++ [.lst (acc ++ [.str (slL t i (nEnd t i))])]) [fr e2, fN q0t (zne hn), fb (q5b H acc), fv e3, fr e4, fr (gap_x0 hB h1 f1.2 hg)] (by kernel_rfl) fun l => fin_x hH rfl rfl
     | some d =>
       have hN := hI.next hne hn hg
       exact q3e (x := (n, d, acc ++ [.str (slL t i (nEnd t i))])) [fr e2, fN q0t (zne hn), fb (q5b H acc), fv e3, fr e4, fr (gap_x1 hB h1 f1.2 hg)] (by kernel_rfl) ⟨(gEnd_le f1.2 hg).2, by have := hN.2; dsimp only; omega, hN.1⟩ (by have := hN.2; dsimp only; omega)
 · refine ⟨false, q3h [fv e1, fN q1n (znlt hlt)] (by kernel_rfl), (if_neg (by decide)).mpr ?_⟩
   cases Nat.le_antisymm hi (Nat.le_of_not_lt hlt)
   obtain ⟨as, _, _, _, h⟩ := hI
   rw [cutGo_e, j4m] at h
   rw [← h]
   subst acc
   exact q2d (E := [.lst (as.map V.str)]) hH [] (by kernel_rfl) (j4o q2v)
theorem q7r {H : List AO} {b n : Nat} : q0z (.rng (b : Int) (n : Int)) H = n - b + 1 := by
 show ((n : Int) - b).toNat + 1 = _
 omega
theorem q7j {a : Nat} (h1 : a ≤ 100000) : rngV [.int (a : Int)] = some (.rng ((0 : Nat) : Int) a) := or_p (q0l ⟨Int.natCast_nonneg a, Int.ofNat_le.mpr h1⟩)
theorem rng_at {b n k : Nat} {v : V} (h : (rngL (b : Int) (n : Int))[k]? = some v) : v = .int ((b + k : Nat) : Int) ∧ b + k < n := by
 have hl := (List.getElem?_eq_some_iff.mp h).1
 rw [q4c] at hl
 unfold rngL at h
 rw [List.getElem?_map, List.getElem?_range (by omega)] at h
 exact ⟨(Option.some.inj h).symm.trans (congrArg V.int (Int.natCast_add b k).symm), by omega⟩
noncomputable def W_lcut : Df 5 458 1 ["text"] [] [] := by
  refine' Df.mk _ _ _ _ (fun _ => rfl) rfl rfl (fun _ => rfl) rfl (fun _ _ _ => q1d (all1 fun _ => rfl)) (fun _ => .nil) (by decide) (by decide) ?H
  case H =>
    intro u c uo ok fn hr hsc hcd hqu
    dsimp only at hsc hcd hqu
    repeat' with_reducible first
 | (refine (?_ : DX _ _ _ _); first
  | refine' d_for (cell := false) ‹_› ‹_› ["text", "found", "at"] ?_ (by row_cond k) ?_ (fun _ => rfl)
  | refine' q0x ?_
  | refine' q3z ?_ ?_ ?_
  | refine' q3f ‹_› ?_ (by row_cond k) (by row_cond s)
  | refine' q4f ‹_› ?_ (q0e ‹_› rfl) (q0e ‹_› rfl) (by row_cond s) (by row_cond t)
  | refine' d_expr ‹_› ?_ (by row_cond s))
 | (refine (?_ : DE _ _ (.Call _ _ _ _) _); first
  | refine' q4p uo ‹_› (leq hr) (by row_cond k) ?_ rfl
  | refine' q3g uo ‹_› (leq hr) (by row_cond k) ?_ rfl
  | refine' d_push ?_ ?_ rfl rfl rfl
  | refine' q5i (q1h ‹_› ‹_› (by row_cond k)) ?_ rfl)
 | (refine (?_ : DE _ _ _ _); first
  | refine' d_lstT ?_
  | refine' q0f ‹_› (by row_cond k) (by decide)
  | exact q1l
  | exact j1r
  | refine' j5q ?_ ?_ ?_
  | refine' q3l ?_
  | refine' d_sl ?_ ?_ ?_)
 | refine' q2z ‹_› ?_ ?_ rfl
 | refine' q3s ?_
 | exact q0w
 | refine' q0j ?_ ?_ rfl
 | exact q0i
 | refine' q0v ?_ ?_
 | exact d_tsO
 | refine' d_tor ?_ ?_
 | refine' q4g ?_
 | refine' q9d (q2r ‹_› ‹_› (by row_cond k)) ?_ rfl
 | intro _ _ _ _
theorem j6l : (uo : u.At) → CallOk u (.ref 458) 6 (q0g cutN) := W_lcut.pure (by decide) (by decide) fun vs H v hH h => by
 obtain ⟨t, rfl, h1, hasc, h⟩ := oTA_s h
 cases h
 refine ⟨rfl, ?_⟩
 refine q4j (J := fun r => finR H.length r = .ok (cutU (q2u t)) ⟨[], H⟩) ⟨[("text", .str t), ("at", .int 0), ("found", .obj H.length)], H ++ [.lst []]⟩ [] (by kernel_rfl) ?_
 refine for_s (J := fun r => finR H.length r = _) rfl (fun x : Nat × List V => ⟨[("text", .str t), ("found", .obj H.length), ("at", .int x.1)], H ++ [.lst x.2]⟩) (rngL ((0 : Nat) : Int) (t.length : Int)) (fun k x => CutI t (t.length - k) x.1 x.2 ∧ k ≤ x.1) (0, []) [fv (len_str (H := H ++ [.lst []]) (q1f h1)), fS (q7j (q1f h1))] (by kernel_rfl) ⟨⟨[], rfl, Nat.zero_le _, Nat.le_refl _, prep_nil⟩, Nat.le_refl _⟩ (fun _ _ => q6t) (by rw [q7r, q4c]; exact Nat.lt_succ_self _) ?_ ?_
 · rintro k ⟨i, acc⟩ v hk ⟨hI, hki⟩
   obtain ⟨rfl, hkl⟩ := rng_at hk
   dsimp only at hI hki
   have hA := hI.all hH
   have e1 := len_str (H := H ++ [.lst acc]) (q1f h1)
   by_cases hie : i = t.length
   · subst i
     obtain ⟨as, rfl, _, _, h⟩ := hI
     rw [cutGo_e, j4m] at h
     rw [← h]
     exact j5e [fv e1, fT q0t (show (t.length : Int) = t.length from rfl)] (by kernel_rfl) fun l => q8l (E := [.lst (as.map V.str)]) hH rfl (j4o q2v)
   · rw [show t.length - k = t.length - (k + 1) + 1 by omega] at hI
     have hi : i ≤ t.length := by obtain ⟨_, _, h, _⟩ := hI; exact h
     have e2 := j1c hA h1 hasc hi
     have f1 := j1b hi
     have e3 := j2n (H := H ++ [.lst acc]) (a := i) (b := nEnd t i) (q1f h1)
     have e4 := q5p (loc := []) (H := H) (v := .str (slL t i (nEnd t i))) (hI.len h1)
     have hB : (H ++ [AO.lst (acc ++ [.str (slL t i (nEnd t i))])]).all (q0b (H ++ [AO.lst (acc ++ [.str (slL t i (nEnd t i))])]).length) = true := by
       obtain ⟨as, rfl, _⟩ := hI
       have := j6h (l := (as ++ [slL t i (nEnd t i)]).map V.str) hH q2v
       rwa [List.map_append] at this
     have e5 := gap_n hB h1 f1.2
     by_cases hn : nEnd t i = i
     · rw [hI.none hie hn]
       exact j5e (H := H ++ [.lst (acc ++ [.str (slL t i (nEnd t i))])]) [fv e1, fN q0t (zne hie), fr e2, fb (q5b H acc), fv e3, fr e4, fr e5, fT q0t (show (nEnd t i : Int) = i by rw [hn])] (by kernel_rfl) fun l => q8l hH rfl (v := .none) rfl
     · cases hg : gEnd t (nEnd t i) with
       | none =>
         rw [hg] at e5
         rw [hI.comma hie hn hg]
         exact j5e (H := H ++ [.lst (acc ++ [.str (slL t i (nEnd t i))])]) [fv e1, fN q0t (zne hie), fr e2, fb (q5b H acc), fv e3, fr e4, fr e5, fN q0t (zne hn), fb is_nn] (by kernel_rfl) fun l => q8l hH rfl (v := .none) rfl
       | some d =>
         rw [hg] at e5
         have hN := hI.next hie hn hg
         exact q3q (x := (d, acc ++ [.str (slL t i (nEnd t i))])) [fv e1, fN q0t (zne hie), fr e2, fb (q5b H acc), fv e3, fr e4, fr e5, fN q0t (zne hn), fb (is_int (i := d))] (by kernel_rfl) ⟨hN.1, Nat.lt_of_le_of_lt hki hN.2⟩
 · rintro ⟨i, acc⟩ ⟨hI, hki⟩
   rw [q4c] at hki
   obtain ⟨as, rfl, hi, _, h⟩ := hI
   cases Nat.le_antisymm hi hki
   rw [cutGo_e, j4m] at h
   rw [← h]
   exact q2d (E := [.lst (as.map V.str)]) hH [fv (len_str (H := H ++ [.lst (as.map V.str)]) (q1f h1)), fT q0t (show (t.length : Int) = t.length from rfl)] (by kernel_rfl) (j4o q2v)
end Mi
end
section
namespace Mi
variable {u : U} {c : Cx} {np pos : Pos} {es : List Expr} {ds : D .l}
theorem j1a (uo : u.At) (ok : c.Ok) {p : Pos} (hk : KLoc c "DIGITS" .globalImplicit) : DE u c (.Name (Str.ofString "DIGITS") p) (.kv (.str (q0a "0123456789"))) :=
 q1v uo.ok ok hk (uo.glob rfl) (fun _ => by rw [q1u]; exact .str _ _) (by decide)
theorem q6h (uo : u.At) : q7d u.K 183 (Str.ofString "text") := by rw [uo.K]; exact ⟨rfl, rfl, rfl, rfl, rfl, rfl⟩
theorem q6i (uo : u.At) : q7d u.K 183 (Str.ofString "at") := by rw [uo.K]; exact ⟨rfl, rfl, rfl, rfl, rfl, rfl⟩
theorem aat_at (uo : u.At) {o value : Expr} {tp p : Pos} {a b : D .v} (ho : DE u c o b) (hv : DE u c value a) : DX u c (.AugAssign (.Attribute o (Str.ofString "at") tp) .Add value p) (.augA 183 (Str.ofString "at") b a) := sx_augA uo.ok (q6i uo) ho hv
noncomputable def rdO (t : List Nat) (a : Nat) : AO := .ins 183 [(Str.ofString "text", .str t), (Str.ofString "at", .int a)]
noncomputable def rdOf (x : AO) : Option (List Nat × Nat) := (insO x).bind fun p => o2 p.2 fun x y => oS x.2 fun t => oI y.2 fun a => oIf (p.1 = 183 ∧ x.1 = Str.ofString "text" ∧ y.1 = Str.ofString "at" ∧ 0 ≤ a) (some (t, a.toNat))
theorem rdOf_eq {x : AO} {t : List Nat} {a : Nat} (h : rdOf x = some (t, a)) : x = rdO t a := by
 obtain ⟨⟨C, fs⟩, h1, h3⟩ := bd_s h
 obtain ⟨⟨n, v⟩, ⟨m, w⟩, rfl, h4⟩ := o2_s h3
 obtain ⟨t', rfl, h5⟩ := oS_s h4
 obtain ⟨a', rfl, h6⟩ := oI_s h5
 obtain ⟨⟨rfl, rfl, rfl, h2⟩, h7⟩ := q0h h6
 injection Option.some.inj h7 with e1 e2
 rw [j7z h1, ← e1, ← e2]
 show _ = AO.ins 183 [(Str.ofString "text", V.str t'), (Str.ofString "at", V.int (a'.toNat : Int))]
 rw [Int.toNat_of_nonneg h2]
noncomputable def readR (H : List AO) (k : Nat) (t : List Nat) (x : (V × Nat) ⊕ (V × Nat)) : Res V := Sum.casesOn x (fun p => .ok p.1 ⟨[], H.set k (rdO t p.2)⟩) fun p => .ex 51 p.1 ⟨[], H.set k (rdO t p.2)⟩
noncomputable abbrev Rg := List Nat → Nat → List V → Option ((V × Nat) ⊕ (V × Nat))
noncomputable def readO (g : Rg) (vs : List V) (H : List AO) : Option (Res V) := List.casesOn vs none fun x ws => oO x fun k => oIf (H.all (q0b H.length) = true) ((H[k]?.bind rdOf).bind fun p => (g p.1 p.2 ws).map (readR H k p.1))
noncomputable def q4k (g : Rg) : Fn := fun vs H => Option.casesOn (readO g vs H) .bad id
theorem q7l {g : Rg} {H : List AO} {k a : Nat} {t : List Nat} {ws : List V} {x : (V × Nat) ⊕ (V × Nat)} (hH : H.all (q0b H.length) = true) (hk : H[k]? = some (rdO t a)) (h : g t a ws = some x) :
   q4k g (.obj k :: ws) H = readR H k t x := by
 have e : readO g (.obj k :: ws) H = some (readR H k t x) := by
   refine (q0l hH).trans ?_
   rw [hk]
   show (rdOf (rdO t a)).bind _ = _
   rw [show rdOf (rdO t a) = some (t, a) from if_pos (e := (none : Option (List Nat × Nat))) (c := (183 : Nat) = 183 ∧ Str.ofString "text" = Str.ofString "text" ∧ Str.ofString "at" = Str.ofString "at" ∧ 0 ≤ (a : Int)) ⟨rfl, rfl, rfl, Int.natCast_nonneg a⟩]
   show (g t a ws).map _ = _
   rw [h]; rfl
 unfold q4k
 rw [e]; rfl
theorem readF_to {f : Value} {n m : Nat} {fn : Fn} {g : Rg} (h : CallOk u f n fn) (hn : n ≤ m)
   (e : ∀ k ws H t a x, H.all (q0b H.length) = true → H[k]? = some (rdO t a) → g t a ws = some x → fn (.obj k :: ws) H = readR H k t x) : CallOk u f m (q4k g) :=
 h.to hn fun vs H hb => by
   unfold q4k at hb ⊢
   cases hr : readO g vs H with
   | none => rw [hr] at hb; exact absurd rfl hb
   | some r =>
     cases vs with
     | nil => exact nn hr
     | cons x ws =>
       obtain ⟨k, rfl, h1⟩ := oO_s hr
       obtain ⟨hH, h1⟩ := q0h h1
       obtain ⟨⟨t, a⟩, h2, h1⟩ := bd_s h1
       obtain ⟨o, h3, h2⟩ := bd_s h2
       obtain ⟨x, h4, rfl⟩ := q3p h1
       exact e k ws H t a x hH (h3.trans (congrArg some (rdOf_eq h2))) h4
theorem Df.read {n m : Nat} {a : Addr} {k : Nat} {xs : List String} {ds : List Value} {dvs : List V} (w : Df n a k xs ds dvs) (hn : 1 ≤ n) (hm : n + 1 ≤ m) {g : Rg}
   (e : ∀ i ws H t a x, H.all (q0b H.length) = true → H[i]? = some (rdO t a) → g t a ws = some x → (.obj i :: ws : List V).length = k ∧ finR H.length (ev w.d ⟨xs.zip ((.obj i :: ws) ++ dvs), H⟩) = readR H i t x) (uo : u.At) : CallOk u (.ref a) m (q4k g) :=
 readF_to (w.ok hn uo) hm fun i ws H t a x hH hk h => (if_pos (e i ws H t a x hH hk h).1).trans (e i ws H t a x hH hk h).2
section
variable {H : List AO} {k a d : Nat} {t : List Nat}
theorem ins_at {C : Addr} {fs : List (Str × V)} (h : H[k]? = some (.ins C fs)) : insOf H (.obj k) = some (C, fs) := by
 show H[k]?.bind insO = _
 rw [h]; rfl
theorem attr_at {C : Addr} {name : Str} {fs : List (Str × V)} {v : V} (h : H[k]? = some (.ins C fs)) (hv : (fs.lookup name).bind (fun v => oIf (notB v = true) (some v)) = some v) : q6m C name H (.obj k) = some v := by
 unfold q6m
 rw [ins_at h]
 exact (q0l rfl).trans hv
theorem q8g {C : Addr} {name : Str} {fs : List (Str × V)} (h : H[k]? = some (.ins C fs)) (hv : (fs.lookup name).isNone = true) : some (j4g C name H (.obj k)) = some true := by
 unfold j4g
 rw [ins_at h]
 exact congrArg some (q3w (decide_eq_true rfl) hv)
theorem j0u {C : Addr} {name : Str} {fs : List (Str × V)} {v : V} {loc : List (String × V)} (h : H[k]? = some (.ins C fs)) (hl : fs.length < 100) : putA C name v (.obj k) ⟨loc, H⟩ = .ok () ⟨loc, H.set k (.ins C (setF name v fs))⟩ := by
 show Option.casesOn (motive := fun _ => Res Unit) (H[k]?.bind _) _ _ = _
 rw [h]
 show Option.casesOn (motive := fun _ => Res Unit) (oIf _ _) _ _ = _
 rw [q0l ⟨rfl, hl⟩]
theorem at_is (h : H[k]? = some (rdO t a)) : q6m 183 (Str.ofString "at") H (.obj k) = some (.int a) := attr_at h rfl
theorem text_is (h : H[k]? = some (rdO t a)) : q6m 183 (Str.ofString "text") H (.obj k) = some (.str t) := attr_at h rfl
theorem put_rd {loc : List (String × V)} (h : H[k]? = some (rdO t a)) : putA 183 (Str.ofString "at") (.int ((a : Int) + 1)) (.obj k) ⟨loc, H⟩ = .ok () ⟨loc, H.set k (rdO t (a + 1))⟩ := j0u h (Nat.le_of_ble_eq_true rfl)
theorem rd_lt {x : AO} (h : H[k]? = some x) : k < H.length := (List.getElem?_eq_some_iff.mp h).1
theorem set_rd (h : H[k]? = some (rdO t a)) : H.set k (rdO t a) = H := by
 obtain ⟨hl, e⟩ := List.getElem?_eq_some_iff.mp h
 rw [← e, List.set_getElem_self]
theorem j0m {x : AO} (hH : H.all (q0b H.length) = true) (hx : q0b H.length x = true) : (H.set k x).all (q0b (H.set k x).length) = true := by
 rw [List.length_set]
 exact List.all_eq_true.mpr fun y hy => (List.mem_or_eq_of_mem_set hy).elim (List.all_eq_true.mp hH y) fun e => e ▸ hx
theorem j2q (hH : H.all (q0b H.length) = true) : (H.set k (rdO t a)).all (q0b (H.set k (rdO t a)).length) = true := j0m hH rfl
theorem q4i {x y : AO} (h : H[k]? = some x) : (H.set k y)[k]? = some y := List.getElem?_set_self (rd_lt h)
theorem q3k {b : D .f} {σ : St} {v : V} {x : AO} (hH : H.all (q0b H.length) = true) (hx : q0b H.length x = true) (f : List Fact) (h : j2e (et b σ (f.map Fact.o) []) = some (v, H.set k x, [], (f.map Fact.k).reverse)) (ho : outV H.length (H.set k x) v = some v) : finR H.length (ev b σ) = .ok v ⟨[], H.set k x⟩ := by
 obtain ⟨l, e⟩ := tret f h
 rw [e]
 have := j5f (σ := ⟨l, H.set k x⟩) (j0m (k := k) hH hx) rfl (by rw [List.length_set]; exact ho)
 rwa [List.length_set] at this
theorem j5h {b : D .f} {σ : St} {C : Addr} {m : V} {x : AO} (hH : H.all (q0b H.length) = true) (hx : q0b H.length x = true) (f : List Fact) (h : exOf (et b σ (f.map Fact.o) []) = some (C, m, H.set k x, [], (f.map Fact.k).reverse)) (ho : below H.length m = true) : finR H.length (ev b σ) = .ex C m ⟨[], H.set k x⟩ := by
 obtain ⟨l, e⟩ := tex f h
 rw [e]
 have := fin_x0 (C := C) (σ := ⟨l, H.set k x⟩) (j0m (k := k) hH hx) rfl (by rw [List.length_set]; exact ho)
 rwa [List.length_set] at this
end
noncomputable def inAt (s t : List Nat) (a : Nat) : Bool := Option.casesOn t[a]? false fun k => decide (k ∈ s)
noncomputable def j7y : Rg := fun t a vs => o1 vs fun x => oS x fun s => oIf (t.length ≤ 90000) (some (.inl (V.bool (inAt s t a), a)))
noncomputable def W_one : Df 1 166 2 ["self", "signs"] [] [] := by
  refine' Df.mk _ _ _ _ (fun _ => rfl) rfl rfl (fun _ => rfl) rfl (fun _ _ _ => q1d (all2 fun _ _ => rfl)) (fun _ => .nil) (by decide) (by decide) ?H
  case H =>
    intro u c uo ok fn hr hsc hcd hqu
    dsimp only at hsc hcd hqu
    repeat' with_reducible first
 | refine' q0x ?_
 | refine' q5i (q1h ‹_› ‹_› (by row_cond k)) ?_ rfl
 | (refine (?_ : DE _ _ _ _); first
  | refine' at_g uo (q6h uo) ?_ rfl (fun _ _ => rfl)
  | refine' at_g uo (q6i uo) ?_ rfl (fun _ _ => rfl)
  | refine' q0f ‹_› (by row_cond k) (by decide)
  | refine' j3b ‹_› ?_ ?_ rfl
  | refine' q1x ?_ ?_ (fun _ _ => rfl)
  | refine' q7w ?_)
 | exact q0w
 | refine' q0j ?_ ?_ rfl
 | exact q0i
 | refine' q0v ?_ ?_
 | refine' d_vand ?_ ?_
 | refine' d_vone ?_
 | intro _ _ _ _
theorem j7w : (uo : u.At) → CallOk u (.ref 166) 3 (q4k j7y) := W_one.read (by decide) (by decide) fun k ws H t a x hH hk h => by
 obtain ⟨_, rfl, h⟩ := o1_s h
 obtain ⟨s, rfl, h⟩ := oS_s h
 obtain ⟨h1, h⟩ := q0h h
 cases h
 refine ⟨rfl, ?_⟩
 show _ = Res.ok (V.bool (inAt s t a)) ⟨[], H.set k (rdO t a)⟩
 rw [set_rd hk]
 have e0 := at_is hk
 have e1 := text_is hk
 have e2 := len_str (H := H) (q1f h1)
 unfold inAt
 by_cases hlt : a < t.length
 · obtain ⟨z, hz⟩ : ∃ z, t[a]? = some z := ⟨_, List.getElem?_eq_getElem hlt⟩
   rw [hz]
   exact q0r hH [fv e0, fv e1, fv e2, fT q1n (zlt hlt), fv e1, fv e0, fv (q4z (H := H) (q1f h1) hz), fb (in_str (k := z) (l := s))] (by kernel_rfl) rfl
 · rw [List.getElem?_eq_none (Nat.le_of_not_lt hlt)]
   exact q0r hH [fv e0, fv e1, fv e2, fN q1n (znlt hlt)] (by kernel_rfl) rfl
noncomputable def initO (vs : List V) (H : List AO) : Option (Nat × List Nat) := o2 vs fun x y => oO x fun k => oS y fun t => oIf (H.all (q0b H.length) = true) ((H[k]?.bind insO).bind fun p => o0 p.2 (oIf (p.1 = 183) (some (k, t))))
noncomputable def initF : Fn := fun vs H => Option.casesOn (initO vs H) .bad fun p => .ok .none ⟨[], H.set p.1 (rdO p.2 0)⟩
noncomputable def W_init : Df 1 159 2 ["self", "text"] [] [] := by
  refine' Df.mk _ _ _ _ (fun _ => rfl) rfl rfl (fun _ => rfl) rfl (fun _ _ _ => q1d (all2 fun _ _ => rfl)) (fun _ => .nil) (by decide) (by decide) ?H
  case H =>
    intro u c uo ok fn hr hsc hcd hqu
    dsimp only at hsc hcd hqu
    repeat' with_reducible first
 | (refine (?_ : DX _ _ _ _); first
  | refine' j6x uo (q6h uo) ?_ ?_ (by row_cond s) (by row_cond t)
  | refine' j6x uo (q6i uo) ?_ ?_ (by row_cond s) (by row_cond t))
 | (refine (?_ : DE _ _ _ _); first
  | refine' q0f ‹_› (by row_cond k) (by decide)
  | exact q1l)
 | exact q0i
 | refine' q0v ?_ ?_
 | intro _ _ _ _
theorem q9n (uo : u.At) : CodeOk u (.ref 159) 2 initF := (W_init.code (by decide) uo).to (by decide) fun vs H hb => by
 unfold initF at hb ⊢
 cases hr : initO vs H with
 | none => rw [hr] at hb; exact absurd rfl hb
 | some p =>
   obtain ⟨_, _, rfl, h⟩ := o2_s hr
   obtain ⟨k, rfl, h⟩ := oO_s h
   obtain ⟨t, rfl, h⟩ := oS_s h
   obtain ⟨hH, h⟩ := q0h h
   obtain ⟨⟨C, fs⟩, h1, h⟩ := bd_s h
   obtain ⟨o, hk, h1⟩ := bd_s h1
   rw [j7z h1] at hk
   cases fs with
   | cons _ _ => exact nn h
   | nil =>
     obtain ⟨rfl, h⟩ := q0h (show oIf (C = 183) _ = _ from h)
     cases h
     refine (if_pos rfl).trans ?_
     have e1 := j0u (loc := [("self", .obj k), ("text", .str t)]) (name := Str.ofString "text") (v := .str t) hk (by decide)
     have e2 := j0u (loc := [("self", .obj k), ("text", .str t)]) (name := Str.ofString "at") (v := .int 0) (q4i (y := .ins 183 [(Str.ofString "text", .str t)]) hk) (by show 1 < 100; decide)
     rw [List.set_set] at e2
     have q : ev W_init.d ⟨[("self", .obj k), ("text", .str t)], H⟩ = .ok .next ⟨[("self", .obj k), ("text", .str t)], H.set k (rdO t 0)⟩ := q1j [fu e1, fu e2] (by kernel_rfl)
     refine (congrArg (finR H.length) q).trans ?_
     have := j5f (H := H.set k (rdO t 0)) (v := .none) (w := .none) (σ := ⟨[("self", .obj k), ("text", .str t)], H.set k (rdO t 0)⟩) (j2q hH) rfl rfl
     rw [List.length_set] at this
     exact this
end Mi
end
section
namespace Mi
variable {u : U} {c : Cx} {np pos : Pos} {es : List Expr} {ds : D .l}
theorem q6n (uo : u.At) (ok : c.Ok) {o : Expr} {apos : Pos} {a : D .v} (hr : 3 ≤ c.room) (ho : DE u c o a) (ha : DL u c es ds) (hn : q2a es c)
   (he : ∃ pl, eval (.Call (.Attribute o (Str.ofString "is_one_of") apos) es [] pos) c.env = (do
     let ov ← eval o c.env
     standAt apos.atName
     let (f, first) ← holding [ov] (getMethod ov (Str.ofString "is_one_of") pl)
     callWith pos f first (backTo pos (starEach es c.env)) [])) :
   DE u c (.Call (.Attribute o (Str.ofString "is_one_of") apos) es [] pos) (.meth 183 (Str.ofString "is_one_of") (q4k j7y) a ds) :=
 q4s uo.ok ok (by rw [uo.K]; exact ⟨rfl, rfl, rfl⟩) (j7w uo) hr (uo.get rfl) rfl ho ha hn he
noncomputable def q0q (s t : List Nat) (a : Nat) : List Nat × Nat := Option.casesOn t[a]? ([], a) fun k => if k ∈ s then ([k], a + 1) else ([], a)
theorem q6f (s t : List Nat) (a : Nat) : (q0q s t a = ([], a) ∧ inAt s t a = false ∧ ∀ k, t[a]? = some k → k ∉ s) ∨ ∃ k, t[a]? = some k ∧ k ∈ s ∧ q0q s t a = ([k], a + 1) ∧ inAt s t a = true := by
 unfold q0q inAt
 cases h : t[a]? with
 | none => exact .inl ⟨rfl, rfl, fun k hk => nn hk⟩
 | some k =>
   by_cases hk : k ∈ s
   · exact .inr ⟨k, rfl, hk, if_pos hk, decide_eq_true hk⟩
   · exact .inl ⟨if_neg hk, decide_eq_false hk, fun k' hk' => Option.some.inj hk' ▸ hk⟩
section
variable {H : List AO} {k a b : Nat} {t s : List Nat}
theorem j0c (hH : H.all (q0b H.length) = true) (hk : H[k]? = some (rdO t a)) (h1 : t.length ≤ 90000) {x : Bool} (hb : inAt s t a = x) : q4k j7y [.obj k, .str s] H = .ok (.bool x) ⟨[], H⟩ := by
 rw [q7l (g := j7y) hH hk (show j7y t a [.str s] = some (.inl (V.bool (inAt s t a), a)) from q0l h1), ← hb]
 show Res.ok _ ⟨[], H.set k (rdO t a)⟩ = _
 rw [set_rd hk]
theorem put_rd2 {loc : List (String × V)} (h : H[k]? = some (rdO t a)) : putA 183 (Str.ofString "at") (.int ((b : Int) + 1)) (.obj k) ⟨loc, H.set k (rdO t b)⟩ = .ok () ⟨loc, H.set k (rdO t (b + 1))⟩ :=
 (put_rd (q4i h)).trans (by rw [List.set_set])
end
noncomputable def skipG : Rg := fun t a vs => o1 vs fun x => oS x fun s => oIf (t.length ≤ 90000) (some (.inl (V.str (q0q s t a).1, (q0q s t a).2)))
noncomputable def W_skip : Df 4 173 2 ["self", "signs"] [] [] := by
  refine' Df.mk _ _ _ _ (fun _ => rfl) rfl rfl (fun _ => rfl) rfl (fun _ _ _ => q1d (all2 fun _ _ => rfl)) (fun _ => .nil) (by decide) (by decide) ?H
  case H =>
    intro u c uo ok fn hr hsc hcd hqu
    dsimp only at hsc hcd hqu
    repeat' with_reducible first
 | (refine (?_ : DX _ _ _ _); first
  | refine' aat_at ‹_› ?_ ?_
  | refine' q0x ?_
  | refine' q3z ?_ ?_ ?_)
 | refine' q6n uo ‹_› (leq hr) ?_ ?_ rfl ⟨_, rfl⟩
 | (refine (?_ : DE _ _ _ _); first
  | refine' at_g uo (q6h uo) ?_ rfl (fun _ _ => rfl)
  | refine' at_g uo (q6i uo) ?_ rfl (fun _ _ => rfl)
  | refine' q0f ‹_› (by row_cond k) (by decide)
  | exact q1l
  | exact q3y
  | refine' q2g ?_ ?_
  | refine' q1x ?_ ?_ (fun _ _ => rfl))
 | refine' d_not ?_
 | refine' j5o ?_
 | exact q0w
 | refine' q0j ?_ ?_ rfl
 | exact q0i
 | refine' q0v ?_ ?_
 | intro _ _ _ _
theorem skip_ok : (uo : u.At) → CallOk u (.ref 173) 5 (q4k skipG) := W_skip.read (by decide) (by decide) fun k ws H t a x hH hk h => by
 obtain ⟨_, rfl, h⟩ := o1_s h
 obtain ⟨s, rfl, h⟩ := oS_s h
 obtain ⟨h1, h⟩ := q0h h
 cases h
 refine ⟨rfl, ?_⟩
 show _ = Res.ok (V.str (q0q s t a).1) ⟨[], H.set k (rdO t (q0q s t a).2)⟩
 have es := q8g (name := Str.ofString "is_one_of") hk rfl
 rcases q6f s t a with ⟨e, hb, _⟩ | ⟨z, hz, _, e, hb⟩
 · rw [e, set_rd hk]
   exact q0r hH [fb es, fr (j0c hH hk h1 hb)] (by kernel_rfl) rfl
 · rw [e]
   have hk2 := q4i (y := rdO t (a + 1)) hk
   exact q3k (x := rdO t (a + 1)) hH rfl [fb es, fr (j0c hH hk h1 hb), fv (at_is hk), fu (put_rd (loc := [("self", .obj k), ("signs", .str s)]) hk), fv (text_is hk2), fv (at_is hk2), fv (j7u (H := H.set k (rdO t (a + 1))) (n := a + 1) (q1f h1) (Nat.succ_pos a) hz)] (by kernel_rfl) rfl
noncomputable abbrev D10 : List Nat := q0a "0123456789"
noncomputable def q0s (t : List Nat) (a : Nat) : Nat := q0n (inAt D10 t) a (t.length - a)
noncomputable def q5v : Rg := fun t a vs => o0 vs (oIf (t.length ≤ 90000 ∧ a ≤ t.length) (some (.inl (V.str (slL t a (q0s t a)), q0s t a))))
theorem in_lt {s t : List Nat} {i : Nat} (h : inAt s t i = true) : i < t.length := by
 by_cases hi : i < t.length
 · exact hi
 · unfold inAt at h
   rw [List.getElem?_eq_none (Nat.le_of_not_lt hi)] at h
   exact absurd h Bool.false_ne_true
noncomputable def W_dig : Df 4 180 1 ["self"] [] [] := by
  refine' Df.mk _ _ _ _ (fun _ => rfl) rfl rfl (fun _ => rfl) rfl (fun _ _ _ => q1d (all1 fun _ => rfl)) (fun _ => .nil) (by decide) (by decide) ?H
  case H =>
    intro u c uo ok fn hr hsc hcd hqu
    dsimp only at hsc hcd hqu
    repeat' with_reducible first
 | (refine (?_ : DX _ _ _ _); first
  | refine' d_whl ‹_› ‹_› ["self", "begin"] ?_ ?_
  | refine' aat_at ‹_› ?_ ?_
  | refine' q0x ?_
  | refine' q3f ‹_› ?_ (by row_cond k) (by row_cond s))
 | refine' q6n uo ‹_› (leq hr) ?_ ?_ rfl ⟨_, rfl⟩
 | (refine (?_ : DE _ _ _ _); first
  | exact j1a uo ‹_› (by row_cond k)
  | refine' at_g uo (q6h uo) ?_ rfl (fun _ _ => rfl)
  | refine' at_g uo (q6i uo) ?_ rfl (fun _ _ => rfl)
  | refine' q0f ‹_› (by row_cond k) (by decide)
  | exact q1l
  | refine' d_sl ?_ ?_ ?_)
 | refine' j5o ?_
 | exact q0w
 | refine' q0j ?_ ?_ rfl
 | exact q0i
 | refine' q0v ?_ ?_
 | refine' q4g ?_
 | intro _ _ _ _
theorem digits_ok : (uo : u.At) → CallOk u (.ref 180) 5 (q4k q5v) := W_dig.read (by decide) (by decide) fun k ws H t a x hH hk h => by
 obtain ⟨rfl, h⟩ := o0_s h
 obtain ⟨⟨h1, h2⟩, h⟩ := q0h h
 cases h
 refine ⟨rfl, ?_⟩
 refine j6w (J := fun r => finR H.length r = Res.ok (V.str (slL t a (q0s t a))) ⟨[], H.set k (rdO t (q0s t a))⟩) (σ1 := ⟨[("self", .obj k), ("begin", .int a)], H.set k (rdO t a)⟩) (((q1j [fv (at_is hk)] (by kernel_rfl)).trans (congrArg (fun x => Res.ok Fl.next ⟨[("self", .obj k), ("begin", .int a)], x⟩) (set_rd hk).symm))) ?_
 refine whl_s (J := fun r => finR H.length r = _) (fun i : Nat => ⟨[("self", .obj k), ("begin", .int a)], H.set k (rdO t i)⟩) (fun i => i ≤ t.length ∧ q0n (inAt D10 t) i (t.length - i) = q0s t a) (fun i => t.length - i) ?_ a (by kernel_rfl) ⟨h2, rfl⟩ (j4w h1)
 rintro i ⟨hi, h4⟩
 have hki := q4i (y := rdO t i) hk
 have es := q8g (name := Str.ofString "is_one_of") hki rfl
 cases hq : inAt D10 t i with
 | true => exact ⟨true, q3h [fb es, fr (j0c (j2q hH) hki h1 hq)] (by kernel_rfl), (if_pos rfl).mpr (q3e (x := i + 1) [fv (at_is hki), fu (put_rd2 (b := i) (loc := [("self", .obj k), ("begin", .int a)]) hk)] (by kernel_rfl) ⟨in_lt hq, (fn_go hq (in_lt hq)).symm.trans h4⟩ (by have := in_lt hq; omega))⟩
 | false =>
   refine ⟨false, q3h [fb es, fr (j0c (j2q hH) hki h1 hq)] (by kernel_rfl), (if_neg (by decide)).mpr ?_⟩
   rw [fn_stop hq] at h4
   rw [← h4]
   exact q3k (x := rdO t i) hH rfl [fv (text_is hki), fv (at_is hki), fv (j2n (H := H.set k (rdO t i)) (a := a) (b := i) (q1f h1))] (by kernel_rfl) rfl
noncomputable abbrev dval := PySem.NumText.digitsVal
noncomputable def q2j (k : Nat) : Bool := decide (k ∈ D10)
noncomputable def wholeV (vs : List V) : Option V := o1 vs fun x => oS x fun l => oIf (l.length ≤ 90000 ∧ l.all q2j = true) (some (.int (dval l)))
theorem dig_ascii {l : List Nat} (h : l.all q2j = true) : q1a l = true := j1n (fun x hx => decide_eq_true (Nat.lt_of_le_of_lt ((q6u x).mp (of_decide_eq_true hx)).2 (by decide))) h
theorem dig_idx : ∀ k, k < 58 → k ∈ D10 → D10.idxOf k = k - 48 := by decide
theorem index_dig {k : Nat} (h : q2j k = true) : indexV D10 [.str [k]] = some (.int ((k - 48 : Nat) : Int)) := by
 have h := of_decide_eq_true h
 refine (q0l h).trans ?_
 rw [dig_idx k (Nat.lt_succ_of_le ((q6u k).mp h).2) h]
theorem dval_snoc {l : List Nat} {k : Nat} : dval (l ++ [k]) = dval l * 10 + (k - 48) := List.foldl_append
theorem j7l (uo : u.At) (ok : c.Ok) {o : Expr} {apos : Pos} {a : D .v} (hr : 5 ≤ c.room) (ho : DE u c o a) (ha : DL u c es ds) (hn : q2a es c)
   (he : ∃ pl, eval (.Call (.Attribute o (Str.ofString "skip") apos) es [] pos) c.env = (do
     let ov ← eval o c.env
     standAt apos.atName
     let (f, first) ← holding [ov] (getMethod ov (Str.ofString "skip") pl)
     callWith pos f first (backTo pos (starEach es c.env)) [])) :
   DE u c (.Call (.Attribute o (Str.ofString "skip") apos) es [] pos) (.meth 183 (Str.ofString "skip") (q4k skipG) a ds) :=
 q4s uo.ok ok (by rw [uo.K]; exact ⟨rfl, rfl, rfl⟩) (skip_ok uo) hr (uo.get rfl) rfl ho ha hn he
theorem j1e (uo : u.At) (ok : c.Ok) {o : Expr} {apos : Pos} {a : D .v} (hr : 5 ≤ c.room) (ho : DE u c o a) (ha : DL u c es ds) (hn : q2a es c)
   (he : ∃ pl, eval (.Call (.Attribute o (Str.ofString "digits") apos) es [] pos) c.env = (do
     let ov ← eval o c.env
     standAt apos.atName
     let (f, first) ← holding [ov] (getMethod ov (Str.ofString "digits") pl)
     callWith pos f first (backTo pos (starEach es c.env)) [])) :
   DE u c (.Call (.Attribute o (Str.ofString "digits") apos) es [] pos) (.meth 183 (Str.ofString "digits") (q4k q5v) a ds) :=
 q4s uo.ok ok (by rw [uo.K]; exact ⟨rfl, rfl, rfl⟩) (digits_ok uo) hr (uo.get rfl) rfl ho ha hn he
theorem q7o (uo : u.At) (ok : c.Ok) {p : Pos} (hk : KLoc c "MOST_EXPONENT" .globalImplicit) : DE u c (.Name (Str.ofString "MOST_EXPONENT") p) (.kv (.int 300)) :=
 q1v uo.ok ok hk (uo.glob rfl) (fun _ => .int _ _) (by decide)
noncomputable def W_who : Df 1 194 1 ["digits"] [] [] := by
  refine' Df.mk _ _ _ _ (fun _ => rfl) rfl rfl (fun _ => rfl) rfl (fun _ _ _ => q1d (all1 fun _ => rfl)) (fun _ => .nil) (by decide) (by decide) ?H
  case H =>
    intro u c uo ok fn hr hsc hcd hqu
    dsimp only at hsc hcd hqu
    repeat' with_reducible first
 | (refine (?_ : DX _ _ _ _); first
  | refine' d_for (cell := false) ‹_› ‹_› ["number"] ?_ (by row_cond k) ?_ (fun _ => rfl)
  | refine' q0x ?_
  | refine' q3f ‹_› ?_ (by row_cond k) (by row_cond s))
 | refine' d_index ?_ ?_ rfl rfl rfl rfl
 | (refine (?_ : DE _ _ _ _); first
  | exact j1a uo ‹_› (by row_cond k)
  | refine' q0f ‹_› (by row_cond k) (by decide)
  | exact q1l
  | refine' q2g ?_ ?_)
 | exact q0i
 | refine' q0v ?_ ?_
 | refine' q9c ?_
 | intro _ _ _ _
theorem whole_of_ok : (uo : u.At) → CallOk u (.ref 194) 3 (q0g wholeV) := W_who.pure (by decide) (by decide) fun vs H v hH h => by
 obtain ⟨_, rfl, h⟩ := o1_s h
 obtain ⟨l, rfl, h⟩ := oS_s h
 obtain ⟨⟨h1, h2⟩, h⟩ := q0h h
 cases h
 refine ⟨rfl, ?_⟩
 refine q4j (J := fun r => finR H.length r = .ok (.int (dval l)) ⟨[], H⟩) ⟨[("digits", .str l), ("number", .int 0)], H⟩ [] (by kernel_rfl) ?_
 refine for_s (J := fun r => finR H.length r = _) rfl (fun n : Nat => ⟨[("number", .int n)], H⟩) (l.map fun k => V.str [k]) (fun k n => n = dval (l.take k)) 0 [fS (seq_str (H := H) (dig_ascii h2))] (by kernel_rfl) rfl (fun _ _ => nth_str) (by rw [fuel_str, List.length_map]; exact Nat.lt_succ_self _) ?_ ?_
 · intro k n v hv hn
   rw [List.getElem?_map] at hv
   obtain ⟨z, hz, rfl⟩ := q3p hv
   refine q3q (x := n * 10 + (z - 48)) [fv (q1i (H := H) (a := n) (b := 10) (.inr (by decide))), fv (index_dig (List.all_eq_true.mp h2 z (List.mem_of_getElem? hz)))] (by kernel_rfl) ?_
   rw [List.take_add_one, hz, hn]
   exact dval_snoc.symm
 · intro n hn
   rw [List.length_map, List.take_length] at hn
   subst hn
   exact q0r hH [] (by kernel_rfl) rfl
theorem j5n {t : List Nat} {a : Nat} : (slL t a (q0s t a)).all q2j = true := List.all_eq_true.mpr fun x hx => by
 obtain ⟨i, hi⟩ := List.getElem?_of_mem hx
 unfold slL at hi
 rw [List.getElem?_drop, List.getElem?_take] at hi
 by_cases hlt : a + i < q0s t a
 · rw [if_pos hlt] at hi
   have := q5u (inAt D10 t) (t.length - a) a (a + i) (Nat.le_add_right _ _) hlt
   unfold inAt at this
   rw [hi] at this
   exact this
 · rw [if_neg hlt] at hi
   exact nn hi
theorem j1p {t : List Nat} {a : Nat} (h : a ≤ t.length) : a ≤ q0s t a ∧ q0s t a ≤ t.length :=
 ⟨q3r (inAt D10 t) (t.length - a) a, Nat.le_trans (q5d (inAt D10 t) (t.length - a) a) (Nat.le_of_eq (Nat.add_sub_of_le h))⟩
theorem j4c {s t : List Nat} {a : Nat} (h : a ≤ t.length) : a ≤ (q0q s t a).2 ∧ (q0q s t a).2 ≤ t.length := by
 rcases q6f s t a with ⟨e, _⟩ | ⟨z, hz, _, e, _⟩
 · rw [e]; exact ⟨Nat.le_refl _, h⟩
 · rw [e]; exact ⟨Nat.le_succ _, (List.getElem?_eq_some_iff.mp hz).1⟩
theorem skip_nil {s t : List Nat} {a : Nat} (h : (q0q s t a).1 = []) : (q0q s t a).2 = a := by
 rcases q6f s t a with ⟨e, _⟩ | ⟨z, hz, _, e, _⟩
 · rw [e]
 · rw [e] at h; cases h
noncomputable def expOf (sg ds : List Nat) (e : Nat) : (Int × Nat) ⊕ Nat := if ds = [] ∨ 9 < ds.length ∨ 300 < dval ds then .inr e else .inl (if sg = [45] then -(dval ds : Int) else dval ds, e)
noncomputable def expB (t : List Nat) (a : Nat) : (Int × Nat) ⊕ Nat := expOf (q0q (q0a "+-") t a).1 (slL t (q0q (q0a "+-") t a).2 (q0s t (q0q (q0a "+-") t a).2)) (q0s t (q0q (q0a "+-") t a).2)
noncomputable def q8n (t : List Nat) (a : Nat) : (Int × Nat) ⊕ Nat := if (q0q (q0a "eE") t a).1 = [] then .inl (0, a) else expB t (q0q (q0a "eE") t a).2
noncomputable def expW (x : (Int × Nat) ⊕ Nat) : (V × Nat) ⊕ (V × Nat) := Sum.casesOn x (fun p => .inl (.int p.1, p.2)) fun e => .inr (.str (q0a "an exponent that is not read"), e)
noncomputable def expG : Rg := fun t a vs => o0 vs (oIf (t.length ≤ 90000 ∧ a ≤ t.length) (some (expW (q8n t a))))
section
variable {H : List AO} {k a b : Nat} {t : List Nat}
theorem j0k (hH : H.all (q0b H.length) = true) (hk : H[k]? = some (rdO t a)) (h1 : t.length ≤ 90000) (s : List Nat) : q4k skipG [.obj k, .str s] H = .ok (.str (q0q s t a).1) ⟨[], H.set k (rdO t (q0q s t a).2)⟩ := q7l (g := skipG) hH hk (show skipG t a [.str s] = some (.inl (V.str (q0q s t a).1, (q0q s t a).2)) from q0l h1)
theorem skip_call2 (hH : H.all (q0b H.length) = true) (hk : H[k]? = some (rdO t a)) (h1 : t.length ≤ 90000) (s : List Nat) : q4k skipG [.obj k, .str s] (H.set k (rdO t b)) = .ok (.str (q0q s t b).1) ⟨[], H.set k (rdO t (q0q s t b).2)⟩ :=
 (j0k (j2q hH) (q4i hk) h1 s).trans (by rw [List.set_set])
theorem dig_call2 (hH : H.all (q0b H.length) = true) (hk : H[k]? = some (rdO t a)) (h1 : t.length ≤ 90000) (h2 : b ≤ t.length) : q4k q5v [.obj k] (H.set k (rdO t b)) = .ok (.str (slL t b (q0s t b))) ⟨[], H.set k (rdO t (q0s t b))⟩ :=
 (q7l (g := q5v) (j2q hH) (q4i hk) (show q5v t b [] = some (.inl (V.str (slL t b (q0s t b)), q0s t b)) from q0l ⟨h1, h2⟩)).trans (congrArg (fun x => Res.ok _ ⟨[], x⟩) (List.set_set ..))
theorem j2k {l : List Nat} (hH : H.all (q0b H.length) = true) (h1 : l.length ≤ 90000) (h2 : l.all q2j = true) : q0g wholeV [.str l] H = .ok (.int (dval l)) ⟨[], H⟩ := q0d hH (q0l ⟨h1, h2⟩)
end
theorem q7z (uo : u.At) (ok : c.Ok) : q1e u c "whole_of" 3 (q0g wholeV) np pos es ds := q0o whole_of_ok (fun _ => rfl) (fun _ => rfl) rfl (by decide) uo ok
noncomputable def W_exp : Df 5 201 1 ["reader"] [] [] := by
  refine' Df.mk _ _ _ _ (fun _ => rfl) rfl rfl (fun _ => rfl) rfl (fun _ _ _ => q1d (all1 fun _ => rfl)) (fun _ => .nil) (by decide) (by decide) ?H
  case H =>
    intro u c uo ok fn hr hsc hcd hqu
    dsimp only at hsc hcd hqu
    repeat' with_reducible first
 | (refine (?_ : DX _ _ _ _); first
  | refine' q0x ?_
  | refine' q3z ?_ ?_ ?_
  | refine' q4f ‹_› ?_ (q0e ‹_› rfl) (q0e ‹_› rfl) (by row_cond s) (by row_cond t)
  | refine' q5w ‹_› ‹_› (leq hr) (by row_cond k) ?_ rfl)
 | (refine (?_ : DE _ _ (.Call _ _ _ _) _); first
  | refine' j7l uo ‹_› (leq hr) ?_ ?_ rfl ⟨_, rfl⟩
  | refine' j1e uo ‹_› (leq hr) ?_ ?_ rfl ⟨_, rfl⟩
  | refine' q7z uo ‹_› (leq hr) (by row_cond k) ?_ rfl
  | refine' q5i (q1h ‹_› ‹_› (by row_cond k)) ?_ rfl)
 | (refine (?_ : DE _ _ _ _); first
  | exact q7o uo ‹_› (by row_cond k)
  | refine' q0f ‹_› (by row_cond k) (by decide)
  | exact q1l
  | exact q3y
  | refine' d_un ?_
  | refine' j5q ?_ ?_ ?_
  | refine' q3l ?_)
 | refine' q2z ‹_› ?_ ?_ rfl
 | refine' q3s ?_
 | exact q0w
 | refine' q0j ?_ ?_ rfl
 | exact q0i
 | refine' q0v ?_ ?_
 | exact d_tsO
 | refine' d_tor ?_ ?_
 | intro _ _ _ _
theorem q9m : (uo : u.At) → CallOk u (.ref 201) 6 (q4k expG) := W_exp.read (by decide) (by decide) fun k ws H t a x hH hk h => by
 obtain ⟨rfl, h⟩ := o0_s h
 obtain ⟨⟨h1, h2⟩, h⟩ := q0h h
 cases h
 refine ⟨rfl, ?_⟩
 have es := q8g (name := Str.ofString "skip") hk rfl
 have c1 := j0k hH hk h1 (q0a "eE")
 unfold q8n
 have f1 := (j4c (s := q0a "eE") h2).2
 have fn := skip_nil (s := q0a "eE") (t := t) (a := a)
 generalize q0q (q0a "eE") t a = x at *
 obtain ⟨x, a1⟩ := x
 dsimp only at c1 f1 fn ⊢
 by_cases hx : x = []
 · rw [if_pos hx, ← fn hx]
   exact q3k (x := rdO t a1) hH rfl [fb es, fr c1, fT q0c (show x = q0a "" from hx)] (by kernel_rfl) rfl
 · rw [if_neg hx]
   unfold expB
   have es1 := q8g (name := Str.ofString "skip") (q4i (y := rdO t a1) hk) rfl
   have c2 := skip_call2 (b := a1) hH hk h1 (q0a "+-")
   have f2 := (j4c (s := q0a "+-") f1).2
   generalize q0q (q0a "+-") t a1 = y at *
   obtain ⟨sg, a2⟩ := y
   dsimp only at c2 f2 ⊢
   have es2 := q8g (name := Str.ofString "digits") (q4i (y := rdO t a2) hk) rfl
   have c3 := dig_call2 hH hk h1 f2
   have hd := j5n (t := t) (a := a2)
   have hl : (slL t a2 (q0s t a2)).length ≤ 90000 := Nat.le_trans q8v h1
   generalize slL t a2 (q0s t a2) = ds at *
   generalize q0s t a2 = a3 at *
   have c4 := j2k (j2q (k := k) (a := a3) (t := t) hH) hl hd
   have e1 := len_str (H := H.set k (rdO t a3)) (l := ds) (q1f hl)
   unfold expOf
   by_cases q1 : ds = []
   · rw [if_pos (.inl q1)]
     exact j5h (x := rdO t a3) hH rfl [fb es, fr c1, fN q0c (show ¬ x = q0a "" from hx), fb es1, fr c2, fb es2, fr c3, fT q0c (show ds = q0a "" from q1)] (by kernel_rfl) rfl
   · by_cases q2 : 9 < ds.length
     · rw [if_pos (.inr (.inl q2))]
       exact j5h (x := rdO t a3) hH rfl [fb es, fr c1, fN q0c (show ¬ x = q0a "" from hx), fb es1, fr c2, fb es2, fr c3, fN q0c (show ¬ ds = q0a "" from q1), fv e1, fT q1c (zlt q2)] (by kernel_rfl) rfl
     · by_cases q3 : 300 < dval ds
       · rw [if_pos (.inr (.inr q3))]
         exact j5h (x := rdO t a3) hH rfl [fb es, fr c1, fN q0c (show ¬ x = q0a "" from hx), fb es1, fr c2, fb es2, fr c3, fN q0c (show ¬ ds = q0a "" from q1), fv e1, fN q1c (znlt q2), fr c4, fT q1c (zlt q3)] (by kernel_rfl) rfl
       · rw [if_neg fun h => h.elim q1 fun h => h.elim q2 q3]
         by_cases q4 : sg = [45]
         · rw [if_pos q4]
           exact q3k (x := rdO t a3) hH rfl [fb es, fr c1, fN q0c (show ¬ x = q0a "" from hx), fb es1, fr c2, fb es2, fr c3, fN q0c (show ¬ ds = q0a "" from q1), fv e1, fN q1c (znlt q2), fr c4, fN q1c (znlt q3), fT q0c (show sg = q0a "-" from q4), fr c4] (by kernel_rfl) rfl
         · rw [if_neg q4]
           exact q3k (x := rdO t a3) hH rfl [fb es, fr c1, fN q0c (show ¬ x = q0a "" from hx), fb es1, fr c2, fb es2, fr c3, fN q0c (show ¬ ds = q0a "" from q1), fv e1, fN q1c (znlt q2), fr c4, fN q1c (znlt q3), fN q0c (show ¬ sg = q0a "-" from q4), fr c4] (by kernel_rfl) rfl
end Mi
end
section
namespace Mi
variable {u : U} {c : Cx} {np pos : Pos} {es : List Expr} {ds : D .l}
theorem q8b (uo : u.At) (ok : c.Ok) : q1e u c "read_exponent" 6 (q4k expG) np pos es ds := q0o q9m (fun _ => rfl) (fun _ => rfl) rfl (by decide) uo ok
theorem classK183 (uo : u.At) : ClassK u.K 183 159 := by rw [uo.K]; exact ⟨rfl, rfl, rfl, rfl⟩
theorem j1h (uo : u.At) (ok : c.Ok) (hr : 3 ≤ c.room) (hk : KLoc c "NumberText" .globalImplicit) (ha : DL u c es ds) (hn : q2a es c) : DE u c (.Call (.Name (Str.ofString "NumberText") np) es [] pos) (.make 183 initF ds) :=
 se_make uo.ok ok (classK183 uo) (q9n uo) hr (by decide) (q1v uo.ok ok hk (uo.glob rfl) (fun _ => .val _) (by decide)) ha hn
theorem dval_aux (l : List Nat) : ∀ a : Nat, l.all q2j = true → l.foldl (fun acc c => acc * 10 + (c - 48)) a < (a + 1) * 10 ^ l.length := by
 induction l with
 | nil => exact fun a _ => by rw [List.foldl_nil, List.length_nil, Nat.pow_zero, Nat.mul_one]; exact Nat.lt_succ_self a
 | cons k l ih =>
   intro a h
   obtain ⟨h1, h2⟩ := Bool.and_eq_true_iff.mp h
   have h3 := (q6u k).mp (of_decide_eq_true h1)
   rw [List.foldl_cons, List.length_cons, Nat.pow_succ, Nat.mul_comm (10 ^ l.length) 10, ← Nat.mul_assoc]
   exact Nat.lt_of_lt_of_le (ih _ h2) (Nat.mul_le_mul_right _ (by omega))
theorem dval_lt (l : List Nat) (h : l.all q2j = true) : dval l < 10 ^ l.length := by
 have := dval_aux l 0 h
 rwa [Nat.zero_add, Nat.one_mul] at this
theorem j7b {n : Nat} (h : n < 400) : 10 ^ n < bigN := by unfold bigN; exact Nat.pow_lt_pow_right (by decide) h
theorem dval_big {l : List Nat} (h : l.all q2j = true) (hl : l.length ≤ 130) : dval l < bigN := Nat.lt_trans (Nat.lt_of_lt_of_le (dval_lt l h) (Nat.pow_le_pow_right (by decide) hl)) (j7b (n := 130) (by decide))
noncomputable def sgnV (sg ds : List Nat) : Int := if sg = [45] then -(dval ds : Int) else dval ds
theorem sgn_abs (sg ds : List Nat) : (sgnV sg ds).natAbs = dval ds := by
 unfold sgnV
 by_cases h : sg = [45]
 · rw [if_pos h, Int.natAbs_neg]; rfl
 · rw [if_neg h]; rfl
noncomputable def decN (sg ds : List Nat) (x : Int) : Int × Int := if x < 0 then q5c (sgnV sg ds) (10 ^ (-x).toNat) else (sgnV sg ds * 10 ^ x.toNat, 1)
noncomputable abbrev DecR := List Nat ⊕ (Int × Int)
noncomputable def noNum (t : List Nat) : List Nat := q0a "no number: " ++ t
noncomputable def decE (sg ds t : List Nat) (p : Nat) (r : (Int × Nat) ⊕ Nat) : DecR := Sum.casesOn r (fun q => if q.2 < t.length then .inl (noNum t) else .inr (decN sg ds (q.1 - p))) fun _ => .inl (q0a "an exponent that is not read")
noncomputable def decB (sg wh ps t : List Nat) (a : Nat) : DecR := if wh ++ ps = [] then .inl (noNum t) else decE sg (wh ++ ps) t ps.length (q8n t a)
noncomputable def decD (sg wh z : List Nat) (t : List Nat) (a : Nat) : DecR := if z = [] then decB sg wh [] t a else decB sg wh (slL t a (q0s t a)) t (q0s t a)
noncomputable def decC (sg t : List Nat) (a : Nat) : DecR := decD sg (slL t a (q0s t a)) (q0q (q0a ".") t (q0s t a)).1 t (q0q (q0a ".") t (q0s t a)).2
noncomputable def q2k (t : List Nat) : DecR := decC (q0q (q0a "+-") t 0).1 t (q0q (q0a "+-") t 0).2
noncomputable def decR (r : DecR) : V ⊕ (Addr × V) := Sum.casesOn r (fun m => .inr (51, .str m)) fun p => .inl (.q p)
noncomputable def decX (vs : List V) : Option (V ⊕ (Addr × V)) := o1 vs fun x => oS x fun t => oIf (t.length ≤ 60) (some (decR (q2k t)))
theorem exp_le {t : List Nat} {a : Nat} {x : Int} {e : Nat} (h : q8n t a = .inl (x, e)) : -300 ≤ x ∧ x ≤ 300 := by
 unfold q8n at h
 by_cases h0 : (q0q (q0a "eE") t a).1 = []
 · rw [if_pos h0] at h; cases h; decide
 · rw [if_neg h0] at h
   unfold expB expOf at h
   generalize slL t (q0q (q0a "+-") t (q0q (q0a "eE") t a).2).2 _ = ds at h
   generalize (q0q (q0a "+-") t (q0q (q0a "eE") t a).2).1 = sg at h
   by_cases h1 : ds = [] ∨ 9 < ds.length ∨ 300 < dval ds
   · rw [if_pos h1] at h; cases h
   · rw [if_neg h1] at h
     have h2 : ¬ 300 < dval ds := fun q => h1 (.inr (.inr q))
     injection h with h
     injection h with h _
     rw [← h]
     by_cases h3 : sg = [45]
     · rw [if_pos h3]; omega
     · rw [if_neg h3]; omega
theorem q6c {H : List AO} {n : Int} (h1 : 0 ≤ n) (h2 : n ≤ 1000000) : bin H .Pow (.int 10) (.int n) = some (.int (10 ^ n.toNat)) := q0l (k := some _) ⟨h1, h2, by decide⟩
theorem j4n (n : Nat) : ((10 : Int) ^ n).natAbs = 10 ^ n := Int.natAbs_pow 10 n
theorem pow_pos' (n : Nat) : (0 : Int) < 10 ^ n := Int.pow_pos (by decide)
section
variable {H : List AO} {a : Nat} {t : List Nat}
theorem j0s : (H ++ [rdO t a])[H.length]? = some (rdO t a) := List.getElem?_concat_length ..
theorem j4k (hH : H.all (q0b H.length) = true) : (H ++ [rdO t a]).all (q0b (H ++ [rdO t a]).length) = true := q1s hH rfl
theorem j2o (hH : H.all (q0b H.length) = true) (h1 : t.length ≤ 90000) (s : List Nat) : q4k skipG [.obj H.length, .str s] (H ++ [rdO t a]) = .ok (.str (q0q s t a).1) ⟨[], H ++ [rdO t (q0q s t a).2]⟩ :=
 (j0k (j4k hH) j0s h1 s).trans (by rw [q3d])
theorem j8h (hH : H.all (q0b H.length) = true) (h1 : t.length ≤ 90000) (h2 : a ≤ t.length) : q4k q5v [.obj H.length] (H ++ [rdO t a]) = .ok (.str (slL t a (q0s t a))) ⟨[], H ++ [rdO t (q0s t a)]⟩ :=
 (q7l (g := q5v) (j4k hH) j0s (show q5v t a [] = some (.inl (V.str (slL t a (q0s t a)), q0s t a)) from q0l ⟨h1, h2⟩)).trans (congrArg (fun x => Res.ok _ ⟨[], x⟩) q3d)
theorem exp_callL (hH : H.all (q0b H.length) = true) (h1 : t.length ≤ 90000) (h2 : a ≤ t.length) : q4k expG [.obj H.length] (H ++ [rdO t a]) = Sum.casesOn (motive := fun _ => Res V) (q8n t a) (fun p => .ok (.int p.1) ⟨[], H ++ [rdO t p.2]⟩) fun e => .ex 51 (.str (q0a "an exponent that is not read")) ⟨[], H ++ [rdO t e]⟩ := by
 refine (q7l (g := expG) (j4k hH) j0s (show expG t a [] = some (expW (q8n t a)) from q0l ⟨h1, h2⟩)).trans ?_
 cases q8n t a with
 | inl p => exact congrArg (fun x => Res.ok _ ⟨[], x⟩) q3d
 | inr e => exact congrArg (fun x => Res.ex _ _ ⟨[], x⟩) q3d
theorem make_rd (hH : H.all (q0b H.length) = true) : j7o 183 initF [.str t] ⟨[], H⟩ = .ok (.obj H.length) ⟨[], H ++ [rdO t 0]⟩ := by
 have e : initO [.obj H.length, .str t] (H ++ [.ins 183 []]) = some (H.length, t) := by
   refine (q0l (q1s hH rfl)).trans ?_
   rw [List.getElem?_concat_length]
   exact q0l (p := (183 : Addr) = 183) rfl
 have e2 : initF [.obj H.length, .str t] (H ++ [.ins 183 []]) = .ok .none ⟨[], H ++ [rdO t 0]⟩ := by
   unfold initF
   rw [e]
   exact congrArg (fun x => Res.ok _ ⟨[], x⟩) q3d
 show okB (initF [.obj H.length, .str t] (H ++ [.ins 183 []])) _ = _
 rw [e2]; rfl
theorem j5g {b : D .f} {σ : St} {C : Addr} {m : V} {E : List AO} (hH : H.all (q0b H.length) = true) (f : List Fact) (h : exOf (et b σ (f.map Fact.o) []) = some (C, m, H ++ E, [], (f.map Fact.k).reverse)) (ho : below H.length m = true) : finR H.length (ev b σ) = .ex C m ⟨[], H⟩ := by
 obtain ⟨l, e⟩ := tex f h
 rw [e]; exact fin_x hH rfl ho
end
theorem seq_e {a b : D .f} {σ : St} {J : Res Fl → Prop} {P : St → Prop} (h : ∃ σ1, ev a σ = .ok .next σ1 ∧ P σ1) (k : ∀ σ1, P σ1 → J (ev b σ1)) : J (ev (.seq a b) σ) := by
 obtain ⟨σ1, h1, h2⟩ := h
 exact j6w h1 (k σ1 h2)
noncomputable def W_dec : Df 6 208 1 ["text"] [] [] := by
  refine' Df.mk _ _ _ _ (fun _ => rfl) rfl rfl (fun _ => rfl) rfl (fun _ _ _ => q1d (all1 fun _ => rfl)) (fun _ => .nil) (by decide) (by decide) ?H
  case H =>
    intro u c uo ok fn hr hsc hcd hqu
    dsimp only at hsc hcd hqu
    repeat' with_reducible first
 | (refine (?_ : DX _ _ _ _); first
  | refine' q0x ?_
  | refine' q3z ?_ ?_ ?_
  | refine' q3f ‹_› ?_ (by row_cond k) (by row_cond s)
  | refine' d_tup3s ‹_› ?_ (q0e ‹_› rfl) (q0e ‹_› rfl) (q0e ‹_› rfl) (by row_cond s) (by row_cond t)
  | refine' q5w ‹_› ‹_› (leq hr) (by row_cond k) ?_ rfl)
 | (refine (?_ : DE _ _ (.Call _ _ _ _) _); first
  | refine' j7l uo ‹_› (leq hr) ?_ ?_ rfl ⟨_, rfl⟩
  | refine' j1e uo ‹_› (leq hr) ?_ ?_ rfl ⟨_, rfl⟩
  | refine' q8b uo ‹_› (leq hr) (by row_cond k) ?_ rfl
  | refine' q7z uo ‹_› (leq hr) (by row_cond k) ?_ rfl
  | refine' q1q uo ‹_› (leq hr) (by row_cond k) ?_ rfl
  | refine' j1h uo ‹_› (leq hr) (by row_cond k) ?_ rfl
  | refine' q5i (q1h ‹_› ‹_› (by row_cond k)) ?_ rfl)
 | (refine (?_ : DE _ _ _ _); first
  | refine' at_g uo (q6i uo) ?_ rfl (fun _ _ => rfl)
  | refine' q0f ‹_› (by row_cond k) (by decide)
  | exact q1l
  | exact q3y
  | refine' d_un ?_
  | refine' q2g ?_ ?_
  | refine' q3l ?_)
 | refine' q2z ‹_› ?_ ?_ rfl
 | exact q0w
 | refine' q0j ?_ ?_ rfl
 | exact q0i
 | refine' q0v ?_ ?_
 | intro _ _ _ _
theorem j0r : (uo : u.At) → CallOk u (.ref 208) 7 (xF decX) := W_dec.x (by decide) (by decide) fun vs H v hH h => by
 obtain ⟨_, rfl, h⟩ := o1_s h
 obtain ⟨t, rfl, h⟩ := oS_s h
 obtain ⟨h1, h⟩ := q0h h
 cases h
 refine ⟨rfl, ?_⟩
 have h9 : t.length ≤ 90000 := Nat.le_trans h1 (by decide)
 have es (a : Nat) (n : Str) (hn) := q8g (name := n) (j0s (H := H) (t := t) (a := a)) hn
 refine q4j (J := fun r => finR H.length r = xR H (decR (q2k t))) ⟨[("text", .str t), ("reader", .obj H.length)], H ++ [rdO t 0]⟩ [fr (make_rd (t := t) hH)] (by kernel_rfl) ?_
 unfold q2k
 have c1 := j2o (a := 0) hH h9 (q0a "+-")
 have f1 := (j4c (s := q0a "+-") (Nat.zero_le t.length)).2
 generalize q0q (q0a "+-") t 0 = x at *
 obtain ⟨sg, a1⟩ := x
 dsimp only at c1 f1 ⊢
 unfold decC
 have c2 := j8h hH h9 f1
 have f2 := (j1p f1).2
 have d2 := j5n (t := t) (a := a1)
 have l2 := q8v (t := t) (b := a1) (i := q0s t a1)
 generalize slL t a1 (q0s t a1) = wh at *
 generalize q0s t a1 = a2 at *
 refine q4j (J := fun r => finR H.length r = _) ⟨[("text", .str t), ("reader", .obj H.length), ("parts", .str []), ("whole", .str wh), ("sign", .str sg)], H ++ [rdO t a2]⟩ [fb (es 0 (Str.ofString "skip") rfl), fr c1, fb (es a1 (Str.ofString "digits") rfl), fr c2] (by kernel_rfl) ?_
 have c3 := j2o (a := a2) hH h9 (q0a ".")
 have f3 := (j4c (s := q0a ".") f2).2
 generalize q0q (q0a ".") t a2 = x at *
 obtain ⟨z, a3⟩ := x
 dsimp only at c3 f3 ⊢
 unfold decD
 refine seq_e (J := fun r => finR H.length r = _) (P := fun σ => ∃ ps a, σ = ⟨[("text", .str t), ("reader", .obj H.length), ("parts", .str ps), ("whole", .str wh), ("sign", .str sg)], H ++ [rdO t a]⟩ ∧ (if z = [] then decB sg wh [] t a3 else decB sg wh (slL t a3 (q0s t a3)) t (q0s t a3)) = decB sg wh ps t a ∧ a ≤ t.length ∧ ps.all q2j = true ∧ ps.length ≤ t.length) ?_ ?_
 · by_cases hz : z = []
   · exact ⟨_, q1j [fb (es a2 (Str.ofString "skip") rfl), fr c3, gN q1m (show z = q0a "" from hz)] (by kernel_rfl), [], a3, rfl, if_pos hz, f3, rfl, Nat.zero_le _⟩
   · exact ⟨⟨[("text", .str t), ("reader", .obj H.length), ("parts", .str (slL t a3 (q0s t a3))), ("whole", .str wh), ("sign", .str sg)], H ++ [rdO t (q0s t a3)]⟩, q1j [fb (es a2 (Str.ofString "skip") rfl), fr c3, gT q1m (show ¬ z = q0a "" from hz), fb (es a3 (Str.ofString "digits") rfl), fr (j8h hH h9 f3)] (by kernel_rfl), _, _, rfl, if_neg hz, (j1p f3).2, j5n, q8v⟩
 · rintro σ ⟨ps, a, rfl, e, ha, dp, lp⟩
   rw [e]
   clear e c1 c2 c3
   have d5 : (wh ++ ps).all q2j = true := by rw [List.all_append, d2, dp]; rfl
   have hl : wh.length + ps.length ≤ 120 := Nat.add_le_add (Nat.le_trans l2 h1) (Nat.le_trans lp h1)
   have hl5 : (wh ++ ps).length ≤ 120 := by rw [List.length_append]; exact hl
   have s4 (a : Nat) := add_str (H := H ++ [rdO t a]) (x := wh) (y := ps) (Nat.le_trans hl (by decide))
   have m1 (a : Nat) : bin (H ++ [rdO t a]) .Add (.str (q0a "no number: ")) (.str t) = some (.str (noNum t)) := add_str (by rw [show (q0a "no number: ").length = 11 from rfl]; omega)
   have lt (a : Nat) := len_str (H := H ++ [rdO t a]) (q1f h9)
   have lq (a : Nat) := len_str (H := H ++ [rdO t a]) (l := ps) (Nat.le_trans lp (q1f h9))
   have at_ (a : Nat) := at_is (j0s (H := H) (t := t) (a := a))
   unfold decB
   generalize wh ++ ps = ds at *
   by_cases q1 : ds = []
   · rw [if_pos q1]
     exact j5g (E := [rdO t a]) hH [fv (s4 a), fT q0c (show ds = q0a "" from q1), fv (m1 a)] (by kernel_rfl) rfl
   · rw [if_neg q1]
     have q1' : ¬ ds = q0a "" := q1
     have c5 := exp_callL hH h9 ha
     have l5 := fun x e => @exp_le t a x e
     generalize q8n t a = r at *
     cases r with
     | inr e => exact j5g (E := [rdO t e]) hH [fv (s4 a), fN q0c q1', fr c5] (by kernel_rfl) rfl
     | inl p =>
       obtain ⟨x, e⟩ := p
       obtain ⟨b1, b2⟩ := l5 x e rfl
       clear l5
       show _ = xR H (decR (if e < t.length then _ else _))
       by_cases q2 : e < t.length
       · rw [if_pos q2]
         exact j5g (E := [rdO t e]) hH [fv (s4 a), fN q0c q1', fr c5, fv (lq e), fv (at_ e), fv (lt e), fT q1n (zlt q2), fv (m1 e)] (by kernel_rfl) rfl
       · rw [if_neg q2]
         have hA := j4k (t := t) (a := e) hH
         have c6 := j2k hA (Nat.le_trans hl5 (by decide)) d5
         have l7 : (sgnV sg ds).natAbs < bigN := by rw [sgn_abs]; exact dval_big d5 (Nat.le_trans hl5 (by decide))
         have hy : -390 ≤ x - (ps.length : Int) ∧ x - (ps.length : Int) ≤ 390 := by have := Nat.le_trans lp h1; omega
         refine q4j (J := fun r => finR H.length r = _) ⟨[("text", .str t), ("reader", .obj H.length), ("parts", .str ps), ("whole", .str wh), ("sign", .str sg)], H ++ [rdO t a]⟩ [fv (s4 a), fN q0c q1'] (by kernel_rfl) ?_
         refine q4j (J := fun r => finR H.length r = _) ⟨[("text", .str t), ("reader", .obj H.length), ("parts", .str ps), ("whole", .str wh), ("sign", .str sg), ("exponent", .int (x - (ps.length : Int)))], H ++ [rdO t e]⟩ [fr c5, fv (lq e)] (by kernel_rfl) ?_
         refine q4j (J := fun r => finR H.length r = _) ⟨[("text", .str t), ("reader", .obj H.length), ("parts", .str ps), ("whole", .str wh), ("sign", .str sg), ("exponent", .int (x - (ps.length : Int)))], H ++ [rdO t e]⟩ [fv (at_ e), fv (lt e), fN q1n (znlt q2)] (by kernel_rfl) ?_
         refine q4j (J := fun r => finR H.length r = _) ⟨[("text", .str t), ("reader", .obj H.length), ("parts", .str ps), ("whole", .str wh), ("sign", .str sg), ("exponent", .int (x - (ps.length : Int))), ("number", .int (dval ds))], H ++ [rdO t e]⟩ [fv (s4 e), fr c6] (by kernel_rfl) ?_
         refine j6w (J := fun r => finR H.length r = _) (σ1 := ⟨[("text", .str t), ("reader", .obj H.length), ("parts", .str ps), ("whole", .str wh), ("sign", .str sg), ("exponent", .int (x - (ps.length : Int))), ("number", .int (sgnV sg ds))], H ++ [rdO t e]⟩) ?_ ?_
         · unfold sgnV
           by_cases q4 : sg = [45]
           · rw [if_pos q4]; exact q1j [fT q0c (show sg = q0a "-" from q4)] (by kernel_rfl)
           · rw [if_neg q4]; exact q1j [fN q0c (show ¬ sg = q0a "-" from q4)] (by kernel_rfl)
         · unfold decN
           generalize x - (ps.length : Int) = y at *
           generalize sgnV sg ds = n at *
           by_cases q3 : y < 0
           · rw [if_pos q3]
             have k0 := pow_pos' (-y).toNat
             exact q2d (E := [rdO t e]) (v := .q (q5c n (10 ^ (-y).toNat))) hH [fT q1n q3, fv (q6c (H := H ++ [rdO t e]) (n := -y) (by omega) (by omega)), fr (q0d hA (q6g (t := n) (b := 10 ^ (-y).toNat) (Int.ne_of_gt k0) (by rw [j4n]; exact j7b (by omega))))] (by kernel_rfl) rfl
           · rw [if_neg q3]
             exact q2d (E := [rdO t e]) (v := .q (n * 10 ^ y.toNat, 1)) hH [fN q1n q3, fv (q6c (H := H ++ [rdO t e]) (n := y) (by omega) (by omega)), fv (bin_mulB (H := H ++ [rdO t e]) (a := n) (b := 10 ^ y.toNat) (j7p l7) (j7p (by rw [j4n]; exact j7b (by omega))))] (by kernel_rfl) rfl
end Mi
end
section
namespace Mi
variable {u : U} {c : Cx} {np pos : Pos} {es : List Expr} {ds : D .l}
noncomputable def j7x (t : List Nat) : Bool := (List.range t.length).all (ofQ t 0)
theorem sl_zero {t : List Nat} {i : Nat} : slL t 0 i = t.take i := rfl
theorem tok_app {A Y : List Nat} {k : Nat} (h : j7x (A ++ k :: Y) = true) : isOf A k = true := by
 have hl : A.length < (A ++ k :: Y).length := by rw [List.length_append, List.length_cons]; omega
 have h1 := List.all_eq_true.mp h A.length (List.mem_range.mpr hl)
 rw [of_at (k := k) (by rw [List.getElem?_append_right (Nat.le_refl _), Nat.sub_self]; rfl), sl_zero, List.take_left] at h1
 exact h1
theorem sl_sl {t : List Nat} {b e i : Nat} (h : b + i ≤ e) : (slL t b e).take i = slL t b (b + i) := by
 unfold slL
 rw [List.take_drop, List.take_take, Nat.min_eq_left h]
theorem sl_at {t : List Nat} {b e i : Nat} (h : b + i < e) : (slL t b e)[i]? = t[b + i]? := by
 unfold slL
 rw [List.getElem?_drop, List.getElem?_take, if_pos h]
theorem tok_cut {t : List Nat} {b : Nat} (hb : b ≤ t.length) : j7x (slL t b (nEnd t b)) = true := by
 refine List.all_eq_true.mpr fun i hi => ?_
 have hi := List.mem_range.mp hi
 have he := (j1b hb).2
 have hl : b + i < nEnd t b := by
   have : (slL t b (nEnd t b)).length = nEnd t b - b := by unfold slL; rw [List.length_drop, List.length_take, Nat.min_eq_left he]
   omega
 have h1 := q5u (ofQ t b) (t.length - b) b (b + i) (Nat.le_add_right _ _) hl
 have hk : t[b + i]? = some t[b + i] := List.getElem?_eq_getElem (Nat.lt_of_lt_of_le hl he)
 rw [of_at hk] at h1
 rw [of_at ((sl_at hl).trans hk), ← h1, sl_zero, sl_sl (Nat.le_of_lt hl)]
theorem j8f (q : Nat → Bool) (n : Nat) : ∀ b, q0n q b n < b + n → q (q0n q b n) = false := by
 induction n with
 | zero => exact fun b h => absurd h (Nat.lt_irrefl _)
 | succ n ih =>
   intro b h
   change (if q b then q0n q (b + 1) n else b) < _ at h
   change q (if q b then q0n q (b + 1) n else b) = false
   cases hq : q b with
   | true =>
     rw [hq, if_pos rfl] at h
     rw [if_pos rfl]
     exact ih (b + 1) (by omega)
   | false => rw [if_neg Bool.false_ne_true]; exact hq
structure Br (t : List Nat) (a : Nat) (r : List Nat) : Prop where
 le : a ≤ t.length
 dr : t.drop a = r
section
variable {t r s : List Nat} {a : Nat}
theorem Br.hd (b : Br t a r) {k : Nat} : t[a]? = some k ↔ ∃ r', r = k :: r' := by
 rw [← b.dr]
 by_cases h : a < t.length
 · rw [List.drop_eq_getElem_cons h, List.getElem?_eq_getElem h]
   exact ⟨fun e => ⟨_, by rw [Option.some.inj e]⟩, fun ⟨_, e⟩ => by rw [(List.cons.inj e).1]⟩
 · have h := Nat.le_of_not_lt h
   rw [List.drop_eq_nil_of_le h, List.getElem?_eq_none h]
   exact ⟨fun e => nn e, fun ⟨_, e⟩ => nomatch e⟩
theorem Br.nil (b : Br t a r) : a < t.length ↔ r ≠ [] := by
 rw [← b.dr]
 exact ⟨fun h e => absurd (List.drop_eq_nil_iff.mp e) (Nat.not_le.mpr h), fun h => Nat.lt_of_not_le fun e => h (List.drop_eq_nil_of_le e)⟩
theorem Br.skip (b : Br t a r) (s : List Nat) : ∃ S r', r = S ++ r' ∧ ((S = [] ∧ ∀ k r'', r' = k :: r'' → k ∉ s) ∨ ∃ k, k ∈ s ∧ S = [k]) ∧ (q0q s t a).1 = S ∧ Br t (q0q s t a).2 r' := by
 rcases q6f s t a with ⟨e, _, h⟩ | ⟨k, h1, h2, e, _⟩
 · rw [e]; exact ⟨[], r, rfl, .inl ⟨rfl, fun k r'' q => h k (b.hd.mpr ⟨r'', q⟩)⟩, rfl, b⟩
 · obtain ⟨r', rfl⟩ := b.hd.mp h1
   rw [e]; exact ⟨[k], r', rfl, .inr ⟨k, h2, rfl⟩, rfl, (List.getElem?_eq_some_iff.mp h1).1, by rw [← List.drop_drop, b.dr]; rfl⟩
theorem Br.dig (b : Br t a r) : ∃ D r', r = D ++ r' ∧ D.all q2j = true ∧ (∀ k r'', r' = k :: r'' → q2j k = false) ∧ slL t a (q0s t a) = D ∧ Br t (q0s t a) r' := by
 have h := j1p b.le
 have b2 : Br t (q0s t a) (t.drop (q0s t a)) := ⟨h.2, rfl⟩
 refine ⟨_, _, ?_, j5n, fun k r'' q => ?_, rfl, b2⟩
 · rw [← b.dr]
   unfold slL
   have : t.drop (q0s t a) = (t.drop a).drop (q0s t a - a) := by rw [List.drop_drop, Nat.add_sub_of_le h.1]
   rw [this, List.drop_take, List.take_append_drop]
 · have hk := b2.hd.mpr ⟨r'', q⟩
   have := j8f (inAt D10 t) (t.length - a) a (by rw [Nat.add_sub_of_le b.le]; exact (List.getElem?_eq_some_iff.mp hk).1)
   change inAt D10 t (q0s t a) = false at this
   unfold inAt at this
   rw [hk] at this
   exact this
end
theorem c_de : q0a ".eE" = [46, 101, 69] := rfl
theorem mem_two {k a b : Nat} (h : k ∈ [a, b]) : k = a ∨ k = b := (List.mem_cons.mp h).imp id fun h => List.mem_singleton.mp h
theorem mem_sg {k : Nat} (h : k ∈ q0a "+-") : k = 43 ∨ k = 45 := mem_two h
theorem mem_e {k : Nat} (h : k ∈ q0a "eE") : k = 101 ∨ k = 69 := mem_two h
noncomputable def isS (S : List Nat) : Prop := S = [] ∨ S = [43] ∨ S = [45]
theorem isS_of {S : List Nat} {p : Prop} (h : (S = [] ∧ p) ∨ ∃ k, k ∈ q0a "+-" ∧ S = [k]) : isS S := by
 rcases h with ⟨h, _⟩ | ⟨k, hk, rfl⟩
 · exact .inl h
 · exact .inr ((mem_sg hk).imp (fun e => by rw [e]) fun e => by rw [e])
structure Tok (t S W Z Q X : List Nat) : Prop where
 eq : t = S ++ W ++ Z ++ Q ++ X
 s : isS S
 w : W.all q2j = true
 q : Q.all q2j = true
 z : (Z = [] ∧ Q = []) ∨ Z = [46]
noncomputable def noE (l : List Nat) : Prop := 101 ∉ l ∧ 69 ∉ l
theorem j5m {l : List Nat} (h : l.all q2j = true) : noE l := ⟨fun q => absurd (List.all_eq_true.mp h _ q) (by decide), fun q => absurd (List.all_eq_true.mp h _ q) (by decide)⟩
theorem s_noE {S : List Nat} (h : isS S) : noE S := by rcases h with rfl | rfl | rfl <;> exact ⟨by decide, by decide⟩
theorem j4u {a b : List Nat} (h : noE a) (h' : noE b) : noE (a ++ b) := ⟨fun q => (List.mem_append.mp q).elim h.1 h'.1, fun q => (List.mem_append.mp q).elim h.2 h'.2⟩
theorem Tok.noE {t S W Z Q X : List Nat} (h : Tok t S W Z Q X) : Mi.noE (S ++ W ++ Z ++ Q) := by
 refine j4u (j4u (j4u (s_noE h.s) (j5m h.w)) ?_) (j5m h.q)
 rcases h.z with ⟨e, _⟩ | e <;> rw [e] <;> exact ⟨by decide, by decide⟩
noncomputable def valO (r : DecR) : Option (Int × Int) := Sum.casesOn r (fun _ => none) some
theorem j8e {l : List Nat} (h : noE l) (h0 : l ≠ []) : q1z l = false := by
 unfold q1z
 rw [List.getLast?_eq_some_getLast h0]
 refine decide_eq_false fun q => ?_
 have hm := List.getLast_mem h0
 rcases mem_e q with q | q <;> rw [q] at hm
 · exact h.1 hm
 · exact h.2 hm
theorem dec_parts (t : List Nat) : ∃ S W Z Q X a, Tok t S W Z Q X ∧ Br t a X ∧ q2k t = decB S W Q t a ∧ ∀ k X', X = k :: X' → q2j k = false ∧ (Z = [] → k ≠ 46) ∧ (S ++ W ++ Z ++ Q = [] → k ∉ q0a "+-") := by
 unfold q2k
 obtain ⟨S, r1, q1, hS, e1, b1⟩ := (Br.mk (Nat.zero_le _) rfl : Br t 0 t).skip (q0a "+-")
 rw [e1]
 generalize (q0q (q0a "+-") t 0).2 = a1 at *
 clear e1
 unfold decC
 obtain ⟨W, r2, q2, dW, sW, e2, b2⟩ := b1.dig
 rw [e2]
 generalize q0s t a1 = a2 at *
 clear e2 b1
 obtain ⟨Z, r3, q3, hZ, e3, b3⟩ := b2.skip (q0a ".")
 rw [e3]
 generalize (q0q (q0a ".") t a2).2 = a3 at *
 clear e3 b2
 unfold decD
 rcases hZ with ⟨rfl, nz⟩ | ⟨k, hk, rfl⟩
 · rw [if_pos rfl]
   refine ⟨S, W, [], [], r3, a3, ⟨by rw [q1, q2, q3]; simp only [List.append_nil, List.nil_append, List.append_assoc], isS_of hS, dW, rfl, .inl ⟨rfl, rfl⟩⟩, b3, rfl, fun k X' e => ⟨sW k X' (q3.trans e), fun _ h => nz k X' e (h ▸ .head _), fun h => ?_⟩⟩
   rw [List.append_nil, List.append_nil] at h
   obtain ⟨rfl, rfl⟩ := List.append_eq_nil_iff.mp h
   rcases hS with ⟨_, n⟩ | ⟨_, _, e⟩
   · exact n k X' (q2.trans (q3.trans e))
   · cases e
 · rw [if_neg (List.cons_ne_nil _ _)]
   obtain ⟨Q, r4, q4, dQ, sQ, e4, b4⟩ := b3.dig
   rw [e4]
   have hk : k = 46 := List.mem_singleton.mp hk
   subst hk
   refine ⟨S, W, [46], Q, r4, _, ⟨by rw [q1, q2, q3, q4]; simp only [List.append_assoc], isS_of hS, dW, dQ, .inr rfl⟩, b4, rfl, fun k X' e => ⟨sQ k X' e, fun h => (nomatch h), fun h => ?_⟩⟩
   have := (List.append_eq_nil_iff.mp (List.append_eq_nil_iff.mp h).1).2
   cases this
theorem j2w {ah : List Nat} {k : Nat} (h : isOf ah k = true) : (k ∈ q0a "+-" ∧ q1z ah = true) ∨ (k ∈ q0a "eE" ∧ q1z ah = false) ∨ (k = 46 ∧ 46 ∉ ah ∧ noE ah) ∨ q2j k = true := by
 unfold isOf at h
 by_cases q : k ∈ q0a "+-"
 · rw [if_pos q] at h; exact .inl ⟨q, h⟩
 · rw [if_neg q] at h
   by_cases q : k ∈ q0a "eE"
   · rw [if_pos q] at h; exact .inr (.inl ⟨q, (Bool.not_eq_true' _).mp h⟩)
   · rw [if_neg q] at h
     by_cases q : k = 46
     · rw [if_pos q, c_de] at h
       have h := List.all_eq_true.mp h
       exact .inr (.inr (.inl ⟨q, fun m => absurd (h _ m) (by decide), fun m => absurd (h _ m) (by decide), fun m => absurd (h _ m) (by decide)⟩))
     · rw [if_neg q] at h; exact .inr (.inr (.inr h))
theorem tok_X {t S W Z Q X : List Nat} (ht : j7x t = true) (T : Tok t S W Z Q X) (hk : ∀ k X', X = k :: X' → q2j k = false ∧ (Z = [] → k ≠ 46) ∧ (S ++ W ++ Z ++ Q = [] → k ∉ q0a "+-")) : X = [] ∨ ∃ ε Y, X = ε :: Y ∧ ε ∈ q0a "eE" := by
 cases X with
 | nil => exact .inl rfl
 | cons ε Y =>
   refine .inr ⟨ε, Y, rfl, ?_⟩
   obtain ⟨k1, k2, k3⟩ := hk ε Y rfl
   have hn := T.noE
   rw [T.eq] at ht
   rcases j2w (tok_app ht) with ⟨q1, q2⟩ | ⟨q1, q2⟩ | ⟨q1, q2, q3⟩ | q1
   · by_cases h0 : S ++ W ++ Z ++ Q = []
     · exact absurd q1 (k3 h0)
     · rw [j8e hn h0] at q2; cases q2
   · exact q1
   · rcases T.z with ⟨hz, _⟩ | hz
     · exact absurd q1 (k2 hz)
     · exact absurd (List.mem_append_left _ (List.mem_append_right _ (by rw [hz]; exact .head _))) q2
   · rw [k1] at q1; cases q1
theorem tok_Y {t A Y : List Nat} {a ε : Nat} (ht : j7x t = true) (hA : t = A ++ ε :: Y) (b : Br t a (ε :: Y)) (hε : ε ∈ q0a "eE") :
   ∃ S2 D R e, Y = S2 ++ D ++ R ∧ isS S2 ∧ D.all q2j = true ∧ (R = [] ∨ ∃ ρ R', R = ρ :: R' ∧ ρ ∈ q0a "eE") ∧ q8n t a = expOf S2 D e ∧ Br t e R := by
 unfold q8n
 obtain ⟨_, r0, q0, h0, e0, b0⟩ := b.skip (q0a "eE")
 rw [e0]
 rcases h0 with ⟨rfl, n⟩ | ⟨k, _, rfl⟩
 · exact absurd hε (n ε Y q0.symm)
 · obtain ⟨rfl, rfl⟩ := List.cons.inj q0
   rw [if_neg (List.cons_ne_nil _ _)]
   generalize (q0q (q0a "eE") t a).2 = a1 at *
   clear e0 b q0
   unfold expB
   obtain ⟨S2, r1, q1, hS, e1, b1⟩ := b0.skip (q0a "+-")
   rw [e1]
   generalize (q0q (q0a "+-") t a1).2 = a2 at *
   clear e1 b0
   obtain ⟨D, R, q2, dD, sD, e2, b2⟩ := b1.dig
   rw [e2]
   refine ⟨S2, D, R, _, by rw [q1, q2, List.append_assoc], isS_of hS, dD, ?_, rfl, b2⟩
   clear e2 b1 b2
   cases R with
   | nil => exact .inl rfl
   | cons ρ R' =>
     refine .inr ⟨ρ, R', rfl, ?_⟩
     rw [hA, q1, q2, show A ++ ε :: (S2 ++ (D ++ ρ :: R')) = (A ++ ε :: (S2 ++ D)) ++ ρ :: R' by simp only [List.append_assoc, List.cons_append]] at ht
     have hm : ε ∈ A ++ ε :: (S2 ++ D) := List.mem_append_right _ (.head _)
     rcases j2w (tok_app ht) with ⟨p1, p2⟩ | ⟨p1, p2⟩ | ⟨p1, p2, p3⟩ | p1
     · by_cases hD : S2 ++ D = []
       · obtain ⟨rfl, rfl⟩ := List.append_eq_nil_iff.mp hD
         rcases hS with ⟨_, n⟩ | ⟨_, _, e⟩
         · exact absurd p1 (n ρ R' q2)
         · cases e
       · have : q1z (A ++ ε :: (S2 ++ D)) = q1z (S2 ++ D) := by
           unfold q1z
           rw [show A ++ ε :: (S2 ++ D) = (A ++ [ε]) ++ (S2 ++ D) by rw [List.append_assoc]; rfl, List.getLast?_append, List.getLast?_eq_some_getLast hD]; rfl
         rw [this, j8e (j4u (s_noE (isS_of hS)) (j5m dD)) hD] at p2
         cases p2
     · exact p1
     · rcases mem_e hε with e | e <;> subst e
       · exact absurd hm p3.1
       · exact absurd hm p3.2
     · rw [sD ρ R' rfl] at p1; cases p1
noncomputable def decV (S W Q S2 D R : List Nat) : Option (Int × Int) := if W ++ Q = [] then none else if D = [] ∨ 9 < D.length ∨ 300 < dval D then none else if R = [] then some (decN S (W ++ Q) (sgnV S2 D - Q.length)) else none
theorem val_if {p : Prop} [Decidable p] {a : DecR} {b : DecR} : valO (if p then a else b) = if p then valO a else valO b := by
 by_cases h : p
 · rw [if_pos h, if_pos h]
 · rw [if_neg h, if_neg h]
theorem tok_dec {t : List Nat} (ht : j7x t = true) : ∃ S W Z Q X, Tok t S W Z Q X ∧ ((X = [] ∧ valO (q2k t) = if W ++ Q = [] then none else some (decN S (W ++ Q) (0 - Q.length))) ∨
   ∃ ε S2 D R, X = ε :: (S2 ++ D ++ R) ∧ ε ∈ q0a "eE" ∧ isS S2 ∧ D.all q2j = true ∧ (R = [] ∨ ∃ ρ R', R = ρ :: R' ∧ ρ ∈ q0a "eE") ∧ valO (q2k t) = decV S W Q S2 D R) := by
 obtain ⟨S, W, Z, Q, X, a, T, b, hd, hk⟩ := dec_parts t
 refine ⟨S, W, Z, Q, X, T, ?_⟩
 rw [hd]
 unfold decB
 rw [val_if]
 rcases tok_X ht T hk with rfl | ⟨ε, Y, rfl, hε⟩
 · refine .inl ⟨rfl, ?_⟩
   have hl : ¬ a < t.length := fun h => b.nil.mp h rfl
   have : q8n t a = .inl (0, a) := by
     unfold q8n q0q
     rw [List.getElem?_eq_none (Nat.le_of_not_lt hl)]
     rfl
   rw [this]
   show (if _ then _ else valO (if a < t.length then _ else _)) = _
   rw [if_neg hl]
   rfl
 · obtain ⟨S2, D, R, e, rfl, y1, y2, y3, y4, b2⟩ := tok_Y ht T.eq b hε
   refine .inr ⟨ε, S2, D, R, rfl, hε, y1, y2, y3, ?_⟩
   rw [y4]
   unfold decV expOf
   by_cases q0 : W ++ Q = []
   · rw [if_pos q0, if_pos q0]; rfl
   · rw [if_neg q0, if_neg q0]
     by_cases q : D = [] ∨ 9 < D.length ∨ 300 < dval D
     · rw [if_pos q, if_pos q]; rfl
     · rw [if_neg q, if_neg q]
       show valO (if e < t.length then _ else _) = _
       by_cases hR : R = []
       · rw [if_neg fun h => b2.nil.mp h hR, if_pos hR]; rfl
       · rw [if_pos (b2.nil.mpr hR), if_neg hR]; rfl
end Mi
end
section
namespace Mi
variable {u : U} {c : Cx} {np pos : Pos} {es : List Expr} {ds : D .l}
section
variable {a b d : D .f} {σ σ1 : St} {n : Nat} {R : Res V}
theorem fq (h : ev a σ = .ok .next σ1) (k : finR n (ev b σ1) = R) : finR n (ev (.seq a b) σ) = R := j6w (J := fun r => finR n r = R) h k
theorem ft (σ1 : St) (f : List Fact) (h : et a σ (f.map Fact.o) [] = some (.ok .next σ1, [], (f.map Fact.k).reverse)) (k : finR n (ev b σ1) = R) : finR n (ev (.seq a b) σ) = R := fq (tape f h) k
theorem fa (h : finR n (ev (.seq (.seq a b) d) σ) = R) : finR n (ev (.seq a (.seq b d)) σ) = R := by
 refine Eq.trans (congrArg (finR n) ?_) h
 show (ev a σ).bind _ = ((ev a σ).bind _).bind _
 cases ev a σ with
 | ok fl σ' => cases fl <;> rfl
 | _ => rfl
end
theorem abs_eq (a : Int) : (if a < 0 then -a else a) = (a.natAbs : Int) := by
 by_cases h : a < 0
 · rw [if_pos h]; omega
 · rw [if_neg h]; omega
theorem part_at {l r : List Nat} {k : Nat} (h : k ∉ l) : q7n (l ++ k :: r) k = (l, [k], r) := by
 have e : (l ++ k :: r).idxOf k = l.length := by rw [List.idxOf_append, if_neg h, List.idxOf_cons_self, Nat.zero_add]
 unfold q7n
 rw [if_pos (List.mem_append_right _ (.head _)), e, List.take_left, ← List.drop_drop, List.drop_left]
 rfl
theorem part_no {l : List Nat} {k : Nat} (h : k ∉ l) : q7n l k = (l, [], []) := if_neg h
theorem part_is {l : List Nat} {k : Nat} (h : l.length ≤ 100000) : partV l [.str [k]] = some (.tup [.str (q7n l k).1, .str (q7n l k).2.1, .str (q7n l k).2.2]) := q0l h
theorem j4t {l : List Nat} (h : noE l) : l.map (repc 69 101) = l := q7k 69 101 l h.2
theorem dig_no {l : List Nat} {k : Nat} (h : l.all q2j = true) (hk : q2j k = false) : k ∉ l := fun q => by
 rw [List.all_eq_true.mp h k q] at hk; cases hk
theorem sg_no : q2j 43 = false ∧ q2j 45 = false := ⟨by decide, by decide⟩
theorem tok_sg {t S W Z Q X : List Nat} (T : Tok t S W Z Q X) {a : Nat} (ha : a ∈ W ++ Z ++ Q) : a ∉ q0a "+-" := by
 intro h
 have hd : q2j a = false := by rcases mem_sg h with rfl | rfl <;> first | exact sg_no.1 | exact sg_no.2
 rcases List.mem_append.mp ha with q | q
 · rcases List.mem_append.mp q with q | q
   · exact dig_no T.w hd q
   · rcases T.z with ⟨e, _⟩ | e
     · rw [e] at q; exact nomatch q
     · rw [e] at q
       rw [List.mem_singleton.mp q] at h
       exact absurd h (by decide)
 · exact dig_no T.q hd q
theorem tok_strip {t S W Z Q X : List Nat} (T : Tok t S W Z Q X) : (S ++ W ++ Z ++ Q).dropWhile (q0a "+-").contains = W ++ Z ++ Q := by
 have h2 : (W ++ Z ++ Q).dropWhile (q0a "+-").contains = W ++ Z ++ Q := by
   have h := fun a => tok_sg T (a := a)
   generalize W ++ Z ++ Q = B at h
   cases B with
   | nil => rfl
   | cons a l => rw [List.dropWhile_cons, if_neg fun q => h a (.head _) (List.contains_iff_mem.mp q)]
 rw [List.append_assoc, List.append_assoc, ← List.append_assoc W]
 rcases T.s with rfl | rfl | rfl
 · exact h2
 · exact h2
 · exact h2
theorem tok_part {t S W Z Q X : List Nat} (T : Tok t S W Z Q X) : q7n (W ++ Z ++ Q) 46 = (W, Z, Q) := by
 have h46 := dig_no T.w (k := 46) (by decide)
 rcases T.z with ⟨rfl, rfl⟩ | rfl
 · rw [List.append_nil, List.append_nil]; exact part_no h46
 · rw [List.append_assoc]; exact part_at h46
theorem take_sg {B : List Nat} {k : Nat} (h : ∀ r, B ≠ k :: r) : B.take 1 ≠ [k] := by
 cases B with
 | nil => exact fun e => nomatch e
 | cons a l => exact fun e => h l (by rw [(List.cons.inj e).1])
theorem dig_head {D R : List Nat} (h : D.all q2j = true) (hR : R = [] ∨ ∃ R', R = 101 :: R') {k : Nat} (hk : q2j k = false) (hk2 : k ≠ 101) : (D ++ R).take 1 ≠ [k] := take_sg fun r e => by
 cases D with
 | nil =>
   rcases hR with rfl | ⟨R', rfl⟩
   · exact nomatch e
   · exact hk2 (List.cons.inj e).1.symm
 | cons a l => exact dig_no h hk (by rw [(List.cons.inj e).1]; exact .head _)
theorem tok_minus {t S W Z Q X : List Nat} (T : Tok t S W Z Q X) : (S ++ W ++ Z ++ Q).take 1 = [45] ↔ S = [45] := by
 have h : ∀ r, W ++ Z ++ Q ≠ 45 :: r := fun r e => tok_sg T (a := 45) (by rw [e]; exact .head _) (by decide)
 rw [List.append_assoc, List.append_assoc, ← List.append_assoc W]
 rcases T.s with rfl | rfl | rfl
 · exact ⟨fun e => absurd e (take_sg h), fun e => nomatch e⟩
 · exact ⟨fun e => absurd (List.cons.inj e).1 (by decide), fun e => absurd (List.cons.inj e).1 (by decide)⟩
 · exact ⟨fun _ => rfl, fun _ => rfl⟩
theorem fracI_pos {t b : Int} (h : 0 < b) : q5c t b = (t / Nat.gcd t.natAbs b.natAbs, b / Nat.gcd t.natAbs b.natAbs) := if_neg (Int.not_lt.mpr (Int.le_of_lt h))
theorem val_eq {S ds : List Nat} {x T0 : Int} {E2 : Nat} (hT : T0 = sgnV S ds * 10 ^ (max 0 x).toNat) (hE : E2 = 10 ^ (max 0 (0 - x)).toNat) : V.q (decN S ds x) = .tup [.int (T0 / (Nat.gcd T0.natAbs E2 : Nat)), .int ((E2 : Int) / (Nat.gcd T0.natAbs E2 : Nat))] := by
 unfold decN
 generalize sgnV S ds = N at *
 by_cases h : x < 0
 · rw [Int.max_eq_left (Int.le_of_lt h), Int.toNat_zero, Int.pow_zero, Int.mul_one] at hT
   rw [Int.max_eq_right (by omega), Int.zero_sub] at hE
   rw [if_pos h, fracI_pos (pow_pos' _), j4n, hT, hE, Int.natCast_pow]
   rfl
 · rw [Int.max_eq_right (Int.not_lt.mp h)] at hT
   rw [Int.max_eq_left (by omega), Int.toNat_zero, Nat.pow_zero] at hE
   rw [if_neg h, ← hT, hE, Nat.gcd_one_right]
   show V.tup [.int T0, .int 1] = .tup [.int (T0 / 1), .int (1 / 1)]
   rw [Int.ediv_one, Int.ediv_one]
theorem in_sg {l : List Nat} (h : q1a l = true) : cmp .In (.str l) (.lst [.str [43], .str [45]]) = some (decide (l = [43] ∨ l = [45])) := by
 show inL (.str l) _ = _
 unfold inL
 rw [q4q h, show mapO (toPy 5) [V.str [43], V.str [45]] = some [.str ⟨#[43]⟩, .str ⟨#[45]⟩] from rfl]
 refine congrArg some (Bool.eq_iff_iff.mpr ?_)
 simp only [List.any_cons, List.any_nil, PyData.eqv, Bool.or_false, Bool.or_eq_true, beq_iff_eq, Str.mk.injEq, decide_eq_true_eq]
 exact ⟨Or.imp (fun q => (Array.toList_inj.mpr q).symm) (fun q => (Array.toList_inj.mpr q).symm), Or.imp (fun q => by rw [q]) fun q => by rw [q]⟩
theorem ne_nil' {l : List V} {m : List PyData} (h : mapO (toPy 4) l = some m) : cmp .NotEq (.lst l) (.lst []) = some (!m.isEmpty) := congrArg (Option.map (!·)) (eq_nil h)
theorem int_digs {l : List Nat} (h : l.all q2j = true) (h0 : l ≠ []) (hl : l.length ≤ 640) : intV [.str l] = some (.int (dval l)) :=
 q0l (p := (∀ k ∈ l, 48 ≤ k ∧ k ≤ 57) ∧ l ≠ [] ∧ l.length ≤ 640) ⟨fun k hk => (q6u k).mp (of_decide_eq_true (List.all_eq_true.mp h k hk)), h0, hl⟩
theorem tok_power {S2 D R' : List Nat} (h1 : isS S2) (h2 : D.all q2j = true) (h3 : R' = [] ∨ ∃ R'', R' = 101 :: R'') : ∃ n : Nat, intV [.bool (decide ((S2 ++ D ++ R').take 1 = [43] ∨ (S2 ++ D ++ R').take 1 = [45]))] = some (.int (n : Int)) ∧ (S2 ++ D ++ R').drop n = D ++ R' ∧ ((S2 ++ D ++ R').take 1 = [45] ↔ S2 = [45]) := by
 have d43 := dig_head h2 h3 sg_no.1 (by decide)
 have d45 := dig_head h2 h3 sg_no.2 (by decide)
 rw [List.append_assoc]
 rcases h1 with rfl | rfl | rfl
 · rw [List.nil_append, decide_eq_false (fun q => q.elim d43 d45)]
   exact ⟨0, rfl, rfl, fun h => absurd h d45, fun h => nomatch h⟩
 · exact ⟨1, congrArg (fun b => intV [V.bool b]) (decide_eq_true (Or.inl rfl)), rfl, fun h => absurd (List.cons.inj h).1 (by decide), fun h => absurd (List.cons.inj h).1 (by decide)⟩
 · exact ⟨1, congrArg (fun b => intV [V.bool b]) (decide_eq_true (Or.inr rfl)), rfl, fun _ => rfl, fun _ => rfl⟩
section
variable {o e : Expr} {apos pos np : Pos} {a b : D .v}
theorem d_part (ho : DE u c o a) (he : DE u c e b) (hbase : Base o (Str.ofString "partition") c) (hline : (apos.endLine == pos.line) = true) (hes : starEach [e] c.env = [(false, eval e c.env)]) (hfew : Few [e] pos c) :
   DE u c (.Call (.Attribute o (Str.ofString "partition") apos) [e] [] pos) (.sm partV a (.cons b .nil)) :=
 q9x F.slot_str_partition rfl ho (q4r he q5n hes) hbase hfew hline (by rw [hes]; rfl) fun W σ s l t rs vs v i hr h => part_ok i hr h
theorem d_strip (ho : DE u c o a) (he : DE u c e b) (hbase : Base o (Str.ofString "lstrip") c) (hline : (apos.endLine == pos.line) = true) (hes : starEach [e] c.env = [(false, eval e c.env)]) (hfew : Few [e] pos c) :
   DE u c (.Call (.Attribute o (Str.ofString "lstrip") apos) [e] [] pos) (.sm lstripV a (.cons b .nil)) :=
 q9x F.slot_str_lstrip rfl ho (q4r he q5n hes) hbase hfew hline (by rw [hes]; rfl) fun W σ s l t rs vs v i hr h => lstrip_ok i hr h
theorem d1_part (ho : SE1 u c o (ev a)) (he : DE u c e b) (hbase : Base o (Str.ofString "partition") c) (hline : (apos.endLine == pos.line) = true) (hes : starEach [e] c.env = [(false, eval e c.env)]) (hfew : Few [e] pos c) :
   SE1 u c (.Call (.Attribute o (Str.ofString "partition") apos) [e] [] pos) (ev (.sm partV a (.cons b .nil))) :=
 se_smeth1 F.slot_str_partition rfl ho (q4r he q5n hes) hbase hfew hline (by rw [hes]; rfl) fun W σ s l t rs vs v i hr h => part_ok i hr h
theorem d1_E {k1 k2 : Nat} {q1 q2 : Pos} (ho : DE u c o a) (hbase : Base o (Str.ofString "replace") c) (hline : (apos.endLine == pos.line) = true) :
   SE1 u c (.Call (.Attribute o (Str.ofString "replace") apos) [.Constant (.str (Str.ofString "E")) k1 q1, .Constant (.str (Str.ofString "e")) k2 q2] [] pos) (ev (.rep 69 101 a)) :=
 se1_replace (q1u "E") (q1u "e") (by decide) ho hbase hline
theorem d1_tup3 {n m z : String} {p1 p2 p3 tp p : Pos} {k : Nat} (ok : c.Ok) (hv : SE1 u c e (ev a)) (hx : q1o c n) (hy : q1o c m) (hz : q1o c z) (hs : NoSwS [.Tuple [.Name (Str.ofString n) p1, .Name (Str.ofString m) p2, .Name (Str.ofString z) p3] k tp] e p c)
 (hw : swappedStores [.Tuple [.Name (Str.ofString n) p1, .Name (Str.ofString m) p2, .Name (Str.ofString z) p3] k tp] e c.env = pure none) : SX1 u c (.Assign [.Tuple [.Name (Str.ofString n) p1, .Name (Str.ofString m) p2, .Name (Str.ofString z) p3] k tp] e p) (ev (.tupn [n, m, z] a)) := sx_tup31 ok hv hx hy hz hs hw
theorem d1_seq {st : Stmt} {rest : List Stmt} {x y : D .f} (h : SX1 u c st (ev x)) (hs : DB u c rest y) : SB1 u c (st :: rest) (ev (.seq x y)) := sb_cons1 h hs
end
structure Dv where
 d : D .f
 fo : Obj
 fd : FuncData
 body : List Stmt
 h1 : ∀ P, (KK P).lookup 463 = some fo
 h2 : fo.data = .func fd
 h3 : fd.body = .stmts body
 H : ∀ {u : U} {c : Cx}, u.At → c.Ok → c.Fn → 4 ≤ c.room → c.env.scope = fd.scope → SB1 u c body (ev d)
noncomputable def W_val : Dv := by
  refine' Dv.mk _ _ _ _ (fun _ => rfl) rfl rfl ?H
  case H =>
    intro u c uo ok fn hr hsc
    dsimp only at hsc
    refine' d1_seq (d1_tup3 ok (d1_part (d1_E ?_ rfl rfl) ?_ rfl rfl rfl rfl) (q0e hsc rfl) (q0e hsc rfl) (q0e hsc rfl) (by row_cond s) (by row_cond t)) ?_
    all_goals repeat' with_reducible first
 | (refine (?_ : DX _ _ _ _); first
  | refine' d_whl ‹_› ‹_› ["top", "bottom", "one", "other"] ?_ ?_
  | refine' q0x ?_
  | refine' q3z ?_ ?_ ?_
  | refine' q3f ‹_› ?_ (by row_cond k) (by row_cond s)
  | refine' q4f ‹_› ?_ (q0e ‹_› rfl) (q0e ‹_› rfl) (by row_cond s) (by row_cond t)
  | refine' d_tup3 ‹_› ?_ (q0e ‹_› rfl) (q0e ‹_› rfl) (q0e ‹_› rfl) (by row_cond s) (by row_cond t))
 | (refine (?_ : DE _ _ (.Call _ _ _ _) _); first
  | refine' d_part ?_ ?_ rfl rfl rfl rfl
  | refine' d_strip ?_ ?_ rfl rfl rfl rfl
  | refine' d_abs (name_abs ‹_› ‹_› (by row_cond k)) ?_ rfl
  | refine' q5i (q1h ‹_› ‹_› (by row_cond k)) ?_ rfl
  | refine' d_max ‹_› (j0e ‹_› ‹_› (by row_cond k)) ?_ rfl
  | refine' d_toint (name_int ‹_› ‹_› (by row_cond k)) ?_ rfl)
 | (refine (?_ : DE _ _ _ _); first
  | (refine (?_ : DE _ _ (.ListComp _ _ _ _) _); refine' q7v ‹_› [] ?_ (q2h ‹_› rfl rfl rfl rfl rfl rfl rfl) (fun _ => rfl) ?_ ?_)
  | refine' q0f ‹_› (by row_cond k) (by decide)
  | exact q1l
  | exact q3y
  | exact j1r
  | refine' j8i ?_
  | refine' d_un ?_
  | refine' q2g ?_ ?_
  | refine' j3b ‹_› ?_ ?_ rfl
  | refine' j5q ?_ ?_ ?_
  | refine' q3l ?_
  | refine' d_sl ?_ ?_ ?_)
 | refine' q2z ‹_› ?_ ?_ rfl
 | refine' q3s ?_
 | exact q0w
 | refine' q0j ?_ ?_ rfl
 | exact q0i
 | refine' q0v ?_ ?_
 | exact d_tsA
 | exact d_tsO
 | refine' j3c ?_ ?_
 | refine' d_tor ?_ ?_
 | exact j5p
 | refine' q4g ?_
 | refine' q9c ?_
 | refine' d_lt1 ?_
 | intro _ _ _ _
noncomputable def valW (o : Option (Int × Int)) : V := Option.casesOn o .none V.q
noncomputable def valueV (vs : List V) : Option V := o1 vs fun x => oS x fun t => oIf (t.length ≤ 60 ∧ q1a t = true ∧ j7x t = true) (some (valW (valO (q2k t))))
noncomputable def Af (P : St → Prop) (n : Nat) (R : Res V) (r : Res Fl) : Prop := (∃ σ, r = .ok .next σ ∧ P σ) ∨ ∃ v σ, r = .ok (.ret v) σ ∧ finR n r = R
section
variable {a b d : D .f} {σ : St} {n : Nat} {R : Res V} {P : St → Prop} {H : List AO} {v : V}
theorem fo (h : Af P n R (ev a σ)) (k : ∀ σ, P σ → finR n (ev b σ) = R) : finR n (ev (.seq a b) σ) = R := by
 rcases h with ⟨σ1, h1, h2⟩ | ⟨v, σ1, h1, h2⟩
 · exact fq h1 (k σ1 h2)
 · rw [h1] at h2
   refine Eq.trans (congrArg (finR n) ?_) h2
   show (ev a σ).bind _ = _
   rw [h1]; rfl
theorem af_next (σ1 : St) (f : List Fact) (h : et a σ (f.map Fact.o) [] = some (.ok .next σ1, [], (f.map Fact.k).reverse)) (k : P σ1) : Af P n R (ev a σ) := .inl ⟨σ1, tape f h, k⟩
theorem j8u (hH : H.all (q0b H.length) = true) (f : List Fact) (h : j2e (et a σ (f.map Fact.o) []) = some (v, H, [], (f.map Fact.k).reverse)) (ho : outV H.length H v = some v) (hR : R = .ok v ⟨[], H⟩) : Af P H.length R (ev a σ) := by
 obtain ⟨l, e⟩ := tret f h
 exact .inr ⟨v, _, e, by rw [e, hR]; exact j5f hH rfl ho⟩
end
theorem j7r (uo : u.At) : CallOk u (.ref 463) 5 (q0g valueV) :=
 j4l ((codeOk_def1 (k := 1) (xs := ["told"]) (ds := []) (dvs := []) (n := 4) (den := ev W_val.d) uo.ok (uo.get (W_val.h1 _)) W_val.h2 W_val.h3 (uo.code rfl) rfl rfl rfl rfl rfl (by decide) (fun _ _ => q1d (all1 fun _ => rfl)) (fun _ => .nil) (by decide) (by decide) (by decide) (fun c ok fn hr hs _ _ _ => W_val.H uo ok fn hr hs) (by decide) rfl).call) (Nat.le_refl _) fun vs H v hH h => by
 obtain ⟨_, rfl, h⟩ := o1_s h
 obtain ⟨t, rfl, h⟩ := oS_s h
 obtain ⟨⟨h1, hasc, htok⟩, h⟩ := q0h h
 cases h
 refine (if_pos rfl).trans ?_
 obtain ⟨S, W, Z, Q, X, T, hc⟩ := tok_dec htok
 have lt : S.length + W.length + Z.length + Q.length + X.length ≤ 60 := by have := congrArg List.length T.eq; simp only [List.length_append] at this; omega
 have hAl : (S ++ W ++ Z ++ Q).length ≤ 60 := by simp only [List.length_append]; omega
 have hWl : (W ++ Q).length ≤ 120 := by rw [List.length_append]; omega
 have hWQ : (W ++ Q).all q2j = true := by rw [List.all_append, T.w, T.q]; rfl
 have a1 := add_str (H := H) (x := W) (y := Q) (by omega)
 have l2 := len_str (H := H) (l := Q) (by omega)
 have f1 : replV 69 101 (.str t) ⟨[], H⟩ = .ok (.str (t.map (repc 69 101))) ⟨[], H⟩ := if_pos (Nat.le_trans h1 (by decide))
 have f3 := sl_strB (H := H) (l := S ++ W ++ Z ++ Q) (b := 1) (Nat.le_trans hAl (by decide))
 have f4 : lstripV (S ++ W ++ Z ++ Q) [.str (q0a "+-")] = some (.str (W ++ Z ++ Q)) := (q0l (Nat.le_trans hAl (by decide))).trans (by rw [tok_strip T])
 have f5 : partV (W ++ Z ++ Q) [.str [46]] = some (.tup [.str W, .str Z, .str Q]) := (part_is (by simp only [List.length_append]; omega)).trans (by rw [tok_part T])
 obtain ⟨mk, pw, b, n, fg, f2, f6, f7, f8, f9, hcase⟩ : ∃ (mk pw : List Nat) (b : Bool) (n : Nat) (fg : List Nat), partV (t.map (repc 69 101)) [.str [101]] = some (.tup [.str (S ++ W ++ Z ++ Q), .str mk, .str pw]) ∧ slV H (.str pw) .none (.int 1) = some (.str (pw.take 1)) ∧
     cmp .In (.str (pw.take 1)) (.lst [.str [43], .str [45]]) = some b ∧ intV [.bool b] = some (.int (n : Int)) ∧ slV H (.str pw) (.int (n : Int)) .none = some (.str fg) ∧
     ((mk = [] ∧ fg = [] ∧ valO (q2k t) = if W ++ Q = [] then none else some (decN S (W ++ Q) (0 - Q.length))) ∨
       (mk = [101] ∧ ∃ S2 D R R', fg = D ++ R' ∧ (pw.take 1 = [45] ↔ S2 = [45]) ∧ q1a fg = true ∧ fg.length ≤ 60 ∧ D.all q2j = true ∧ ((R = [] ∧ R' = []) ∨ (R ≠ [] ∧ ∃ R'', R' = 101 :: R'')) ∧ valO (q2k t) = decV S W Q S2 D R)) := by
   have hn := T.noE
   have hrl : (t.map (repc 69 101)).length ≤ 100000 := by rw [List.length_map]; exact Nat.le_trans h1 (by decide)
   rcases hc with ⟨rfl, hv⟩ | ⟨ε, S2, D, R, rfl, hε, y1, y2, y3, hv⟩
   · refine ⟨[], [], false, 0, [], (part_is hrl).trans ?_, sl_strB (l := []) (b := 1) (Nat.zero_le _), in_sg rfl, rfl, j3z (l := []) (a := 0) (Nat.zero_le _), .inl ⟨rfl, rfl, hv⟩⟩
     rw [T.eq, List.append_nil, j4t hn, part_no hn.1]
   · have hR : (R = [] ∧ R.map (repc 69 101) = []) ∨ (R ≠ [] ∧ ∃ R'', R.map (repc 69 101) = 101 :: R'') := by
       rcases y3 with rfl | ⟨ρ, R'', rfl, hρ⟩
       · exact .inl ⟨rfl, rfl⟩
       · refine .inr ⟨List.cons_ne_nil _ _, R''.map (repc 69 101), ?_⟩
         rw [List.map_cons, show repc 69 101 ρ = 101 by rcases mem_e hρ with e | e <;> rw [e] <;> rfl]
     have hR' := hR.imp (fun h => h.2) (fun h => h.2)
     have teq : t.map (repc 69 101) = (S ++ W ++ Z ++ Q) ++ 101 :: (S2 ++ D ++ R.map (repc 69 101)) := by
       rw [T.eq, List.map_append, j4t hn, List.map_cons, List.map_append, List.map_append, j4t (s_noE y1), j4t (j5m y2), show repc 69 101 ε = 101 by rcases mem_e hε with e | e <;> rw [e] <;> rfl]
     have hra : q1a (t.map (repc 69 101)) = true := by
       refine List.all_eq_true.mpr fun y hy => ?_
       obtain ⟨z, hz, rfl⟩ := List.mem_map.mp hy
       unfold repc
       by_cases hz2 : z = 69
       · rw [if_pos hz2]; rfl
       · rw [if_neg hz2]; exact List.all_eq_true.mp hasc z hz
     have hrl2 := congrArg List.length teq
     rw [List.length_map, List.length_append, List.length_cons] at hrl2
     rw [teq] at hra
     have hPa : q1a (S2 ++ D ++ R.map (repc 69 101)) = true := by
       unfold q1a at hra
       rw [List.all_append, List.all_cons] at hra
       exact (Bool.and_eq_true_iff.mp (Bool.and_eq_true_iff.mp hra).2).2
     obtain ⟨n, f8, f9, h45⟩ := tok_power y1 y2 hR'
     rw [teq] at hrl
     have hPl : (S2 ++ D ++ R.map (repc 69 101)).length ≤ 60 := by omega
     generalize R.map (repc 69 101) = R' at *
     have sub : ∀ l : List Nat, (∀ x ∈ l, x ∈ S2 ++ D ++ R') → q1a l = true := fun l h => List.all_eq_true.mpr fun x hx => List.all_eq_true.mp hPa x (h x hx)
     refine ⟨[101], S2 ++ D ++ R', _, n, D ++ R', ?_, sl_strB (b := 1) (Nat.le_trans hPl (by decide)), in_sg (sub _ fun x hx => List.mem_of_mem_take hx), f8, (j3z (Nat.le_trans hPl (by decide))).trans (by rw [f9]), .inr ⟨rfl, S2, D, R, R', rfl, h45, sub _ fun x hx => by rw [List.append_assoc]; exact List.mem_append_right _ hx, ?_, y2, hR, hv⟩⟩
     · rw [teq, part_is hrl, part_at hn.1]
     · rw [List.append_assoc, List.length_append] at hPl
       exact Nat.le_trans (Nat.le_add_left _ _) hPl
 have hm := tok_minus T
 have hQ : Q.length ≤ 60 := by omega
 clear hc T hAl hasc htok lt
 generalize t.map (repc 69 101) = r at *
 generalize (S ++ W ++ Z ++ Q).take 1 = A1 at *
 generalize S ++ W ++ Z ++ Q = A at *
 generalize W ++ Z ++ Q = B at *
 generalize hs1 : (if S = [45] then (-1 : Int) else 1) = s1
 refine ft ⟨[("told", .str t), ("ahead", .str A), ("mark", .str mk), ("power", .str pw)], H⟩ [fr f1, fv f2] (by kernel_rfl) ?_
 refine fq (σ1 := ⟨[("told", .str t), ("ahead", .str A), ("mark", .str mk), ("power", .str pw), ("sign", .int s1)], H⟩) ?_ ?_
 · by_cases hS : S = [45]
   · rw [← hs1, if_pos hS]; exact q1j [fv f3, fT q0c (show A1 = q0a "-" from hm.mpr hS)] (by kernel_rfl)
   · rw [← hs1, if_neg hS]; exact q1j [fv f3, fN q0c (show ¬ A1 = q0a "-" from mt hm.mp hS)] (by kernel_rfl)
 refine ft ⟨[("told", .str t), ("ahead", .str A), ("mark", .str mk), ("power", .str pw), ("sign", .int s1), ("whole", .str W), ("point", .str Z), ("parts", .str Q)], H⟩ [fv f4, fv f5] (by kernel_rfl) ?_
 refine ft ⟨[("told", .str t), ("ahead", .str A), ("mark", .str mk), ("power", .str pw), ("sign", .int s1), ("whole", .str W), ("point", .str Z), ("parts", .str Q), ("figures", .str fg)], H⟩ [fv f6, fb f7, fv f8, fv f9] (by kernel_rfl) ?_
 refine fa (fa (fo (P := fun σ => ∃ x : Int, σ = ⟨[("told", .str t), ("ahead", .str A), ("mark", .str mk), ("power", .str pw), ("sign", .int s1), ("whole", .str W), ("point", .str Z), ("parts", .str Q), ("figures", .str fg), ("size", .int x)], H⟩ ∧ W ++ Q ≠ [] ∧ (-390 ≤ x ∧ x ≤ 300) ∧ valO (q2k t) = some (decN S (W ++ Q) x)) ?_ ?_))
 · clear f1 f2 f3 f4 f5 f7 f8 f9 hm hs1
   by_cases q0 : W ++ Q = []
   · refine j8u (v := .none) hH [fv a1, fT q0c (show W ++ Q = q0a "" from q0)] (by kernel_rfl) rfl ?_
     rcases hcase with ⟨_, _, hv⟩ | ⟨_, _, _, _, _, _, _, _, _, _, _, hv⟩
     · rw [hv, if_pos q0]; rfl
     · rw [hv]; unfold decV; rw [if_pos q0]; rfl
   · have q0' : ¬ W ++ Q = q0a "" := q0
     rcases hcase with ⟨rfl, rfl, hv⟩ | ⟨rfl, S2, D, R, R', rfl, h45, hFa, hFl, dD, hR, hv⟩
     · rw [if_neg q0] at hv
       exact af_next _ [fv a1, fN q0c q0', gN q1m (show [] = q0a "" from rfl), fv (len_str (H := H) (l := []) (Nat.zero_le _)), fN q1c (show ¬ (9 : Int) < ((0 : Nat) : Int) by decide), gN q1m (show [] = q0a "" from rfl), gN q1m (show [] = q0a "" from rfl), fv l2] (by kernel_rfl) ⟨0 - Q.length, rfl, q0, by omega, hv⟩
     · have qm : ¬ [101] = q0a "" := by decide
       unfold decV at hv
       rw [if_neg q0] at hv
       by_cases qF : D ++ R' = []
       · refine j8u (v := .none) hH [fv a1, fN q0c q0', gT q1m qm, fT q0c (show D ++ R' = q0a "" from qF)] (by kernel_rfl) rfl ?_
         rw [hv, if_pos (.inl (List.append_eq_nil_iff.mp qF).1)]; rfl
       · have qF' : ¬ D ++ R' = q0a "" := qF
         have eS := seq_str (H := H) hFa
         have eC := comp_str (ct W_val.d 0) (cg W_val.d 0) (x := "one") (H := H) (loc := []) (l := D ++ R') (fun k => !decide (k ∈ D10)) rfl (Nat.le_trans hFl (by decide)) hH (fun k acc => q3h [fb (nin_str (k := k) (l := D10))] (by kernel_rfl)) (fun v acc => j3u [] (by kernel_rfl))
         have eN := ne_nil' (l := ((D ++ R').filter fun k => !decide (k ∈ D10)).map fun k => V.str [k]) (m := ((D ++ R').filter fun k => !decide (k ∈ D10)).map fun k => PyData.str ⟨[k].toArray⟩) (q4x fun y hy => q4q (q3w (List.all_eq_true.mp hFa y (List.mem_filter.mp hy).1) rfl))
         rcases hR with ⟨rfl, rfl⟩ | ⟨hR, R'', rfl⟩
         · rw [if_pos rfl] at hv
           rw [List.append_nil] at *
           have eN : cmp .NotEq (.lst ((D.filter fun k => !decide (k ∈ D10)).map fun k => V.str [k])) (.lst []) = some false := by
             rw [eN, List.filter_eq_nil_iff.mpr fun k hk => by rw [show decide (k ∈ D10) = true from List.all_eq_true.mp dD k hk]; exact Bool.false_ne_true]; rfl
           have lF := len_str (H := H) (l := D) (Nat.le_trans hFl (by decide))
           have iD := int_digs dD qF (Nat.le_trans hFl (by decide))
           by_cases q9 : 9 < D.length
           · refine j8u (v := .none) hH [fv a1, fN q0c q0', gT q1m qm, fN q0c qF', fS eS, fr eC, fb eN, fv lF, fT q1c (zlt q9)] (by kernel_rfl) rfl ?_
             rw [hv, if_pos (.inr (.inl q9))]; rfl
           · by_cases q3 : 300 < dval D
             · refine j8u (v := .none) hH [fv a1, fN q0c q0', gT q1m qm, fN q0c qF', fS eS, fr eC, fb eN, fv lF, fN q1c (znlt q9), gT q1m qm, fv iD, fT q1c (zlt q3)] (by kernel_rfl) rfl ?_
               rw [hv, if_pos (.inr (.inr q3))]; rfl
             · rw [if_neg fun h => h.elim qF fun h => h.elim q9 q3] at hv
               unfold sgnV at hv
               by_cases hS : S2 = [45]
               · rw [if_pos hS] at hv
                 exact af_next _ [fv a1, fN q0c q0', gT q1m qm, fN q0c qF', fS eS, fr eC, fb eN, fv lF, fN q1c (znlt q9), gT q1m qm, fv iD, fN q1c (znlt q3), gT q1m qm, fv iD, fv f6, fT q0c (show pw.take 1 = q0a "-" from h45.mpr hS), fv (q1i (H := H) (a := dval D) (b := -1) (.inr (by decide))), fv l2] (by kernel_rfl) ⟨dval D * -1 - Q.length, rfl, q0, by omega, by rw [hv, Int.mul_neg, Int.mul_one]⟩
               · rw [if_neg hS] at hv
                 exact af_next _ [fv a1, fN q0c q0', gT q1m qm, fN q0c qF', fS eS, fr eC, fb eN, fv lF, fN q1c (znlt q9), gT q1m qm, fv iD, fN q1c (znlt q3), gT q1m qm, fv iD, fv f6, fN q0c (show ¬ pw.take 1 = q0a "-" from mt h45.mp hS), fv (q1i (H := H) (a := dval D) (b := 1) (.inr (by decide))), fv l2] (by kernel_rfl) ⟨dval D * 1 - Q.length, rfl, q0, by omega, by rw [hv, Int.mul_one]⟩
         · rw [if_neg hR] at hv
           have eN : cmp .NotEq (.lst (((D ++ 101 :: R'').filter fun k => !decide (k ∈ D10)).map fun k => V.str [k])) (.lst []) = some true := by
             rw [eN, List.filter_append, List.filter_cons, if_pos (by decide)]
             cases D.filter fun k => !decide (k ∈ D10) <;> rfl
           refine j8u (v := .none) hH [fv a1, fN q0c q0', gT q1m qm, fN q0c qF', fS eS, fr eC, fb eN] (by kernel_rfl) rfl ?_
           rw [hv]
           by_cases q : D = [] ∨ 9 < D.length ∨ 300 < dval D
           · rw [if_pos q]; rfl
           · rw [if_neg q]; rfl
 · rintro σ ⟨x, rfl, q0, ⟨hx1, hx2⟩, hv⟩
   rw [hv]
   show _ = Res.ok (V.q (decN S (W ++ Q) x)) ⟨[], H⟩
   clear f1 f2 f3 f4 f5 f6 f7 f8 f9 hcase hm hv l2
   have i1 := int_digs hWQ q0 (Nat.le_trans hWl (by decide))
   have hbig := dval_big hWQ (Nat.le_trans hWl (by decide))
   have hsg : s1 * (dval (W ++ Q) : Int) = sgnV S (W ++ Q) := by
     unfold sgnV
     by_cases hS : S = [45]
     · rw [← hs1, if_pos hS, if_pos hS, Int.neg_mul, Int.one_mul]
     · rw [← hs1, if_neg hS, if_neg hS, Int.one_mul]
   have i2 := q1i (H := H) (a := s1) (b := dval (W ++ Q)) (.inl (by
     rw [← hs1]
     by_cases hS : S = [45]
     · rw [if_pos hS]; rfl
     · rw [if_neg hS]; rfl))
   rw [hsg] at i2
   have hn := sgn_abs S (W ++ Q)
   have hve := val_eq (S := S) (ds := W ++ Q) (x := x) rfl rfl
   generalize V.q (decN S (W ++ Q) x) = res at *
   generalize sgnV S (W ++ Q) = N at *
   clear hsg hs1
   have m1 : maxV [.int 0, .int x] = some (.int (max 0 x)) := rfl
   have m2 : maxV [.int 0, .int (0 - x)] = some (.int (max 0 (0 - x))) := rfl
   have p1 := q6c (H := H) (n := max 0 x) (by omega) (by omega)
   have p2 := q6c (H := H) (n := max 0 (0 - x)) (by omega) (by omega)
   rw [show (10 : Int) ^ (max 0 (0 - x)).toNat = ((10 ^ (max 0 (0 - x)).toNat : Nat) : Int) from (Int.natCast_pow 10 _).symm] at p2
   have b2 : 10 ^ (max 0 (0 - x)).toNat < bigN := j7b (by omega)
   have b0 : 0 < 10 ^ (max 0 (0 - x)).toNat := Nat.pow_pos (by decide)
   have p3 := bin_mulB (H := H) (a := N) (b := 10 ^ (max 0 x).toNat) (j7p (by rw [hn]; exact hbig)) (j7p (by rw [j4n]; exact j7b (by omega)))
   generalize 10 ^ (max 0 (0 - x)).toNat = E2 at *
   generalize N * 10 ^ (max 0 x).toNat = T0 at *
   generalize W ++ Q = ds at *
   rw [hve]
   clear hve hn hbig hx1 hx2 hWQ hWl q0
   have ha : absV [.int T0] = some (.int T0.natAbs) := congrArg (some ∘ V.int) (abs_eq T0)
   refine ft ⟨[("told", .str t), ("ahead", .str A), ("mark", .str mk), ("power", .str pw), ("sign", .int s1), ("whole", .str W), ("point", .str Z), ("parts", .str Q), ("figures", .str fg), ("size", .int x), ("bottom", .int E2), ("top", .int T0)], H⟩ [fv a1, fv i1, fv i2, fv m1, fv p1, fv p3, fv m2, fv p2] (by kernel_rfl) ?_
   refine ft ⟨[("told", .str t), ("ahead", .str A), ("mark", .str mk), ("power", .str pw), ("sign", .int s1), ("whole", .str W), ("point", .str Z), ("parts", .str Q), ("figures", .str fg), ("size", .int x), ("bottom", .int E2), ("top", .int T0), ("other", .int E2), ("one", .int T0.natAbs)], H⟩ [fv ha] (by kernel_rfl) ?_
   refine whl_s (J := fun r => finR H.length r = _) (fun y : Nat × Nat => ⟨[("top", .int T0), ("bottom", .int E2), ("one", .int y.1), ("other", .int y.2)], H⟩) (fun y => Nat.gcd y.1 y.2 = Nat.gcd T0.natAbs E2) (fun y => y.2) ?_ (T0.natAbs, E2) (by kernel_rfl) rfl (Nat.lt_of_lt_of_eq b2 bigW_eq.symm)
   rintro ⟨y, k⟩ hy
   dsimp only at hy
   by_cases hk : 0 < k
   · exact ⟨true, q3h [fT q1c (zlt hk)] (by kernel_rfl), (if_pos rfl).mpr (q3e (x := (k, y % k)) [fv (q2l (H := H) (a := y) (b := k) (zlt hk))] (by kernel_rfl) (by rw [← hy, Nat.gcd_comm y k, Nat.gcd_rec k y, Nat.gcd_comm]) (Nat.mod_lt _ hk))⟩
   · refine ⟨false, q3h [fN q1c (znlt hk)] (by kernel_rfl), (if_neg (by decide)).mpr ?_⟩
     cases Nat.eq_zero_of_not_pos hk
     rw [Nat.gcd_zero_right] at hy
     rw [← hy]
     have hg : 0 < y := by rw [hy]; exact Nat.gcd_pos_of_pos_right _ b0
     have hg2 : y < bigN := Nat.lt_of_le_of_lt (by rw [hy]; exact Nat.le_of_dvd b0 (Nat.gcd_dvd_right _ _)) b2
     exact q0r hH [fv (q3v (H := H) (a := T0) (b := y) (zlt hg) hg2), fv (q3v (H := H) (a := E2) (b := y) (zlt hg) hg2)] (by kernel_rfl) rfl
end Mi
end
section
namespace Mi
variable {u : U} {c : Cx} {np pos : Pos} {es : List Expr} {ds : D .l}
theorem q2i (uo : u.At) (ok : c.Ok) : q1e u c "cut_numbers" 6 (xF cutX) np pos es ds := q0o j2h (fun _ => rfl) (fun _ => rfl) rfl (by decide) uo ok
theorem q8r (uo : u.At) (ok : c.Ok) : q1e u c "read_decimal" 7 (xF decX) np pos es ds := q0o j0r (fun _ => rfl) (fun _ => rfl) rfl (by decide) uo ok
theorem d_try51 (uo : u.At) (fn : c.Fn) (ok : c.Ok) (hroom : 3 ≤ c.room) {n : String} {np hp p np2 np3 ap cp rp : Pos} {body : List Stmt} {x : D .f} (hb : DB u c body x) (hk : KLoc c "NumberFault" .globalImplicit) (hnk : KLoc c n .local) (hk2 : KLoc c "SheetFault" .globalImplicit)
 (hdn : (Str.ofString n == ("__debug__" : Str)) = false) (hes : starEach [.Attribute (.Name (Str.ofString n) np3) (Str.ofString "message") ap] c.env = [(false, eval (.Attribute (.Name (Str.ofString n) np3) (Str.ofString "message") ap) c.env)]) :
 DX u c (.Try body [.ExceptHandler (some (.Name (Str.ofString "NumberFault") np)) (some (Str.ofString n)) [.Raise (some (.Call (.Name (Str.ofString "SheetFault") np2) [.Attribute (.Name (Str.ofString n) np3) (Str.ofString "message") ap] [] cp)) none rp] hp] [] [] p) (.tryC 51 63 n x) := sx_try51 uo fn ok hroom hb hk hnk hk2 hdn hes
noncomputable abbrev RdR := List Nat ⊕ List (Int × Int)
noncomputable def consP (p : Int × Int) (s : RdR) : RdR := Sum.casesOn s .inl fun r => .inr (p :: r)
noncomputable def j0b (r : DecR) (s : RdR) : RdR := Sum.casesOn r .inl fun p => consP p s
noncomputable def q2s (l : List (List Nat)) : RdR := List.rec (.inr []) (fun x _ ih => j0b (q2k x) ih) l
noncomputable def inner (t : List Nat) : List Nat := t.drop (q0p t 0)
noncomputable def q6s (t : List Nat) : RdR := Sum.casesOn (q2u (inner t)) .inl q2s
noncomputable def readsW (s : RdR) : V ⊕ (Addr × V) := Sum.casesOn s (fun m => .inr (63, .str m)) fun l => .inl (.lst (l.map V.q))
noncomputable def q5o (vs : List V) : Option (V ⊕ (Addr × V)) := o1 vs fun x => oS x fun t => oIf (t.length ≤ 60 ∧ q1a t = true) (some (readsW (q6s t)))
theorem j1k (t : List Nat) : (inner t).length ≤ t.length := by unfold inner; rw [List.length_drop]; exact Nat.sub_le _ _
theorem j1l {t : List Nat} (h : q1a t = true) : q1a (inner t) = true := List.all_eq_true.mpr fun x hx => List.all_eq_true.mp h x (List.mem_of_mem_drop hx)
theorem consS_inr {x : List Nat} {s : CutR} {l : List (List Nat)} (h : consS x s = .inr l) : ∃ r, s = .inr r ∧ l = x :: r := by
 cases s with
 | inl => cases h
 | inr r => exact ⟨r, rfl, (Sum.inr.inj h).symm⟩
theorem cutGo_mem (t : List Nat) (n : Nat) : ∀ a l, a ≤ t.length → cutGo t n a = .inr l → l.length ≤ n ∧ ∀ x ∈ l, j7x x = true ∧ ∃ b e, x = slL t b e := by
 induction n with
 | zero =>
   intro a l ha h
   change (if a = t.length then _ else _) = _ at h
   by_cases q : a = t.length
   · rw [if_pos q] at h; cases h; exact ⟨Nat.le_refl _, fun x hx => nomatch hx⟩
   · rw [if_neg q] at h; cases h
 | succ n ih =>
   intro a l ha h
   rw [j5s] at h
   by_cases q : a = t.length
   · rw [if_pos q] at h; cases h; exact ⟨Nat.zero_le _, fun x hx => nomatch hx⟩
   · rw [if_neg q] at h
     by_cases q : nEnd t a = a
     · rw [if_pos q] at h; cases h
     · rw [if_neg q] at h
       cases hg : gEnd t (nEnd t a) with
       | none => rw [hg] at h; cases h
       | some d =>
         rw [hg] at h
         obtain ⟨r, h1, rfl⟩ := consS_inr h
         obtain ⟨i1, i2⟩ := ih d r (gEnd_le (j1b ha).2 hg).2 h1
         exact ⟨Nat.succ_le_succ i1, fun x hx => (List.mem_cons.mp hx).elim (fun e => e ▸ ⟨tok_cut ha, _, _, rfl⟩) (i2 x)⟩
theorem j5r {t : List Nat} {l : List (List Nat)} (h : q2u t = .inr l) : l.length ≤ t.length ∧ ∀ x ∈ l, j7x x = true ∧ ∃ b e, x = slL t b e := cutGo_mem t _ _ _ (Nat.zero_le _) h
theorem cut_len {t : List Nat} {l : List (List Nat)} (h : q2u t = .inr l) {x : List Nat} (hx : x ∈ l) : x.length ≤ t.length := by
 obtain ⟨_, b, e, rfl⟩ := (j5r h).2 x hx
 exact q8v
theorem j0v {n : Nat} {l : List (Int × Int)} : belows n (l.map V.q) = true := q3b fun v hv => by
 obtain ⟨x, _, rfl⟩ := List.mem_map.mp hv
 rfl
theorem j4f (H : List AO) (l : List V) : seqS H (.lst l) = some (.seq (.lst l)) := rfl
theorem nth_lst {H : List AO} {l : List V} {k : Nat} : q4d (.seq (.lst l)) H k = some (l[k]?) := rfl
theorem j5d {H : List AO} {l : List V} : q0z (.seq (.lst l)) H = l.length + 1 := rfl
noncomputable def prep2 (acc : List (Int × Int)) (s : RdR) : RdR := Sum.casesOn s .inl fun l => .inr (acc ++ l)
theorem prep2_cons {acc : List (Int × Int)} {p : Int × Int} {s : RdR} : prep2 acc (consP p s) = prep2 (acc ++ [p]) s := by
 cases s with
 | inl => rfl
 | inr l => exact congrArg Sum.inr (by rw [List.append_assoc]; rfl)
theorem prep2_nil {s : RdR} : prep2 [] s = s := by cases s <;> rfl
theorem dec_call {H : List AO} {t : List Nat} (hH : H.all (q0b H.length) = true) (h : t.length ≤ 60) : xF decX [.str t] H = xR H (decR (q2k t)) := q6k (g := decX) hH (q0l h)
theorem cutX_call {H : List AO} {t : List Nat} (hH : H.all (q0b H.length) = true) (h1 : t.length ≤ 90000) (h2 : q1a t = true) : xF cutX [.str t] H = xR H (cutW (q2u t)) := q6k (g := cutX) hH (oTA_p h1 h2)
noncomputable def W_rn : Df 8 394 1 ["text"] [] [] := by
  refine' Df.mk _ _ _ _ (fun _ => rfl) rfl rfl (fun _ => rfl) rfl (fun _ _ _ => q1d (all1 fun _ => rfl)) (fun _ => .nil) (by decide) (by decide) ?H
  case H =>
    intro u c uo ok fn hr hsc hcd hqu
    dsimp only at hsc hcd hqu
    repeat' with_reducible first
 | (refine (?_ : DX _ _ _ _); first
  | refine' d_for (cell := false) ‹_› ‹_› ["found"] ?_ (by row_cond k) ?_ (fun _ => rfl)
  | refine' d_try51 ‹_› ‹_› ‹_› (leq hr) ?_ (by row_cond k) (by row_cond k) (by row_cond k) rfl rfl
  | refine' q0x ?_
  | refine' q3f ‹_› ?_ (by row_cond k) (by row_cond s)
  | refine' d_expr ‹_› ?_ (by row_cond s))
 | (refine (?_ : DE _ _ (.Call _ _ _ _) _); first
  | refine' q5z uo ‹_› (leq hr) (by row_cond k) ?_ rfl
  | refine' q2i uo ‹_› (leq hr) (by row_cond k) ?_ rfl
  | refine' q8r uo ‹_› (leq hr) (by row_cond k) ?_ rfl
  | refine' d_push ?_ ?_ rfl rfl rfl)
 | (refine (?_ : DE _ _ _ _); first
  | refine' d_lstT ?_
  | refine' q0f ‹_› (by row_cond k) (by decide)
  | exact q1l
  | refine' d_sl ?_ ?_ ?_)
 | exact q0w
 | refine' q0j ?_ ?_ rfl
 | exact q0i
 | refine' q0v ?_ ?_
 | exact j5p
 | refine' q4g ?_
 | refine' q9c ?_
 | intro _ _ _ _
theorem j0q : (uo : u.At) → CallOk u (.ref 394) 9 (xF q5o) := W_rn.x (by decide) (by decide) fun vs H v hH h => by
 obtain ⟨_, rfl, h⟩ := o1_s h
 obtain ⟨t, rfl, h⟩ := oS_s h
 obtain ⟨⟨h1, hasc⟩, h⟩ := q0h h
 cases h
 refine ⟨rfl, ?_⟩
 have h9 : t.length ≤ 90000 := Nat.le_trans h1 (by decide)
 refine ft ⟨[("text", .str t), ("found", .obj H.length)], H ++ [.lst []]⟩ [] (by kernel_rfl) ?_
 have hA0 : (H ++ [AO.lst []]).all (q0b (H ++ [AO.lst []]).length) = true := q1s hH rfl
 have e0 := q3m (b := 0) hA0 h9 (Nat.zero_le _)
 have e1 : slV (H ++ [.lst []]) (.str t) (.int (q0p t 0)) .none = some (.str (inner t)) := j3z (q1f h9)
 have e2 := cutX_call hA0 (Nat.le_trans (j1k t) h9) (j1l hasc)
 have hil := Nat.le_trans (j1k t) h1
 unfold q6s
 generalize inner t = it at *
 cases hc : q2u it with
 | inl m =>
   rw [hc] at e2
   exact j5g (E := [.lst []]) hH [fr e0, fv e1, fr e2] (by kernel_rfl) rfl
 | inr l =>
   rw [hc] at e2
   have hm := j5r hc
   have hxl : ∀ x ∈ l, x.length ≤ 60 := fun x hx => Nat.le_trans (cut_len hc hx) hil
   refine for_s (J := fun r => finR H.length r = xR H (readsW (q2s l))) rfl (fun acc : List V => ⟨[("found", .obj H.length)], H ++ [.lst acc]⟩) (l.map V.str) (fun k acc => ∃ as : List (Int × Int), acc = as.map V.q ∧ as.length = k ∧ prep2 as (q2s (l.drop k)) = q2s l) [] [fr e0, fv e1, fr e2, fS (j4f (H ++ [.lst []]) (l.map V.str))] (by kernel_rfl) ⟨[], rfl, rfl, prep2_nil⟩ (fun _ _ => nth_lst) (by rw [j5d]; exact Nat.lt_succ_self _) ?_ ?_
   · rintro k acc v hv ⟨as, rfl, rfl, h4⟩
     rw [List.getElem?_map] at hv
     obtain ⟨x, hx, rfl⟩ := q3p hv
     obtain ⟨hkl, hx'⟩ := List.getElem?_eq_some_iff.mp hx
     have e3 := dec_call (H := H ++ [.lst (as.map V.q)]) (j6h hH j0v) (hxl x (List.mem_of_getElem? hx))
     rw [List.drop_eq_getElem_cons hkl, hx'] at h4
     change prep2 as (j0b (q2k x) (q2s (l.drop (as.length + 1)))) = _ at h4
     cases hd : q2k x with
     | inl m =>
       rw [hd] at h4 e3
       rw [← h4]
       exact foot_ex (H := H ++ [.lst (as.map V.q)]) [fb (q5b H (as.map V.q)), fr e3] (by kernel_rfl) fun l => fin_x hH rfl rfl
     | inr p =>
       rw [hd] at h4 e3
       have hl : (as.map V.q).length ≤ 100000 := by rw [List.length_map]; exact Nat.le_trans (Nat.le_of_lt hkl) (Nat.le_trans hm.1 (Nat.le_trans hil (by decide)))
       exact q3q (x := as.map V.q ++ [.q p]) [fb (q5b H (as.map V.q)), fr e3, fr (q5p (loc := []) (H := H) (v := .q p) hl)] (by kernel_rfl) ⟨as ++ [p], by rw [List.map_append]; rfl, List.length_append, prep2_cons.symm.trans h4⟩
   · rintro acc ⟨as, rfl, hk, h4⟩
     rw [List.length_map] at h4
     rw [List.drop_length] at h4
     rw [← h4]
     show _ = Res.ok (V.lst ((as ++ []).map V.q)) ⟨[], H⟩
     rw [List.append_nil]
     exact q2d (E := [.lst (as.map V.q)]) hH [] (by kernel_rfl) (j4o j0v)
structure Dl (i n : Nat) where
 d : D .v
 b : Expr
 s : Scope
 h : ∀ P, lamOf (KK P) i = (b, s)
 hs : (s.kind == .function && !s.isCoroutine && !s.isGenerator && s.names.all fun x => x.2 != .cell && x.2 != .local) = true
 H : ∀ {u : U} {c : Cx}, u.At → c.Ok → c.Fn → n ≤ c.room → c.env.scope = s → DE u c b d
theorem Dl.ok {i n : Nat} (w : Dl i n) (uo : u.At) : LamOk u i ∧ ∀ c' : Cx, c'.Ok → c'.Fn → n ≤ c'.room → c'.env.scope = (u.lam i).2 → SE u c' (u.lam i).1 (ev w.d) := by
 rw [uo.lm.lam, w.h]
 refine ⟨?_, fun c ok fn hr hs => w.H uo ok fn hr hs⟩
 have hs := w.hs
 have e : u.lam i = (w.b, w.s) := by rw [uo.lm.lam, w.h]
 obtain ⟨h3, h4⟩ := Bool.and_eq_true_iff.mp hs
 obtain ⟨h2, h3⟩ := Bool.and_eq_true_iff.mp h3
 obtain ⟨h1, h2⟩ := Bool.and_eq_true_iff.mp h2
 refine ⟨by rw [e]; exact eq_of_beq h1, by rw [e]; exact (Bool.not_eq_true' _).mp h2, by rw [e]; exact (Bool.not_eq_true' _).mp h3, fun x hx => ?_⟩
 rw [e] at hx
 obtain ⟨p, q⟩ := Bool.and_eq_true_iff.mp (List.all_eq_true.mp h4 x hx)
 exact ⟨bne_iff_ne.mp p, bne_iff_ne.mp q⟩
noncomputable def oFn {α : Type} (v : V) (k : Nat → List (String × Nat) → Option α) : Option α := V.casesOn v none (fun _ => none) (fun _ => none) (fun _ => none) (fun _ => none) (fun _ => none) (fun _ _ => none) (fun _ => none) (fun _ => none) k
theorem oFn_s {α : Type} {v : V} {k : Nat → List (String × Nat) → Option α} {x : α} (h : oFn v k = some x) : ∃ i cl, v = .fn i cl ∧ k i cl = some x := by cases v with | fn i cl => exact ⟨i, cl, rfl, h⟩ | _ => exact nn h
noncomputable abbrev Lg := List (String × Nat) → List AO → Option (V ⊕ (Addr × V))
noncomputable def toldV (x : V ⊕ (Addr × V)) : Option V := Sum.casesOn x some fun p => oIf (p.1 = 63) (some .none)
noncomputable def toldO (i : Nat) (g : Lg) (vs : List V) (H : List AO) : Option V := o1 vs fun x => oFn x fun j cl => oIf (j = i ∧ H.all (q0b H.length) = true) ((g cl H).bind toldV)
noncomputable def q4b (i : Nat) (g : Lg) : Fn := fun vs H => Option.casesOn (toldO i g vs H) .bad fun v => .ok v ⟨[], H⟩
theorem q5l {i : Nat} {g : Lg} {cl : List (String × Nat)} {H : List AO} {x : V ⊕ (Addr × V)} {v : V} (hH : H.all (q0b H.length) = true) (h : g cl H = some x) (hv : toldV x = some v) : q4b i g [.fn i cl] H = .ok v ⟨[], H⟩ := by
 have : toldO i g [.fn i cl] H = some v := (q0l ⟨rfl, hH⟩).trans (by rw [h]; exact hv)
 unfold q4b
 rw [this]
noncomputable def okX (H : List AO) (x : V ⊕ (Addr × V)) : Prop := Sum.casesOn x (fun v => outV H.length H v = some v) fun p => below H.length p.2 = true
theorem xfin {H : List AO} {σ : St} {x : V ⊕ (Addr × V)} (hH : H.all (q0b H.length) = true) (h : okX H x) : finR H.length ((q1g σ (xR H x)).bind fun v σ => .ok (.ret v) σ) = xR H x := by
 rcases x with v | ⟨C, w⟩
 · exact j5f hH rfl h
 · exact fin_x0 hH rfl h
theorem q5k {i n : Nat} (w : Dl i n) (hn : 1 ≤ n) {g : Lg} (hd : ∀ cl H x, H.all (q0b H.length) = true → g cl H = some x → ev w.d (q3x cl H) = q1g (q3x cl H) (xR H x) ∧ okX H x) (uo : u.At) : CallOk u (.ref 470) (n + 2) (q4b i g) := by
 obtain ⟨L, HL⟩ := w.ok uo
 refine CallOk.to (j3d (n := n + 1) (k := 1) (xs := ["call"]) (ds := []) (dvs := []) uo.ok (uo.get rfl) rfl rfl (uo.code rfl) rfl rfl rfl rfl rfl (by decide) (fun _ _ => q1d (all1 fun _ => rfl)) (fun _ => .nil) (by decide) (by decide) (Nat.le_add_left _ _)
   (fun c ok fn hr hsc _ _ _ => j4j (sx_try63 uo fn ok (j4j (sx_ret (se_callfn uo.ok ok L hr hn HL (se_local ok (q1y hsc rfl) (by decide)))) sb_nil) (q1y hsc rfl)) sb_nil)).call (Nat.le_refl _) fun vs H hb => ?_
 unfold q4b at hb ⊢
 cases hr : toldO i g vs H with
 | none => rw [hr] at hb; exact absurd rfl hb
 | some v =>
   obtain ⟨_, rfl, h5⟩ := o1_s hr
   obtain ⟨j, cl, rfl, h6⟩ := oFn_s h5
   obtain ⟨⟨rfl, hH⟩, h7⟩ := q0h h6
   obtain ⟨x, hx, hv⟩ := bd_s h7
   obtain ⟨h1, h2⟩ := hd cl H x hH hx
   have h3 := xfin (σ := q3x cl H) hH h2
   rw [← h1] at h3
   refine (if_pos rfl).trans ?_
   show finR H.length ((q4o 63 (((if j = j then q1g ⟨[("call", .fn j cl)], H⟩ (finR H.length ((ev w.d (q3x cl H)).bind fun v σ => .ok (.ret v) σ)) else .bad).bind _).bind _)).bind _) = _
   rw [if_pos rfl, h3]
   rcases x with x | ⟨C, m⟩
   · cases Option.some.inj hv
     exact j5f hH rfl h2
   · obtain ⟨rfl, e⟩ := q0h (show oIf (C = 63) (some V.none) = some v from hv)
     cases Option.some.inj e
     exact j5f hH rfl rfl
end Mi
end
section
namespace Mi
variable {u : U} {c : Cx} {np pos : Pos} {es : List Expr} {ds : D .l}
theorem q3a (uo : u.At) (ok : c.Ok) : q1e u c "read_numbers" 9 (xF q5o) np pos es ds := q0o j0q (fun _ => rfl) (fun _ => rfl) rfl (by decide) uo ok
theorem j5z (uo : u.At) (ok : c.Ok) : q1e u c "_law_cut" 6 (q0g cutN) np pos es ds := q0o j6l (fun _ => rfl) (fun _ => rfl) rfl (by decide) uo ok
theorem j1u (uo : u.At) (ok : c.Ok) : q1e u c "_law_value" 5 (q0g valueV) np pos es ds := q0o j7r (fun _ => rfl) (fun _ => rfl) rfl (by decide) uo ok
theorem q5s (uo : u.At) {i : Nat} {params : Arguments} {body : Expr} {scope S : Scope} {fs : List String} {cc P : Addr} {q : Str} (hsc : c.env.scope = S) (hcd : c.env.code = .ref cc) (hqu : c.env.qual = q) (hC : codeHdIn (KK u.w.params) cc P = true) (hP : P ∈ ([498, 472, 503] : List Addr))
   (htq : (if P = 472 then Str.ofString "_law_text_right.<locals>.<lambda>" else if P = 498 then Str.ofString "_law_matrix_right.<locals>.<lambda>" else Str.ofString "law.<locals>.<lambda>") = q ++ "<lambda>")
   (hlam : lamOf (KK u.w.params) i = (body, scope)) (h5 : scope.names.filter (·.2 == .free) = fs.map fun n => (Str.ofString n, NameKind.free)) (h6 : (fs.all fun n => S.names.lookup (Str.ofString n) == some .cell || S.names.lookup (Str.ofString n) == some .free) = true)
   (hdef : ∀ env, defaultsOf params env = ([], [])) (hargs : ∀ qual clos pm cdv ct, bindArgs (kla_fn "<lambda>" qual params body scope clos pm cdv ct) ⟨[], []⟩ = pure []) : LamK u c i params body scope fs :=
 ⟨⟨cc, P, hcd, codeHd_of_K (K := KK u.w.params) (by rw [← uo.K]; exact uo.ok.X) hC, by rw [uo.tbs]; exact hP, by rw [uo.lm.tq, hqu]; exact htq⟩, hdef _, by rw [uo.lm.lam]; exact hlam, h5, fun n hn => (or_beq (List.all_eq_true.mp h6 n hn)).imp (q1y hsc) (q1y hsc), hargs⟩
theorem q9b (uo : u.At) (ok : c.Ok) {i n : Nat} {g : Lg} {params : Arguments} {body : Expr} {scope : Scope} {fs : List String} {np lp pos : Pos} (H : CallOk u (.ref 470) n (q4b i g)) (hr : n ≤ c.room) (hk : KLoc c "_law_told" .globalImplicit) (K : LamK u c i params body scope fs)
   (he : starEach [.Lambda params body scope lp] c.env = [(false, eval (.Lambda params body scope lp) c.env)]) (hn : q2a [.Lambda params body scope lp] c) : DE u c (.Call (.Name (Str.ofString "_law_told") np) [.Lambda params body scope lp] [] pos) (.call (q4b i g) (.cons (.lam i fs) .nil)) :=
 se_fn uo.ok ok H hr (q1v uo.ok ok hk (uo.glob rfl) (fun _ => .val _) (by decide)) (uo.get rfl) rfl (q4r (se_lam uo.ok ok K) q5n he) hn
theorem gapX_ok {vs : List V} {x : V ⊕ (Addr × V)} {H : List AO} (h : gapX vs = some x) : okX H x := by
 obtain ⟨t, b, rfl, _, _, h⟩ := j7f h
 rw [← Option.some.inj h]
 cases gEnd t b <;> rfl
theorem out_l {n : Nat} {H : List AO} {l : List V} (h : belows n l = true) : outV n H (.lst l) = some (.lst l) := (if_pos h : q9r (belows n l) (.lst l) = _)
theorem cutX_ok {vs : List V} {x : V ⊕ (Addr × V)} {H : List AO} (h : cutX vs = some x) : okX H x := by
 obtain ⟨t, rfl, _, _, h⟩ := oTA_s h
 rw [← Option.some.inj h]
 cases q2u t with
 | inl m => rfl
 | inr l => exact out_l q2v
theorem j0p {vs : List V} {x : V ⊕ (Addr × V)} {H : List AO} (h : q5o vs = some x) : okX H x := by
 obtain ⟨_, rfl, h⟩ := o1_s h
 obtain ⟨t, rfl, h⟩ := oS_s h
 rw [← Option.some.inj (q0h h).2]
 cases q6s t with
 | inl m => rfl
 | inr l => exact out_l j0v
noncomputable def W_l0 : Dl 0 5 := by
  refine' Dl.mk _ _ _ (fun _ => rfl) rfl ?H
  case H =>
    intro u c uo ok fn hr hsc
    repeat' with_reducible first
 | refine' q9g uo ‹_› (leq hr) (by row_cond k) ?_ rfl
 | refine' d_free ‹_› (by row_cond k) (by decide) (by decide)
 | exact q0w
 | refine' q0j ?_ ?_ rfl
 | intro _ _ _ _
noncomputable def W_l1 : Dl 1 6 := by
  refine' Dl.mk _ _ _ (fun _ => rfl) rfl ?H
  case H =>
    intro u c uo ok fn hr hsc
    repeat' with_reducible first
 | refine' q2i uo ‹_› (leq hr) (by row_cond k) ?_ rfl
 | refine' d_free ‹_› (by row_cond k) (by decide) (by decide)
 | exact q0w
 | refine' q0j ?_ ?_ rfl
 | intro _ _ _ _
noncomputable def W_l2 : Dl 2 9 := by
  refine' Dl.mk _ _ _ (fun _ => rfl) rfl ?H
  case H =>
    intro u c uo ok fn hr hsc
    repeat' with_reducible first
 | refine' q3a uo ‹_› (leq hr) (by row_cond k) ?_ rfl
 | refine' d_free ‹_› (by row_cond k) (by decide) (by decide)
 | exact q0w
 | refine' q0j ?_ ?_ rfl
 | intro _ _ _ _
noncomputable def W_l4 : Dl 4 6 := by
  refine' Dl.mk _ _ _ (fun _ => rfl) rfl ?H
  case H =>
    intro u c uo ok fn hr hsc
    repeat' with_reducible first
 | refine' q2i uo ‹_› (leq hr) (by row_cond k) ?_ rfl
 | exact q3y
 | exact q0w
 | refine' q0j ?_ ?_ rfl
 | intro _ _ _ _
noncomputable def W_l5 : Dl 5 9 := by
  refine' Dl.mk _ _ _ (fun _ => rfl) rfl ?H
  case H =>
    intro u c uo ok fn hr hsc
    repeat' with_reducible first
 | refine' q3a uo ‹_› (leq hr) (by row_cond k) ?_ rfl
 | exact q3y
 | exact q0w
 | refine' q0j ?_ ?_ rfl
 | intro _ _ _ _
noncomputable def W_l6 : Dl 6 9 := by
  refine' Dl.mk _ _ _ (fun _ => rfl) rfl ?H
  case H =>
    intro u c uo ok fn hr hsc
    repeat' with_reducible first
 | refine' q3a uo ‹_› (leq hr) (by row_cond k) ?_ rfl
 | exact q3y
 | exact q0w
 | refine' q0j ?_ ?_ rfl
 | intro _ _ _ _
noncomputable def W_l7 : Dl 7 6 := by
  refine' Dl.mk _ _ _ (fun _ => rfl) rfl ?H
  case H =>
    intro u c uo ok fn hr hsc
    repeat' with_reducible first
 | refine' q2i uo ‹_› (leq hr) (by row_cond k) ?_ rfl
 | exact q3y
 | exact q0w
 | refine' q0j ?_ ?_ rfl
 | intro _ _ _ _
noncomputable def gapL : Lg := fun cl H => (getC (q3x cl H) "text").bind fun x => (getC (q3x cl H) "at").bind fun y => gapX [x, y]
noncomputable def cutL : Lg := fun cl H => (getC (q3x cl H) "text").bind fun x => cutX [x]
noncomputable def readL : Lg := fun cl H => (getC (q3x cl H) "text").bind fun x => q5o [x]
theorem told_gap : (uo : u.At) → CallOk u (.ref 470) 7 (q4b 0 gapL) := q5k W_l0 (by decide) fun cl H x hH hx => by
 obtain ⟨a, h1, h3⟩ := bd_s hx
 obtain ⟨b, h2, h4⟩ := bd_s h3
 exact ⟨tape [fv h1, fv h2, fr (q6k hH h4)] (by kernel_rfl), gapX_ok h4⟩
theorem told_cut : (uo : u.At) → CallOk u (.ref 470) 8 (q4b 1 cutL) := q5k W_l1 (by decide) fun cl H x hH hx => by
 obtain ⟨a, h1, h3⟩ := bd_s hx
 exact ⟨tape [fv h1, fr (q6k hH h3)] (by kernel_rfl), cutX_ok h3⟩
theorem told_read : (uo : u.At) → CallOk u (.ref 470) 11 (q4b 2 readL) := q5k W_l2 (by decide) fun cl H x hH hx => by
 obtain ⟨a, h1, h3⟩ := bd_s hx
 exact ⟨tape [fv h1, fr (q6k hH h3)] (by kernel_rfl), j0p h3⟩
theorem told_c1 : (uo : u.At) → CallOk u (.ref 470) 8 (q4b 4 fun _ _ => cutX [.str (q0a "1E2.5")]) := q5k W_l4 (by decide) fun cl H x hH hx => ⟨tape [fr (q6k hH hx)] (by kernel_rfl), cutX_ok hx⟩
theorem told_r1 : (uo : u.At) → CallOk u (.ref 470) 11 (q4b 5 fun _ _ => q5o [.str (q0a "1e301")]) := q5k W_l5 (by decide) fun cl H x hH hx => ⟨tape [fr (q6k hH hx)] (by kernel_rfl), j0p hx⟩
theorem told_r2 : (uo : u.At) → CallOk u (.ref 470) 11 (q4b 6 fun _ _ => q5o [.str (q0a "1e300")]) := q5k W_l6 (by decide) fun cl H x hH hx => ⟨tape [fr (q6k hH hx)] (by kernel_rfl), j0p hx⟩
theorem told_c2 : (uo : u.At) → CallOk u (.ref 470) 8 (q4b 7 fun _ _ => cutX [.str (q0a "1e2.5-3")]) := q5k W_l7 (by decide) fun cl H x hH hx => ⟨tape [fr (q6k hH hx)] (by kernel_rfl), cutX_ok hx⟩
noncomputable def W_tr : DfC 12 475 1 ["text"] ["text", "at"] := by
  refine' DfC.mk _ _ _ _ (fun _ => rfl) rfl rfl (fun _ => rfl) rfl rfl rfl (all1 fun _ => rfl) (by decide) (by decide) ?H
  case H =>
    intro u c uo ok fn hr hsc hcd hqu
    dsimp only at hsc hcd hqu
    repeat' with_reducible first
 | (refine (?_ : DX _ _ _ _); first
  | refine' d_for (cell := true) ‹_› ‹_› ["due", "text", "at"] ?_ (by row_cond k) ?_ (fun _ => rfl)
  | refine' q0x ?_
  | refine' q3z ?_ ?_ ?_
  | refine' q3f ‹_› ?_ (by row_cond k) (by row_cond s))
 | (refine (?_ : DE _ _ (.Call _ _ _ _) _); first
  | refine' q6a uo ‹_› (by omega) (by row_cond k) ?_ rfl
  | refine' q3g uo ‹_› (by omega) (by row_cond k) ?_ rfl
  | refine' q4p uo ‹_› (by omega) (by row_cond k) ?_ rfl
  | refine' q3u uo ‹_› (by omega) (by row_cond k) ?_ rfl
  | refine' j5z uo ‹_› (by omega) (by row_cond k) ?_ rfl
  | refine' j1u uo ‹_› (by omega) (by row_cond k) ?_ rfl
  | (refine (?_ : DE _ _ (.Call _ [.Lambda _ _ _ _] _ _) _); refine' q9b (by assumption) (by assumption) (told_gap (by assumption)) (by omega) (by row_cond k) (q5s (fs := ["at","text"]) (P := 472) (by assumption) (by assumption) (by assumption) (by assumption) rfl (by decide) (by decide) rfl rfl rfl (fun _ => rfl) (fun _ _ _ _ _ => rfl)) rfl rfl)
  | (refine (?_ : DE _ _ (.Call _ [.Lambda _ _ _ _] _ _) _); refine' q9b (by assumption) (by assumption) (told_cut (by assumption)) (by omega) (by row_cond k) (q5s (fs := ["text"]) (P := 472) (by assumption) (by assumption) (by assumption) (by assumption) rfl (by decide) (by decide) rfl rfl rfl (fun _ => rfl) (fun _ _ _ _ _ => rfl)) rfl rfl)
  | (refine (?_ : DE _ _ (.Call _ [.Lambda _ _ _ _] _ _) _); refine' q9b (by assumption) (by assumption) (told_read (by assumption)) (by omega) (by row_cond k) (q5s (fs := ["text"]) (P := 472) (by assumption) (by assumption) (by assumption) (by assumption) rfl (by decide) (by decide) rfl rfl rfl (fun _ => rfl) (fun _ _ _ _ _ => rfl)) rfl rfl)
  | refine' q5i (q1h ‹_› ‹_› (by row_cond k)) ?_ rfl)
 | (refine (?_ : DE _ _ _ _); first
  | (refine (?_ : DE _ _ (.ListComp _ _ _ _) _); refine' q7v ‹_› [] ?_ (q2h ‹_› rfl rfl rfl rfl rfl rfl rfl) (fun _ => rfl) ?_ ?_)
  | refine' q0f ‹_› (by row_cond k) (by decide)
  | refine' d_cell ‹_› (by row_cond k) (by decide)
  | exact q1l
  | exact j1r
  | exact d_bool
  | refine' q2g ?_ ?_
  | refine' j3b ‹_› ?_ ?_ rfl
  | refine' j5q ?_ ?_ ?_
  | refine' d_sl ?_ ?_ ?_)
 | refine' q2z ‹_› ?_ ?_ rfl
 | refine' q3s ?_
 | exact q0w
 | refine' q0j ?_ ?_ rfl
 | exact q0i
 | refine' q0v ?_ ?_
 | exact d_tsO
 | refine' d_tor ?_ ?_
 | exact j5p
 | refine' q4g ?_
 | refine' q9d (q2r ‹_› ‹_› (by row_cond k)) ?_ rfl
 | refine' q9c ?_
 | exact d_ltn
 | intro _ _ _ _
noncomputable def valF (v : V) : V := V.casesOn v .none (fun _ => .none) (fun _ => .none) (fun x => valW (valO (q2k x))) (fun _ => .none) (fun _ => .none) (fun _ _ => .none) (fun _ => .none) (fun _ => .none) (fun _ _ => .none)
noncomputable def rdOk (s : RdR) : V := Sum.casesOn s (fun _ => .none) fun ps => .lst (ps.map V.q)
theorem read_val (l : List (List Nat)) : (q2s l).isLeft = true ∧ (∃ x ∈ l, valO (q2k x) = none) ∨ ∃ ps, q2s l = .inr ps ∧ (l.map V.str).map valF = ps.map V.q ∧ ∀ x ∈ l, valO (q2k x) ≠ none := by
 induction l with
 | nil => exact .inr ⟨[], rfl, rfl, fun x hx => nomatch hx⟩
 | cons x l ih =>
   show ((j0b (q2k x) (q2s l)).isLeft = true ∧ _) ∨ ∃ ps, j0b (q2k x) (q2s l) = .inr ps ∧ valW (valO (q2k x)) :: (l.map V.str).map valF = _ ∧ _
   cases hd : q2k x with
   | inl m => exact .inl ⟨rfl, x, .head _, by rw [hd]; rfl⟩
   | inr p =>
     rcases ih with ⟨h1, y, h2, h3⟩ | ⟨ps, h1, h2, h3⟩
     · refine .inl ⟨?_, y, .tail _ h2, h3⟩
       show (consP p (q2s l)).isLeft = true
       revert h1
       cases q2s l with
       | inl m => exact id
       | inr r => exact fun h => nomatch h
     · refine .inr ⟨p :: ps, by show consP p (q2s l) = _; rw [h1]; rfl, by rw [h2]; rfl, fun y hy => ?_⟩
       rcases List.mem_cons.mp hy with rfl | hy
       · rw [hd]; exact fun h => nomatch h
       · exact h3 y hy
noncomputable def valP (x : List Nat) : PyData := Option.casesOn (valO (q2k x)) PyData.none fun p => .tuple [.int p.1, .int p.2]
theorem vals_py (l : List (List Nat)) : mapO (toPy 5) ((l.map V.str).map valF) = some (l.map valP) := by
 rw [List.map_map]
 refine q4x fun x _ => ?_
 show toPy 5 (valW (valO (q2k x))) = some (valP x)
 unfold valP
 cases valO (q2k x) <;> rfl
theorem in_vals (l : List (List Nat)) : cmp .In .none (.lst ((l.map V.str).map valF)) = some (l.any fun x => (valO (q2k x)).isNone) := by
 show inL .none _ = _
 unfold inL
 rw [vals_py]
 refine congrArg some ?_
 show (l.map valP).any _ = _
 rw [List.any_map]
 refine congrArg (fun f => List.any l f) (funext fun x => ?_)
 show PyData.eqv (valP x) .none = _
 unfold valP
 cases valO (q2k x) <;> rfl
theorem strs_py {l : List (List Nat)} (h : ∀ x ∈ l, q1a x = true) : mapO (toPy 4) (l.map V.str) = some (l.map fun x => PyData.str ⟨x.toArray⟩) := q4x fun x hx => q4q (h x hx)
theorem prs_py (ps : List (Int × Int)) : mapO (toPy 4) (ps.map V.q) = some (ps.map fun p => PyData.tuple [.int p.1, .int p.2]) := q4x fun p _ => rfl
theorem eq_lst {l : List V} {m : List PyData} (h : mapO (toPy 4) l = some m) : cmp .Eq (.lst l) (.lst l) = some true := eqV_self (j3q h)
theorem j7g {l : List V} {m : List PyData} (h : mapO (toPy 4) l = some m) : cmp .NotEq (.lst l) (.lst l) = some false := congrArg (Option.map (!·)) (eq_lst h)
theorem eq_nn : cmp .Eq .none .none = some true := rfl
theorem cut_call {G : List AO} {t : List Nat} (hG : G.all (q0b G.length) = true) (h1 : t.length ≤ 90000) (h2 : q1a t = true) : q0g cutN [.str t] G = .ok (cutU (q2u t)) ⟨[], G⟩ := q0d (g := cutN) hG (oTA_p h1 h2)
noncomputable def textV (vs : List V) : Option V := o1 vs fun x => oS x fun t => oIf (t.length ≤ 60 ∧ q1a t = true) (some (.bool true))
theorem set_cell {H : List AO} {x y z : AO} : (H ++ [x, y]).set (H.length + 1) z = H ++ [x, z] := by rw [List.set_append_right _ _ (Nat.le_succ _), Nat.succ_sub (Nat.le_refl _), Nat.sub_self]; rfl
theorem out_e {H E : List AO} {b : Bool} : outV H.length (H ++ E) (.bool b) = some (.bool b) := rfl
theorem j3t : (uo : u.At) → CallOk u (.ref 475) 13 (q0g textV) := W_tr.pure (by decide) (by decide) fun vs H v hH h => by
 obtain ⟨_, rfl, h⟩ := o1_s h
 obtain ⟨t, rfl, h⟩ := oS_s h
 obtain ⟨⟨h1, hasc⟩, h⟩ := q0h h
 cases h
 refine ⟨rfl, ?_⟩
 have h9 : t.length ≤ 90000 := Nat.le_trans h1 (by decide)
 have hA (y : AO) (hy : q0b 0 y = true) : (H ++ [AO.cell (.str t), y]).all (q0b (H ++ [AO.cell (.str t), y]).length) = true := q1s hH (q3w rfl (q3w (q7c (Nat.zero_le _) hy) rfl))
 have gT (y : AO) (l : List (String × V)) (hl : l.lookup "text" = some (.obj H.length)) : getC ⟨l, H ++ [.cell (.str t), y]⟩ "text" = some (.str t) := q2y (v := .str t) hl q9i
 have hcu := cut_call (hA .cell0 rfl) h9 hasc
 refine ft ⟨[("text", .obj H.length), ("at", .obj (H.length + 1)), ("due", cutU (q2u t))], H ++ [.cell (.str t), .cell0]⟩ [fv (gT .cell0 [("text", .obj H.length), ("at", .obj (H.length + 1))] rfl), fr hcu] (by kernel_rfl) ?_
 refine for_c (J := fun r => finR H.length r = _) (k0 := H.length + 1) (fun y : AO => ⟨[("due", cutU (q2u t)), ("text", .obj H.length), ("at", .obj (H.length + 1))], H ++ [.cell (.str t), y]⟩) (fun v _ => H ++ [.cell (.str t), .cell v]) (rngL ((0 : Nat) : Int) ((t.length + 1 : Nat) : Int)) (fun k y => q0b 0 y = true ∧ isC y (some ()) = some ()) .cell0
   [fv (gT .cell0 [("text", .obj H.length), ("at", .obj (H.length + 1)), ("due", cutU (q2u t))] rfl), fv (len_str (H := H ++ [.cell (.str t), .cell0]) (q1f h9)), fS (q7j (a := t.length + 1) (by omega))] (by kernel_rfl) ⟨rfl, rfl⟩ (fun _ _ => q6t) (by rw [q7r, q4c]; exact Nat.lt_succ_self _) (fun _ => rfl) ?_ ?_ ?_
 · rintro k y v ⟨_, hy⟩ _
   show ((H ++ [AO.cell (.str t), y])[H.length + 1]?.bind _) = _
   rw [j1z]
   show isC y (some ((H ++ [AO.cell (.str t), y]).set (H.length + 1) (.cell v))) = _
   rw [set_cell]
   cases y with
   | cell _ => rfl
   | cell0 => rfl
   | _ => exact nn hy
 · rintro k y v hv _
   obtain ⟨rfl, hkl⟩ := rng_at hv
   rw [Nat.zero_add] at hkl ⊢
   have hkl : k ≤ t.length := Nat.le_of_lt_succ hkl
   have hG := hA (.cell (.int k)) rfl
   have g1 := gT (.cell (.int k)) [("at", .obj (H.length + 1)), ("due", cutU (q2u t)), ("text", .obj H.length), ("at", .obj (H.length + 1))] rfl
   have g2 : getC ⟨[("at", .obj (H.length + 1)), ("due", cutU (q2u t)), ("text", .obj H.length), ("at", .obj (H.length + 1))], H ++ [.cell (.str t), .cell (.int k)]⟩ "at" = some (.int k) := q2y (v := .int k) rfl j1z
   have e1 := j1c hG h9 hasc hkl
   have e2 := gap_n hG h9 hkl
   have e3 : q4b 0 gapL [.fn 0 [("at", H.length + 1), ("text", H.length)]] (H ++ [.cell (.str t), .cell (.int (k : Int))]) = .ok (gapU (gEnd t k)) ⟨[], H ++ [.cell (.str t), .cell (.int (k : Int))]⟩ := by
     refine q5l (x := gapW (gEnd t k)) hG ?_ (by cases gEnd t k <;> rfl)
     show ((getC _ "text").bind fun x => (getC _ "at").bind fun y => gapX [x, y]) = _
     rw [show getC (q3x [("at", H.length + 1), ("text", H.length)] (H ++ [.cell (.str t), .cell (.int (k : Int))])) "text" = some (.str t) from q2y (v := .str t) rfl q9i, show getC (q3x [("at", H.length + 1), ("text", H.length)] (H ++ [.cell (.str t), .cell (.int (k : Int))])) "at" = some (.int k) from q2y (v := .int k) rfl j1z]
     show gapX [.str t, .int (k : Int)] = _
     exact oTB_p h9 hkl
   have e4 : cmp .NotEq (gapU (gEnd t k)) (gapU (gEnd t k)) = some false := by
     cases gEnd t k with
     | none => rfl
     | some n => exact q7x.trans (by rw [decide_eq_true rfl]; rfl)
   exact q3q (x := .cell (.int k)) [fv g1, fv g2, fr e1, fv g1, fv g2, fr e1, gN q7x (show (nEnd t k : Int) = nEnd t k from rfl), fr e3, fv g1, fv g2, fr e2, fb e4] (by kernel_rfl) ⟨rfl, rfl⟩
 · rintro y ⟨hy, _⟩
   have hG := hA y hy
   have g1 := gT y [("due", cutU (q2u t)), ("text", .obj H.length), ("at", .obj (H.length + 1))] rfl
   have f1 : q4b 1 cutL [.fn 1 [("text", H.length)]] (H ++ [.cell (.str t), y]) = .ok (cutU (q2u t)) ⟨[], H ++ [.cell (.str t), y]⟩ := by
     refine q5l (x := cutW (q2u t)) hG ?_ (by cases q2u t <;> rfl)
     show ((getC _ "text").bind fun x => cutX [x]) = _
     rw [show getC (q3x [("text", H.length)] (H ++ [.cell (.str t), y])) "text" = some (.str t) from q2y (v := .str t) rfl q9i]
     show cutX [.str t] = _
     exact oTA_p h9 hasc
   have f6 : q4b 2 readL [.fn 2 [("text", H.length)]] (H ++ [.cell (.str t), y]) = .ok (rdOk (q6s t)) ⟨[], H ++ [.cell (.str t), y]⟩ := by
     refine q5l (x := readsW (q6s t)) hG ?_ (by cases q6s t <;> rfl)
     show ((getC _ "text").bind fun x => q5o [x]) = _
     rw [show getC (q3x [("text", H.length)] (H ++ [.cell (.str t), y])) "text" = some (.str t) from q2y (v := .str t) rfl q9i]
     exact q0l ⟨h1, hasc⟩
   have f2 : cmp .NotEq (cutU (q2u t)) (cutU (q2u t)) = some false := by
     cases hc : q2u t with
     | inl m => rfl
     | inr l => exact j7g (strs_py fun x hx => by obtain ⟨_, b, e, rfl⟩ := (j5r hc).2 x hx; exact q9u hasc)
   have f3 := q3m (b := 0) hG h9 (Nat.zero_le _)
   have f4 : slV (H ++ [.cell (.str t), y]) (.str t) (.int (q0p t 0)) .none = some (.str (inner t)) := j3z (q1f h9)
   have hil := Nat.le_trans (j1k t) h1
   have hia := j1l hasc
   have f5 := cut_call hG (Nat.le_trans hil (by decide)) hia
   unfold q6s at f6
   generalize inner t = it at *
   generalize cutU (q2u t) = due at *
   refine ft ⟨[("due", due), ("text", .obj H.length), ("at", .obj (H.length + 1))], H ++ [.cell (.str t), y]⟩ [fr f1, fb f2] (by kernel_rfl) ?_
   refine ft ⟨[("due", due), ("text", .obj H.length), ("at", .obj (H.length + 1)), ("inner", .str it)], H ++ [.cell (.str t), y]⟩ [fv g1, fv g1, fr f3, fv f4] (by kernel_rfl) ?_
   cases hc : q2u it with
   | inl m =>
     rw [hc] at f5 f6
     exact q2d (E := [.cell (.str t), y]) hH [fr f5, fb is_nn, fr f6, fb is_nn, fb eq_nn] (by kernel_rfl) out_e
   | inr l =>
     rw [hc] at f5 f6
     change q4b 2 readL [.fn 2 [("text", H.length)]] (H ++ [.cell (.str t), y]) = .ok (rdOk (q2s l)) _ at f6
     have hm := j5r hc
     have hcomp : j8j false "told" (.seq (.lst (l.map V.str))) (ev (ct W_tr.d 0)) (ev (cg W_tr.d 0)) [] ⟨[], H ++ [.cell (.str t), y]⟩ = .ok (.lst ((l.map V.str).map valF)) ⟨[], H ++ [.cell (.str t), y]⟩ := by
       have := comp_s (src := .seq (.lst (l.map V.str))) (x := "told") (ct W_tr.d 0) (cg W_tr.d 0) (H := H ++ [.cell (.str t), y]) (loc := []) (l.map V.str) (fun _ => true) valF rfl (by rw [List.length_map]; exact Nat.le_trans hm.1 (Nat.le_trans hil (by decide))) hG (q3b fun v hv => by
           obtain ⟨w, hw, rfl⟩ := List.mem_map.mp hv
           obtain ⟨x, _, rfl⟩ := List.mem_map.mp (List.mem_filter.mp hw).1
           show below _ (valW (valO (q2k x))) = true
           cases valO (q2k x) <;> rfl) (fun _ _ => nth_lst) (by rw [j5d]; exact Nat.lt_succ_self _) (fun v acc _ _ => q3h [] (by kernel_rfl)) (fun v acc hv _ hG' => by
           obtain ⟨x, hx, rfl⟩ := List.mem_map.mp hv
           obtain ⟨q1, b, e, rfl⟩ := hm.2 x hx
           exact j3u [fr (q0d hG' (show valueV [.str (slL it b e)] = some (valW (valO (q2k (slL it b e)))) from q0l ⟨Nat.le_trans q8v hil, q9u hia, q1⟩))] (by kernel_rfl))
       rwa [List.filter_eq_self.mpr fun _ _ => rfl] at this
     have f7 := in_vals l
     rcases read_val l with ⟨r1, x, r2, r3⟩ | ⟨ps, r1, r2, r3⟩
     · rw [List.any_eq_true.mpr ⟨x, r2, by rw [r3]; rfl⟩] at f7
       have f6 : q4b 2 readL [.fn 2 [("text", H.length)]] (H ++ [.cell (.str t), y]) = .ok .none ⟨[], H ++ [.cell (.str t), y]⟩ := f6.trans (by
         revert r1
         cases q2s l with
         | inl m => exact fun _ => rfl
         | inr r => exact fun h => nomatch h)
       exact q2d (E := [.cell (.str t), y]) hH [fr f5, fb (is_lst (l.map V.str)), fr f5, fS (j4f (H ++ [.cell (.str t), y]) (l.map V.str)), fr hcomp, fr f6, fb (is_lst ((l.map V.str).map valF)), fb f7, fb eq_nn] (by kernel_rfl) out_e
     · rw [show (l.any fun x => (valO (q2k x)).isNone) = false from List.any_eq_false.mpr fun x hx h => r3 x hx (Option.isNone_iff_eq_none.mp h), r2] at f7
       rw [r1] at f6
       rw [r2] at hcomp
       exact q2d (E := [.cell (.str t), y]) hH [fr f5, fb (is_lst (l.map V.str)), fr f5, fS (j4f (H ++ [.cell (.str t), y]) (l.map V.str)), fr hcomp, fr f6, fb (is_lst (ps.map V.q)), fb f7, fb (eq_lst (prs_py ps))] (by kernel_rfl) out_e
end Mi
end
section
namespace Mi
variable {u : U} {c : Cx} {np pos : Pos} {es : List Expr} {ds : D .l}
noncomputable def srcO (a b : Int) : AO := .lst [.int a, .int b]
noncomputable def srcDe (x : AO) : Option (Int × Int) := (lsO x).bind fun l => o2 l fun x y => oI x fun a => oI y fun b => some (a, b)
theorem srcDe_eq {x : AO} {a b : Int} (h : srcDe x = some (a, b)) : x = srcO a b := by
 obtain ⟨l, h1, h2⟩ := bd_s h
 obtain ⟨y, z, rfl, h3⟩ := o2_s h2
 obtain ⟨a', rfl, h4⟩ := oI_s h3
 obtain ⟨b', rfl, h5⟩ := oI_s h4
 cases Option.some.inj h5
 cases x with
 | lst l => cases Option.some.inj h1; rfl
 | _ => exact nn h1
noncomputable abbrev Sg := Int → Int → List V → Option (V × Int × Int)
noncomputable def srcR (H : List AO) (k : Nat) (x : V × Int × Int) : Res V := .ok x.1 ⟨[], H.set k (srcO x.2.1 x.2.2)⟩
noncomputable def srcFO (g : Sg) (vs : List V) (H : List AO) : Option (Res V) := List.casesOn vs none fun x ws => oO x fun k => oIf (H.all (q0b H.length) = true) ((H[k]?.bind srcDe).bind fun p => (g p.1 p.2 ws).map (srcR H k))
noncomputable def srcF (g : Sg) : Fn := fun vs H => Option.casesOn (srcFO g vs H) .bad id
section
variable {H : List AO} {k : Nat} {a b : Int}
theorem srcF_ok {g : Sg} {ws : List V} {x : V × Int × Int} (hH : H.all (q0b H.length) = true) (hk : H[k]? = some (srcO a b)) (h : g a b ws = some x) : srcF g (.obj k :: ws) H = srcR H k x := by
 have e : srcFO g (.obj k :: ws) H = some (srcR H k x) := by
   refine (q0l hH).trans ?_
   rw [hk]
   show (g a b ws).map _ = _
   rw [h]; rfl
 unfold srcF
 rw [e]; rfl
theorem Df.src {n m : Nat} {fa : Addr} {i : Nat} {xs : List String} {ds : List Value} {dvs : List V} (w : Df n fa i xs ds dvs) (hn : 1 ≤ n) (hm : n + 1 ≤ m) {g : Sg}
   (e : ∀ k ws H a b x, H.all (q0b H.length) = true → H[k]? = some (srcO a b) → g a b ws = some x → (.obj k :: ws : List V).length = i ∧ finR H.length (ev w.d ⟨xs.zip ((.obj k :: ws) ++ dvs), H⟩) = srcR H k x) (uo : u.At) : CallOk u (.ref fa) m (srcF g) :=
 (w.ok hn uo).to hm fun vs H hb => by
   unfold srcF at hb ⊢
   cases hr : srcFO g vs H with
   | none => rw [hr] at hb; exact absurd rfl hb
   | some r =>
     cases vs with
     | nil => exact nn hr
     | cons x ws =>
       obtain ⟨k, rfl, h1⟩ := oO_s hr
       obtain ⟨hH, h1⟩ := q0h h1
       obtain ⟨⟨a, b⟩, h2, h1⟩ := bd_s h1
       obtain ⟨o, h3, h2⟩ := bd_s h2
       obtain ⟨x, h4, rfl⟩ := q3p h1
       obtain ⟨q1, q2⟩ := e k ws H a b x hH (h3.trans (congrArg some (srcDe_eq h2))) h4
       exact (if_pos q1).trans q2
theorem j3w (hH : H.all (q0b H.length) = true) : (H.set k (srcO a b)).all (q0b (H.set k (srcO a b)).length) = true := j0m hH rfl
theorem src0 (h : H[k]? = some (srcO a b)) : q5a H (.obj k) (.int 0) = some (.int a) := by
 show (H[k]?.bind lsO).bind (fun l => ixOf 0 l) = _
 rw [h]; rfl
theorem src1 (h : H[k]? = some (srcO a b)) : q5a H (.obj k) (.int 1) = some (.int b) := by
 show (H[k]?.bind lsO).bind (fun l => ixOf 1 l) = _
 rw [h]; rfl
theorem put0 {loc : List (String × V)} {z : Int} (h : H[k]? = some (srcO a b)) : putI (.int z) (.obj k) (.int 0) ⟨loc, H⟩ = .ok () ⟨loc, H.set k (srcO z b)⟩ := by
 show Option.casesOn (motive := fun _ => Res Unit) (H[k]?.bind _) _ _ = _
 rw [h]; rfl
theorem put1 {loc : List (String × V)} {z : Int} (h : H[k]? = some (srcO a b)) : putI (.int z) (.obj k) (.int 1) ⟨loc, H⟩ = .ok () ⟨loc, H.set k (srcO a z)⟩ := by
 show Option.casesOn (motive := fun _ => Res Unit) (H[k]?.bind _) _ _ = _
 rw [h]; rfl
end
noncomputable def q4v (b : Int) : Int := (b * 39373 + 7) % 2147483647
noncomputable def q3i (a b top : Int) : Int × Int × Int := if 0 < a then (a % top, a / top, b) else (q4v b * q4v b % 2147483629 / 32 % top, a, q4v b)
noncomputable def takeG : Sg := fun a b vs => o1 vs fun x => oI x fun top => oIf (0 < top ∧ top ≤ 1000) (some (.int (q3i a b top).1, (q3i a b top).2.1, (q3i a b top).2.2))
theorem small_mod {a b : Int} (h : 0 < b) (hb : b < 9223372036854775808) : small (a % b) = true := decide_eq_true (by
 have h1 := Int.emod_nonneg a (Int.ne_of_gt h)
 have h2 := Int.emod_lt_of_pos a h
 omega)
theorem int_big {i : Int} (h0 : 0 < i) (h : i ≤ 100000) : i.natAbs < bigN := Nat.lt_of_le_of_lt (by omega : i.natAbs ≤ 100000) (lt_bigN (Nat.le_refl _))
noncomputable def W_take : Df 2 422 2 ["source", "top"] [] [] := by
  refine' Df.mk _ _ _ _ (fun _ => rfl) rfl rfl (fun _ => rfl) rfl (fun _ _ _ => q1d (all2 fun _ _ => rfl)) (fun _ => .nil) (by decide) (by decide) ?H
  case H =>
    intro u c uo ok fn hr hsc hcd hqu
    dsimp only at hsc hcd hqu
    repeat' with_reducible first
 | (refine (?_ : DX _ _ _ _); first
  | refine' q0x ?_
  | refine' q3z ?_ ?_ ?_
  | refine' q3f ‹_› ?_ (by row_cond k) (by row_cond s)
  | refine' d_setI ?_ ?_ ?_ (by row_cond s) (by row_cond t))
 | (refine (?_ : DE _ _ _ _); first
  | refine' q0f ‹_› (by row_cond k) (by decide)
  | exact q1l
  | refine' q2g ?_ ?_
  | refine' q1x ?_ ?_ (fun _ _ => rfl))
 | refine' q2z ‹_› ?_ ?_ rfl
 | exact q0i
 | refine' q0v ?_ ?_
 | intro _ _ _ _
theorem law_take_ok : (uo : u.At) → CallOk u (.ref 422) 3 (srcF takeG) := W_take.src (by decide) (by decide) fun k ws H a b x hH hk h => by
 obtain ⟨_, rfl, h⟩ := o1_s h
 obtain ⟨top, rfl, h⟩ := oI_s h
 obtain ⟨⟨h1, h2⟩, h⟩ := q0h h
 cases h
 refine ⟨rfl, ?_⟩
 show _ = Res.ok (V.int (q3i a b top).1) ⟨[], H.set k (srcO (q3i a b top).2.1 (q3i a b top).2.2)⟩
 unfold q3i
 have s0 := src0 hk
 by_cases ha : 0 < a
 · rw [if_pos ha]
   exact q3k (x := srcO (a / top) b) hH rfl [fv s0, fT q1c ha, fv s0, fv (q2l (H := H) (a := a) h1), fv s0, fv (q3v (H := H) (a := a) h1 (int_big h1 (Int.le_trans h2 (by decide)))), fu (put0 (loc := [("source", .obj k), ("top", .int top), ("drawn", .int (a % top))]) (z := a / top) hk)] (by kernel_rfl) rfl
 · rw [if_neg ha]
   have s1 := src1 (q4i (y := srcO a (q4v b)) hk)
   exact q3k (x := srcO a (q4v b)) hH rfl [fv s0, fN q1c ha, fv (src1 hk), fv (q1i (H := H) (a := b) (b := 39373) (.inr (by decide))), fv (show bin H .Mod (.int (b * 39373 + 7)) (.int 2147483647) = some (.int (q4v b)) from q2l (by decide)), fu (put1 (loc := [("source", .obj k), ("top", .int top)]) (z := q4v b) hk), fv s1, fv s1,
     fv (q1i (H := H.set k (srcO a (q4v b))) (a := q4v b) (b := q4v b) (.inl (small_mod (by decide) (by decide)))), fv (q2l (H := H.set k (srcO a (q4v b))) (a := q4v b * q4v b) (b := 2147483629) (by decide)), fv (q3v (H := H.set k (srcO a (q4v b))) (a := q4v b * q4v b % 2147483629) (b := 32) (by decide) (int_big (by decide) (by decide))),
     fv (q2l (H := H.set k (srcO a (q4v b))) (a := q4v b * q4v b % 2147483629 / 32) h1)] (by kernel_rfl) rfl
theorem q6e {a b top : Int} (h : 0 < top) : 0 ≤ (q3i a b top).1 ∧ (q3i a b top).1 < top := by
 unfold q3i
 by_cases ha : 0 < a
 · rw [if_pos ha]; exact ⟨Int.emod_nonneg _ (Int.ne_of_gt h), Int.emod_lt_of_pos _ h⟩
 · rw [if_neg ha]; exact ⟨Int.emod_nonneg _ (Int.ne_of_gt h), Int.emod_lt_of_pos _ h⟩
section
variable {H : List AO} {k : Nat} {a b top : Int} {L : List V}
theorem take_is (hH : H.all (q0b H.length) = true) (hk : H[k]? = some (srcO a b)) (h1 : 0 < top) (h2 : top ≤ 1000) : srcF takeG [.obj k, .int top] H = .ok (.int (q3i a b top).1) ⟨[], H.set k (srcO (q3i a b top).2.1 (q3i a b top).2.2)⟩ := srcF_ok hH hk (show takeG a b [.int top] = some (.int (q3i a b top).1, (q3i a b top).2.1, (q3i a b top).2.2) from q0l ⟨h1, h2⟩)
theorem j6p (hH : H.all (q0b H.length) = true) (hk : H[k]? = some (srcO a b)) (h1 : 0 < top) (h2 : top ≤ 1000) : ∃ d a' b', 0 ≤ d ∧ d < top ∧ srcF takeG [.obj k, .int top] H = .ok (.int d) ⟨[], H.set k (srcO a' b')⟩ :=
 ⟨_, _, _, (q6e h1).1, (q6e h1).2, take_is hH hk h1 h2⟩
noncomputable def j7c (v : V) : Bool := V.casesOn v false (fun _ => false) (fun _ => true) (fun _ => true) (fun _ => false) (fun _ => false) (fun _ _ => false) (fun _ => false) (fun _ => false) (fun _ _ => false)
noncomputable def oneG : Sg := fun a b vs => o1 vs fun x => oL x fun L => oIf (0 < L.length ∧ L.length ≤ 1000 ∧ L.all j7c = true) ((L[(q3i a b L.length).1.toNat]?).map fun v => (v, (q3i a b L.length).2.1, (q3i a b L.length).2.2))
theorem j4y (h : L.length ≤ 100000) : lenV H [.lst L] = some (.int L.length) := q0l (k := some (V.int L.length)) h
theorem ix_nat {α : Type} {L : List α} {d : Int} (h : L.length ≤ 100000) (h0 : 0 ≤ d) (hd : d < L.length) : ixOf d L = L[d.toNat]? := by
 unfold ixOf seqIndex?
 rw [q0l (p := small d = true) (decide_eq_true (show d.natAbs < 2 ^ 63 by omega)), if_neg (Int.not_lt.mpr h0)]
 dsimp only
 rw [if_pos (q3w (decide_eq_true h0) (decide_eq_true hd))]
 rfl
theorem j4z {d : Int} {v : V} (h : L.length ≤ 100000) (h0 : 0 ≤ d) (hv : L[d.toNat]? = some v) : q5a H (.lst L) (.int d) = some v :=
 (ix_nat h h0 (by have := (List.getElem?_eq_some_iff.mp hv).1; omega)).trans hv
theorem plain_out {n : Nat} {v : V} (h : j7c v = true) : outV n H v = some v := by
 cases v <;> first | rfl | exact absurd h Bool.false_ne_true
end
theorem q4h (uo : u.At) (ok : c.Ok) : q1e u c "_law_take" 3 (srcF takeG) np pos es ds := q0o law_take_ok (fun _ => rfl) (fun _ => rfl) rfl (by decide) uo ok
noncomputable def W_lone : Df 3 429 2 ["source", "things"] [] [] := by
  refine' Df.mk _ _ _ _ (fun _ => rfl) rfl rfl (fun _ => rfl) rfl (fun _ _ _ => q1d (all2 fun _ _ => rfl)) (fun _ => .nil) (by decide) (by decide) ?H
  case H =>
    intro u c uo ok fn hr hsc hcd hqu
    dsimp only at hsc hcd hqu
    repeat' with_reducible first
 | refine' q0x ?_
 | (refine (?_ : DE _ _ (.Call _ _ _ _) _); first
  | refine' q4h uo ‹_› (leq hr) (by row_cond k) ?_ rfl
  | refine' q5i (q1h ‹_› ‹_› (by row_cond k)) ?_ rfl)
 | (refine (?_ : DE _ _ _ _); first
  | refine' q0f ‹_› (by row_cond k) (by decide)
  | refine' q1x ?_ ?_ (fun _ _ => rfl))
 | exact q0w
 | refine' q0j ?_ ?_ rfl
 | exact q0i
 | refine' q0v ?_ ?_
 | intro _ _ _ _
theorem law_one_ok : (uo : u.At) → CallOk u (.ref 429) 4 (srcF oneG) := W_lone.src (by decide) (by decide) fun k ws H a b x hH hk h => by
 obtain ⟨_, rfl, h⟩ := o1_s h
 obtain ⟨L, rfl, h⟩ := oL_s h
 obtain ⟨⟨h1, h2, h3⟩, h⟩ := q0h h
 obtain ⟨v, hv, rfl⟩ := q3p h
 refine ⟨rfl, ?_⟩
 have hl := Nat.le_trans h2 (show 1000 ≤ 100000 by decide)
 exact q3k (x := srcO _ _) hH rfl [fv (j4y (H := H) hl), fr (take_is hH hk (zlt h1) (Int.ofNat_le.mpr h2)), fv (j4z (H := H.set k (srcO (q3i a b L.length).2.1 (q3i a b L.length).2.2)) hl (q6e (zlt h1)).1 hv)] (by kernel_rfl) (plain_out (List.all_eq_true.mp h3 _ (List.mem_of_getElem? hv)))
theorem one_draw {H : List AO} {k : Nat} {a b : Int} {L : List V} (hH : H.all (q0b H.length) = true) (hk : H[k]? = some (srcO a b)) (h : 0 < L.length ∧ L.length ≤ 1000 ∧ L.all j7c = true) :
   ∃ v a' b', v ∈ L ∧ srcF oneG [.obj k, .lst L] H = .ok v ⟨[], H.set k (srcO a' b')⟩ := by
 have hr := q6e (a := a) (b := b) (zlt h.1)
 obtain ⟨v, hv⟩ : ∃ v, L[(q3i a b L.length).1.toNat]? = some v := ⟨_, List.getElem?_eq_getElem (by omega)⟩
 have e : oneG a b [.lst L] = some (v, (q3i a b L.length).2.1, (q3i a b L.length).2.2) := (q0l h).trans (by rw [hv]; rfl)
 exact ⟨v, _, _, List.mem_of_getElem? hv, srcF_ok hH hk e⟩
theorem q8c (uo : u.At) (ok : c.Ok) : q1e u c "_law_one" 4 (srcF oneG) np pos es ds := q0o law_one_ok (fun _ => rfl) (fun _ => rfl) rfl (by decide) uo ok
noncomputable def strOk (m : Nat) (v : V) : Bool := V.casesOn v false (fun _ => false) (fun _ => false) (fun s => decide (s.length ≤ m) && q1a s) (fun _ => false) (fun _ => false) (fun _ _ => false) (fun _ => false) (fun _ => false) (fun _ _ => false)
theorem strOk_is {m : Nat} {L : List V} {v : V} (h : L.all (strOk m) = true) (hv : v ∈ L) : ∃ s, v = .str s ∧ s.length ≤ m ∧ q1a s = true := by
 have h := List.all_eq_true.mp h v hv
 cases v with
 | str s => exact ⟨s, rfl, of_decide_eq_true (Bool.and_eq_true_iff.mp h).1, (Bool.and_eq_true_iff.mp h).2⟩
 | _ => exact absurd h Bool.false_ne_true
theorem j8t {a b : List Nat} (h : q1a a = true) (h' : q1a b = true) : q1a (a ++ b) = true := by unfold q1a at *; rw [List.all_append, h, h']; rfl
noncomputable def someL : List V := [.str (q0a "0"), .str (q0a "7"), .str (q0a "12"), .str (q0a ".5"), .str (q0a "."), .str (q0a "-"), .str (q0a "+"), .str (q0a "e"), .str (q0a "E"), .str (q0a "e2"), .str (q0a "e-1"), .str (q0a "-3"), .str (q0a "+.25"), .str (q0a "2."), .str (q0a "x")]
noncomputable def gapsL : List V := [.str (q0a ""), .str (q0a ""), .str (q0a " "), .str (q0a ","), .str (q0a " , "), .str (q0a "\t"), .str (q0a ",,"), .str (q0a "\n")]
noncomputable def begL : List V := [.str (q0a ""), .str (q0a ""), .str (q0a " ")]
noncomputable def Draws (m : Nat) (L : List V) : Prop := L.all (strOk m) = true ∧ 0 < L.length ∧ L.length ≤ 1000 ∧ L.all j7c = true
theorem someL_ok : Draws 4 someL := ⟨by kernel_rfl, Nat.le_of_ble_eq_true rfl, Nat.le_of_ble_eq_true rfl, by kernel_rfl⟩
theorem gapsL_ok : Draws 3 gapsL := ⟨by kernel_rfl, Nat.le_of_ble_eq_true rfl, Nat.le_of_ble_eq_true rfl, by kernel_rfl⟩
theorem begL_ok : Draws 1 begL := ⟨by kernel_rfl, Nat.le_of_ble_eq_true rfl, Nat.le_of_ble_eq_true rfl, by kernel_rfl⟩
theorem j3v {H : List AO} {k m : Nat} {a b : Int} {L : List V} (hH : H.all (q0b H.length) = true) (hk : H[k]? = some (srcO a b)) (h : Draws m L) :
   ∃ s a' b', s.length ≤ m ∧ q1a s = true ∧ srcF oneG [.obj k, .lst L] H = .ok (.str s) ⟨[], H.set k (srcO a' b')⟩ := by
 obtain ⟨v, a', b', hv, e⟩ := one_draw hH hk h.2
 obtain ⟨s, rfl, h1, h2⟩ := strOk_is h.1 hv
 exact ⟨s, a', b', h1, h2, e⟩
noncomputable def Df.fn {n : Nat} {a : Addr} {k : Nat} {xs : List String} {ds : List Value} {dvs : List V} (w : Df n a k xs ds dvs) : Fn := fun vs H => if vs.length = k then finR H.length (ev w.d ⟨xs.zip (vs ++ dvs), H⟩) else .bad
noncomputable def j6j : Df 4 482 1 ["source"] [] [] := by
  refine' Df.mk _ _ _ _ (fun _ => rfl) rfl rfl (fun _ => rfl) rfl (fun _ _ _ => q1d (all1 fun _ => rfl)) (fun _ => .nil) (by decide) (by decide) ?H
  case H =>
    intro u c uo ok fn hr hsc hcd hqu
    dsimp only at hsc hcd hqu
    repeat' with_reducible first
 | (refine (?_ : DX _ _ _ _); first
  | refine' d_for (cell := false) ‹_› ‹_› ["source", "some", "gaps", "text"] ?_ (by row_cond k) ?_ (fun _ => rfl)
  | refine' q0x ?_
  | refine' q3f ‹_› ?_ (by row_cond k) (by row_cond s))
 | (refine (?_ : DE _ _ (.Call _ _ _ _) _); first
  | refine' q4h uo ‹_› (leq hr) (by row_cond k) ?_ rfl
  | refine' q8c uo ‹_› (leq hr) (by row_cond k) ?_ rfl)
 | (refine (?_ : DE _ _ _ _); first
  | refine' q0f ‹_› (by row_cond k) (by decide)
  | exact q1l
  | exact q3y
  | refine' j8i ?_
  | refine' q2g ?_ ?_)
 | exact q0w
 | refine' q0j ?_ ?_ rfl
 | exact q0i
 | refine' q0v ?_ ?_
 | refine' q9d (q2r ‹_› ‹_› (by row_cond k)) ?_ rfl
 | intro _ _ _ _
noncomputable def DrJ (k : Nat) (H : List AO) (r : Res V) : Prop := ∃ t a' b', t.length ≤ 60 ∧ q1a t = true ∧ r = .ok (.str t) ⟨[], H.set k (srcO a' b')⟩
theorem drawn_is {k : Nat} {H : List AO} {a b : Int} (hH : H.all (q0b H.length) = true) (hk : H[k]? = some (srcO a b)) : DrJ k H (j6j.fn [.obj k] H) := by
 obtain ⟨t0, a1, b1, l0, c0, e1⟩ := j3v hH hk begL_ok
 obtain ⟨d, a2, b2, d1, d2, e2⟩ := j6p (top := 5) (j3w (k := k) (a := a1) (b := b1) hH) (q4i hk) (by decide) (by decide)
 rw [List.set_set] at e2
 obtain ⟨d, rfl⟩ := Int.eq_ofNat_of_zero_le d1
 show DrJ k H (finR H.length (ev j6j.d ⟨[("source", .obj k)], H⟩))
 refine q4j (J := fun r => DrJ k H (finR H.length r)) ⟨[("source", .obj k), ("some", .lst someL)], H⟩ [] (by kernel_rfl) ?_
 refine q4j (J := fun r => DrJ k H (finR H.length r)) ⟨[("source", .obj k), ("some", .lst someL), ("gaps", .lst gapsL)], H⟩ [] (by kernel_rfl) ?_
 refine q4j (J := fun r => DrJ k H (finR H.length r)) ⟨[("source", .obj k), ("some", .lst someL), ("gaps", .lst gapsL), ("text", .str t0)], H.set k (srcO a1 b1)⟩ [fr e1] (by kernel_rfl) ?_
 refine for_s (J := fun r => DrJ k H (finR H.length r)) rfl (fun x : List Nat × Int × Int => ⟨[("source", .obj k), ("some", .lst someL), ("gaps", .lst gapsL), ("text", .str x.1)], H.set k (srcO x.2.1 x.2.2)⟩) (rngL ((0 : Nat) : Int) (d : Int)) (fun j x => x.1.length ≤ 1 + 7 * j ∧ q1a x.1 = true) (t0, a2, b2) [fr e2, fS (q7j (a := d) (by omega))] (by kernel_rfl) ⟨l0, c0⟩ (fun _ _ => q6t) (by rw [q7r, q4c]; exact Nat.lt_succ_self _) ?_ ?_
 · rintro j ⟨t, a, b⟩ v hv ⟨h1, h2⟩
   obtain ⟨rfl, hj⟩ := rng_at hv
   dsimp only at h1 h2
   obtain ⟨x1, a1, b1, l1, c1, f1⟩ := j3v (j3w (k := k) (a := a) (b := b) hH) (q4i hk) someL_ok
   obtain ⟨x2, a2, b2, l2, c2, f2⟩ := j3v (j3w (k := k) (a := a1) (b := b1) hH) (q4i hk) gapsL_ok
   rw [List.set_set] at f1 f2
   have hl : (t ++ x1).length ≤ 5 + 7 * j := by rw [List.length_append]; omega
   exact q3q (x := (t ++ x1 ++ x2, a2, b2)) [fr f1, fv (add_str (H := H.set k (srcO a1 b1)) (x := t) (y := x1) (by omega)), fr f2, fv (add_str (H := H.set k (srcO a2 b2)) (x := t ++ x1) (y := x2) (by omega))] (by kernel_rfl) ⟨by rw [List.length_append]; omega, j8t (j8t h2 c1) c2⟩
 · rintro ⟨t, a, b⟩ ⟨h1, h2⟩
   rw [q4c] at h1
   exact ⟨t, a, b, by dsimp only at h1; omega, h2, q3k (x := srcO a b) hH rfl [] (by kernel_rfl) rfl⟩
theorem Df.okT {n : Nat} {a : Addr} {k : Nat} {xs : List String} {ds : List Value} {dvs : List V} (w : Df n a k xs ds dvs) (hn : 1 ≤ n) (uo : u.At) : CallOk u (.ref a) (n + 1) (fun vs H => if vs.length = k then finT H.length (ev w.d ⟨xs.zip (vs ++ dvs), H⟩) else .bad) := by
 have h5 := w.h5
 simp only [j0w, Bool.and_eq_true, Bool.not_eq_true', beq_iff_eq, List.all_eq_true, bne_iff_ne] at h5
 obtain ⟨⟨⟨⟨⟨a1, a2⟩, a3⟩, a4⟩, a5⟩, a6⟩ := h5
 exact (codeOk_defT uo.ok (uo.get (w.h1 _)) w.h2 w.h3 (uo.code (w.h4 _)) a1 a2 a3 a4 a5 a6 (w.h6 uo) w.hd w.h7 w.h8 hn fun c ok fn hr hs hc _ hq => w.H uo ok fn hr hs hc hq).call
theorem fin_T {H : List AO} {l : List V} {d : D .f} {σ : St} (hH : H.all (q0b H.length) = true) (hl : belows H.length l = true) (f : List Fact) (h : j2e (et d σ (f.map Fact.o) []) = some (.obj H.length, H ++ [.lst l], [], (f.map Fact.k).reverse)) : finT H.length (ev d σ) = .ok (.obj H.length) ⟨[], H ++ [.lst l]⟩ := by
 obtain ⟨loc, e⟩ := tret f h
 rw [e]
 show Option.casesOn (motive := fun _ => Res V) (oIf (H.length ≤ H.length) ((H ++ [AO.lst l])[H.length]?.bind _)) _ _ = _
 rw [q0l (Nat.le_refl _), List.getElem?_concat_length]
 show Option.casesOn (motive := fun _ => Res V) (oIf (belows H.length l = true ∧ ((H ++ [AO.lst l]).take H.length).all (q0b H.length) = true) _) _ _ = _
 rw [List.take_left, q0l ⟨hl, hH⟩]
noncomputable def W_pool : Df 2 415 2 ["script", "k"] [] [] := by
  refine' Df.mk _ _ _ _ (fun _ => rfl) rfl rfl (fun _ => rfl) rfl (fun _ _ _ => q1d (all2 fun _ _ => rfl)) (fun _ => .nil) (by decide) (by decide) ?H
  case H =>
    intro u c uo ok fn hr hsc hcd hqu
    dsimp only at hsc hcd hqu
    repeat' with_reducible first
 | (refine (?_ : DX _ _ _ _); first
  | refine' q0x ?_
  | refine' q3f ‹_› ?_ (by row_cond k) (by row_cond s))
 | (refine (?_ : DE _ _ (.Call _ _ _ _) _); first
  | refine' q5i (q1h ‹_› ‹_› (by row_cond k)) ?_ rfl
  | refine' d_max ‹_› (j0e ‹_› ‹_› (by row_cond k)) ?_ rfl)
 | (refine (?_ : DE _ _ _ _); first
  | refine' d_lstT ?_
  | refine' q0f ‹_› (by row_cond k) (by decide)
  | exact q1l
  | refine' d_un ?_
  | refine' q2g ?_ ?_
  | refine' j5q ?_ ?_ ?_
  | refine' q1x ?_ ?_ (fun _ _ => rfl))
 | refine' q2z ‹_› ?_ ?_ rfl
 | exact q0w
 | refine' q0j ?_ ?_ rfl
 | exact q0i
 | refine' q0v ?_ ?_
 | intro _ _ _ _
noncomputable def poolF : Fn := fun vs H => if vs.length = 2 then finT H.length (ev W_pool.d ⟨["script", "k"].zip (vs ++ []), H⟩) else .bad
theorem law_pool_ok (uo : u.At) : CallOk u (.ref 415) 3 poolF := W_pool.okT (by decide) uo
noncomputable def mixI (big : Int) (k : Nat) : Int := (big % 2147483629 + 7919 * k * k + 31 * k + 17) * 48271 % 2147483647
theorem pool_is {ns : List Int} {k : Nat} {H : List AO} (hn : ns.length ≤ 1000) (hk : k ≤ 10) (hH : H.all (q0b H.length) = true) : ∃ a b, poolF [.lst (ns.map .int), .int (k : Int)] H = .ok (.obj H.length) ⟨[], H ++ [srcO a b]⟩ := by
 show ∃ a b, finT H.length (ev W_pool.d ⟨[("script", .lst (ns.map .int)), ("k", .int k)], H⟩) = _
 have hl : (ns.map V.int).length ≤ 100000 := by rw [List.length_map]; exact Nat.le_trans hn (by decide)
 have e1 := j4y (H := H) hl
 have t2 (x : Int) := q1i (H := H) (a := x) (b := (k : Int)) (.inr (j6t (Nat.lt_of_le_of_lt hk (by decide))))
 by_cases hkl : k < (ns.map V.int).length
 · obtain ⟨z, hz⟩ : ∃ z, (ns.map V.int)[(k : Int).toNat]? = some (.int z) := by
     rw [List.getElem?_map, Int.toNat_natCast, List.getElem?_eq_getElem (by rwa [List.length_map] at hkl)]
     exact ⟨_, rfl⟩
   have e2 := j4z (H := H) hl (Int.natCast_nonneg k) hz
   have mx : maxV [.int z, .int (-1 - z)] = some (.int (max z (-1 - z))) := rfl
   generalize max z (-1 - z) = big at mx
   by_cases hb : (1000000000000000000 : Int) ≤ big
   · exact ⟨big, mixI big k, fin_T hH rfl [fv e1, fT q1n (zlt hkl), fv e2, fv mx, fv (q2l (H := H) (a := big) (b := 2147483629) (by decide)), fv (q1i (H := H) (a := 7919) (b := (k : Int)) (.inl (by decide))), fv (t2 (7919 * k)), fv (q1i (H := H) (a := 31) (b := (k : Int)) (.inl (by decide))),
       fv (q1i (H := H) (a := big % 2147483629 + 7919 * k * k + 31 * k + 17) (b := 48271) (.inr (by decide))), fv (q2l (H := H) (a := (big % 2147483629 + 7919 * k * k + 31 * k + 17) * 48271) (b := 2147483647) (by decide)), fv (show bin H .Pow (.int 10) (.int 18) = some (.int 1000000000000000000) from q6c (by decide) (by decide)), fT cmp_ge hb] (by kernel_rfl)⟩
   · exact ⟨0, mixI big k, fin_T hH rfl [fv e1, fT q1n (zlt hkl), fv e2, fv mx, fv (q2l (H := H) (a := big) (b := 2147483629) (by decide)), fv (q1i (H := H) (a := 7919) (b := (k : Int)) (.inl (by decide))), fv (t2 (7919 * k)), fv (q1i (H := H) (a := 31) (b := (k : Int)) (.inl (by decide))),
       fv (q1i (H := H) (a := big % 2147483629 + 7919 * k * k + 31 * k + 17) (b := 48271) (.inr (by decide))), fv (q2l (H := H) (a := (big % 2147483629 + 7919 * k * k + 31 * k + 17) * 48271) (b := 2147483647) (by decide)), fv (show bin H .Pow (.int 10) (.int 18) = some (.int 1000000000000000000) from q6c (by decide) (by decide)), fN cmp_ge hb] (by kernel_rfl)⟩
 · exact ⟨0, mixI 0 k, fin_T hH rfl [fv e1, fN q1n (znlt hkl), fv (show maxV [.int 0, .int (-1)] = some (.int 0) from rfl), fv (q2l (H := H) (a := 0) (b := 2147483629) (by decide)), fv (q1i (H := H) (a := 7919) (b := (k : Int)) (.inl (by decide))), fv (t2 (7919 * k)), fv (q1i (H := H) (a := 31) (b := (k : Int)) (.inl (by decide))),
     fv (q1i (H := H) (a := 0 % 2147483629 + 7919 * k * k + 31 * k + 17) (b := 48271) (.inr (by decide))), fv (q2l (H := H) (a := (0 % 2147483629 + 7919 * k * k + 31 * k + 17) * 48271) (b := 2147483647) (by decide)), fv (show bin H .Pow (.int 10) (.int 18) = some (.int 1000000000000000000) from q6c (by decide) (by decide)), fN cmp_ge (show ¬ (1000000000000000000 : Int) ≤ 0 by decide)] (by kernel_rfl)⟩
end Mi
end
section
namespace Mi
variable {u : U} {c : Cx} {np pos : Pos} {es : List Expr} {ds : D .l}
noncomputable abbrev qv (n : Int) : V := .tup [.int n, .int 1]
noncomputable def oq {α : Type} (v : V) (k : Int → Option α) : Option α := oQ v fun n d => oIf (d = 1) (k n)
theorem oq_s {α : Type} {v : V} {k : Int → Option α} {x : α} (h : oq v k = some x) : ∃ n, v = qv n ∧ k n = some x := by
 obtain ⟨n, d, rfl, h1⟩ := oQ_s h
 obtain ⟨rfl, h2⟩ := q0h h1
 exact ⟨n, rfl, h2⟩
structure M6 where
 a : Int
 b : Int
 c : Int
 d : Int
 e : Int
 f : Int
noncomputable def j1i : List Str := [Str.ofString "a", Str.ofString "b", Str.ofString "c", Str.ofString "d", Str.ofString "e", Str.ofString "f"]
noncomputable def M6.l (m : M6) : List V := [qv m.a, qv m.b, qv m.c, qv m.d, qv m.e, qv m.f]
noncomputable def M6.fs (m : M6) : List (Str × V) := j1i.zip m.l
noncomputable def mat (m : M6) : V := .ins 320 m.fs
noncomputable def oM {α : Type} (v : V) (k : M6 → Option α) : Option α := V.casesOn v none (fun _ => none) (fun _ => none) (fun _ => none) (fun _ => none) (fun _ => none)
 (fun C fs => oIf (C = 320 ∧ fs.map (·.1) = j1i) (o3 ((fs.map (·.2)).take 3) fun a b c => o3 ((fs.map (·.2)).drop 3) fun d e f => oq a fun a => oq b fun b => oq c fun c => oq d fun d => oq e fun e => oq f fun f => k ⟨a, b, c, d, e, f⟩))
 (fun _ => none) (fun _ => none) (fun _ _ => none)
theorem zip_fs (l : List (Str × V)) : (l.map (·.1)).zip (l.map (·.2)) = l := by
 induction l with
 | nil => rfl
 | cons p l ih => exact congrArg (p :: ·) ih
theorem oM_s {α : Type} {v : V} {k : M6 → Option α} {x : α} (h : oM v k = some x) : ∃ m, v = mat m ∧ k m = some x := by
 cases v with
 | ins C fs =>
   obtain ⟨⟨rfl, h1⟩, h2⟩ := q0h h
   obtain ⟨a, b, c, q1, h3⟩ := o3_s h2
   obtain ⟨d, e, f, q2, h4⟩ := o3_s h3
   obtain ⟨a, rfl, h5⟩ := oq_s h4
   obtain ⟨b, rfl, h6⟩ := oq_s h5
   obtain ⟨c, rfl, h7⟩ := oq_s h6
   obtain ⟨d, rfl, h8⟩ := oq_s h7
   obtain ⟨e, rfl, h9⟩ := oq_s h8
   obtain ⟨f, rfl, h10⟩ := oq_s h9
   refine ⟨_, ?_, h10⟩
   have e1 : fs.map (·.2) = M6.l ⟨a, b, c, d, e, f⟩ := (List.take_append_drop 3 _).symm.trans (by rw [q1, q2]; rfl)
   show V.ins 320 fs = .ins 320 (j1i.zip (M6.l ⟨a, b, c, d, e, f⟩))
   rw [← h1, ← e1]
   exact congrArg (V.ins 320) (zip_fs fs).symm
 | _ => exact nn h
theorem j0i {H : List AO} {C : Addr} {name : Str} {fs : List (Str × V)} {v : V} (hv : (fs.lookup name).bind (fun v => oIf (notB v = true) (some v)) = some v) : q6m C name H (.ins C fs) = some v := (q0l rfl).trans hv
theorem fr1 (t : Int) : j2g [.int t, .int (1 * 1)] = some (qv t) := (q6g (b := 1) (by decide) (by unfold bigN; decide +kernel)).trans (by rw [j8c]; rfl)
section
variable {H : List AO}
theorem plus_q (hH : H.all (q0b H.length) = true) (a b : Int) : q0g plusV [qv a, qv b] H = .ok (qv (a + b)) ⟨[], H⟩ := q0d hH ((q0l ⟨.inr (by decide), .inr (by decide), .inl (by decide)⟩).trans (by rw [Int.mul_one, Int.mul_one]; exact fr1 _))
theorem j3r (hH : H.all (q0b H.length) = true) {a b : Int} (h : okM a b) : q0g timesV [qv a, qv b] H = .ok (qv (a * b)) ⟨[], H⟩ := q0d hH ((q0l ⟨h, .inl (by decide)⟩).trans (fr1 _))
theorem neg_q (hH : H.all (q0b H.length) = true) (a : Int) : q0g j0d [qv a] H = .ok (qv (-a)) ⟨[], H⟩ := q0d hH rfl
end
theorem j6g (uo : u.At) : q7d u.K 320 (Str.ofString "a") := by rw [uo.K]; exact ⟨rfl, rfl, rfl, rfl, rfl, rfl⟩
theorem j6f (uo : u.At) : q7d u.K 320 (Str.ofString "b") := by rw [uo.K]; exact ⟨rfl, rfl, rfl, rfl, rfl, rfl⟩
theorem j6e (uo : u.At) : q7d u.K 320 (Str.ofString "c") := by rw [uo.K]; exact ⟨rfl, rfl, rfl, rfl, rfl, rfl⟩
theorem j6d (uo : u.At) : q7d u.K 320 (Str.ofString "d") := by rw [uo.K]; exact ⟨rfl, rfl, rfl, rfl, rfl, rfl⟩
theorem j6c (uo : u.At) : q7d u.K 320 (Str.ofString "e") := by rw [uo.K]; exact ⟨rfl, rfl, rfl, rfl, rfl, rfl⟩
theorem j6b (uo : u.At) : q7d u.K 320 (Str.ofString "f") := by rw [uo.K]; exact ⟨rfl, rfl, rfl, rfl, rfl, rfl⟩
theorem j8q (uo : u.At) (ok : c.Ok) : q1e u c "plus" 6 (q0g plusV) np pos es ds := q0o plus_ok (fun _ => rfl) (fun _ => rfl) rfl (by decide) uo ok
theorem j3g (uo : u.At) (ok : c.Ok) : q1e u c "times" 6 (q0g timesV) np pos es ds := q0o times_ok (fun _ => rfl) (fun _ => rfl) rfl (by decide) uo ok
noncomputable def initMO (vs : List V) (H : List AO) : Option (Nat × List V) := List.casesOn vs none fun x ws => oO x fun k => oIf (H.all (q0b H.length) = true ∧ belows H.length ws = true ∧ ws.length = 6) ((H[k]?.bind insO).bind fun p => o0 p.2 (oIf (p.1 = 320) (some (k, ws))))
noncomputable def j1m : Fn := fun vs H => Option.casesOn (initMO vs H) .bad fun p => .ok .none ⟨[], H.set p.1 (.ins 320 (j1i.zip p.2))⟩
theorem len6 {l : List V} (h : l.length = 6) : ∃ a b c d e f, l = [a, b, c, d, e, f] := by
 match l, h with
 | [a, b, c, d, e, f], _ => exact ⟨a, b, c, d, e, f, rfl⟩
theorem q7m {H : List AO} {loc : List (String × V)} {k : Nat} {name : Str} {v : V} {fs : List (Str × V)} {x : AO} (h : H[k]? = some x) (hl : fs.length < 100) : putA 320 name v (.obj k) ⟨loc, H.set k (.ins 320 fs)⟩ = .ok () ⟨loc, H.set k (.ins 320 (setF name v fs))⟩ :=
 (j0u (q4i h) hl).trans (by rw [List.set_set])
noncomputable def W_minit : Df 1 275 7 ["self", "a", "b", "c", "d", "e", "f"] [] [] := by
  refine' Df.mk _ _ _ _ (fun _ => rfl) rfl rfl (fun _ => rfl) rfl (fun _ _ _ => q1d (all7 fun _ _ _ _ _ _ _ => rfl)) (fun _ => .nil) (by decide) (by decide) ?H
  case H =>
    intro u c uo ok fn hr hsc hcd hqu
    dsimp only at hsc hcd hqu
    repeat' with_reducible first
 | (refine (?_ : DX _ _ _ _); first
  | refine' j6x uo (j6g uo) ?_ ?_ (by row_cond s) (by row_cond t)
  | refine' j6x uo (j6f uo) ?_ ?_ (by row_cond s) (by row_cond t)
  | refine' j6x uo (j6e uo) ?_ ?_ (by row_cond s) (by row_cond t)
  | refine' j6x uo (j6d uo) ?_ ?_ (by row_cond s) (by row_cond t)
  | refine' j6x uo (j6c uo) ?_ ?_ (by row_cond s) (by row_cond t)
  | refine' j6x uo (j6b uo) ?_ ?_ (by row_cond s) (by row_cond t))
 | refine' q0f ‹_› (by row_cond k) (by decide)
 | exact q0i
 | refine' q0v ?_ ?_
 | intro _ _ _ _
theorem q9q (uo : u.At) : CodeOk u (.ref 275) 2 j1m := (W_minit.code (by decide) uo).to (by decide) fun vs H hb => by
 unfold j1m at hb ⊢
 cases hr : initMO vs H with
 | none => rw [hr] at hb; exact absurd rfl hb
 | some p =>
   cases vs with
   | nil => exact nn hr
   | cons x ws =>
     obtain ⟨k, rfl, h1⟩ := oO_s hr
     obtain ⟨⟨hH, hv, h6⟩, h2⟩ := q0h h1
     obtain ⟨⟨C, fs⟩, h3, h4⟩ := bd_s h2
     obtain ⟨o, hk, h3⟩ := bd_s h3
     rw [j7z h3] at hk
     obtain ⟨h0, h5⟩ := o0_s h4
     dsimp only at h0 hk
     subst h0
     obtain ⟨hC, h7⟩ := q0h h5
     dsimp only at hC
     subst hC
     cases Option.some.inj h7
     obtain ⟨v1, v2, v3, v4, v5, v6, rfl⟩ := len6 h6
     refine (if_pos rfl).trans ?_
     have q : ev W_minit.d ⟨[("self", .obj k), ("a", v1), ("b", v2), ("c", v3), ("d", v4), ("e", v5), ("f", v6)], H⟩ = .ok .next ⟨[("self", .obj k), ("a", v1), ("b", v2), ("c", v3), ("d", v4), ("e", v5), ("f", v6)], H.set k (.ins 320 (j1i.zip [v1, v2, v3, v4, v5, v6]))⟩ := by
       generalize hl : [("self", V.obj k), ("a", v1), ("b", v2), ("c", v3), ("d", v4), ("e", v5), ("f", v6)] = loc
       have p1 := j0u (loc := loc) (name := Str.ofString "a") (v := v1) hk (by decide)
       have p2 := q7m (loc := loc) (name := Str.ofString "b") (v := v2) (fs := setF (Str.ofString "a") v1 []) hk (Nat.le_of_ble_eq_true rfl)
       have p3 := q7m (loc := loc) (name := Str.ofString "c") (v := v3) (fs := setF (Str.ofString "b") v2 (setF (Str.ofString "a") v1 [])) hk (Nat.le_of_ble_eq_true rfl)
       have p4 := q7m (loc := loc) (name := Str.ofString "d") (v := v4) (fs := setF (Str.ofString "c") v3 (setF (Str.ofString "b") v2 (setF (Str.ofString "a") v1 []))) hk (Nat.le_of_ble_eq_true rfl)
       have p5 := q7m (loc := loc) (name := Str.ofString "e") (v := v5) (fs := setF (Str.ofString "d") v4 (setF (Str.ofString "c") v3 (setF (Str.ofString "b") v2 (setF (Str.ofString "a") v1 [])))) hk (Nat.le_of_ble_eq_true rfl)
       have p6 := q7m (loc := loc) (name := Str.ofString "f") (v := v6) (fs := setF (Str.ofString "e") v5 (setF (Str.ofString "d") v4 (setF (Str.ofString "c") v3 (setF (Str.ofString "b") v2 (setF (Str.ofString "a") v1 []))))) hk (Nat.le_of_ble_eq_true rfl)
       subst hl
       exact q1j [fu p1, fu p2, fu p3, fu p4, fu p5, fu p6] (by kernel_rfl)
     refine (congrArg (finR H.length) q).trans ?_
     have := j5f (H := H.set k (.ins 320 (j1i.zip [v1, v2, v3, v4, v5, v6]))) (v := .none) (w := .none) (σ := ⟨[("self", .obj k), ("a", v1), ("b", v2), ("c", v3), ("d", v4), ("e", v5), ("f", v6)], H.set k (.ins 320 (j1i.zip [v1, v2, v3, v4, v5, v6]))⟩) (j0m hH hv) rfl rfl
     rw [List.length_set] at this
     exact this
noncomputable def vecM (m : M6) (x y : Int) : Int × Int := (m.a * x + m.c * y, m.b * x + m.d * y)
noncomputable def ptM (m : M6) (x y : Int) : Int × Int := ((vecM m x y).1 + m.e, (vecM m x y).2 + m.f)
noncomputable def qq (p : Int × Int) : V := .tup [qv p.1, qv p.2]
noncomputable abbrev okV (m : M6) (x y : Int) : Prop := okM m.a x ∧ okM m.c y ∧ okM m.b x ∧ okM m.d y
noncomputable def oMp {α : Type} (vs : List V) (k : M6 → Int → Int → Option α) : Option α := o2 vs fun m p => oM m fun m => oT p fun l => o2 l fun x y => oq x fun x => oq y fun y => oIf (okV m x y) (k m x y)
theorem oMp_s {α : Type} {vs : List V} {k : M6 → Int → Int → Option α} {z : α} (h : oMp vs k = some z) : ∃ m x y, vs = [mat m, qq (x, y)] ∧ okV m x y ∧ k m x y = some z := by
 obtain ⟨_, _, rfl, h1⟩ := o2_s h
 obtain ⟨m, rfl, h2⟩ := oM_s h1
 obtain ⟨l, rfl, h3⟩ := oT_s h2
 obtain ⟨_, _, rfl, h4⟩ := o2_s h3
 obtain ⟨x, rfl, h5⟩ := oq_s h4
 obtain ⟨y, rfl, h6⟩ := oq_s h5
 obtain ⟨h7, h8⟩ := q0h h6
 exact ⟨m, x, y, rfl, h7, h8⟩
theorem oMp_p {α : Type} {k : M6 → Int → Int → Option α} {m : M6} {x y : Int} (h : okV m x y) : oMp [mat m, qq (x, y)] k = k m x y := q0l h
noncomputable def j3n (vs : List V) : Option V := oMp vs fun m x y => some (qq (vecM m x y))
noncomputable def W_vec : Df 7 289 2 ["self", "p"] [] [] := by
  refine' Df.mk _ _ _ _ (fun _ => rfl) rfl rfl (fun _ => rfl) rfl (fun _ _ _ => q1d (all2 fun _ _ => rfl)) (fun _ => .nil) (by decide) (by decide) ?H
  case H =>
    intro u c uo ok fn hr hsc hcd hqu
    dsimp only at hsc hcd hqu
    repeat' with_reducible first
 | (refine (?_ : DX _ _ _ _); first
  | refine' q0x ?_
  | refine' q9a ‹_› ?_ (q0e ‹_› rfl) (q0e ‹_› rfl) (by row_cond s) (by row_cond t))
 | (refine (?_ : DE _ _ (.Call _ _ _ _) _); first
  | refine' j8q uo ‹_› (leq hr) (by row_cond k) ?_ rfl
  | refine' j3g uo ‹_› (leq hr) (by row_cond k) ?_ rfl)
 | (refine (?_ : DE _ _ _ _); first
  | refine' at_g uo (j6g uo) ?_ rfl (fun _ _ => rfl)
  | refine' at_g uo (j6f uo) ?_ rfl (fun _ _ => rfl)
  | refine' at_g uo (j6e uo) ?_ rfl (fun _ _ => rfl)
  | refine' at_g uo (j6d uo) ?_ rfl (fun _ _ => rfl)
  | refine' q0f ‹_› (by row_cond k) (by decide)
  | refine' q3l ?_)
 | exact q0w
 | refine' q0j ?_ ?_ rfl
 | exact q0i
 | refine' q0v ?_ ?_
 | intro _ _ _ _
theorem vector_ok : (uo : u.At) → CallOk u (.ref 289) 8 (q0g j3n) := W_vec.pure (by decide) (by decide) fun vs H v hH h => by
 obtain ⟨m, x, y, rfl, ⟨h1, h2, h3, h4⟩, h⟩ := oMp_s h
 cases h
 have at_ (n : String) (v : V) (h) := j0i (H := H) (C := 320) (name := Str.ofString n) (fs := m.fs) (v := v) h
 exact ⟨rfl, q0r hH [fv (at_ "a" (qv m.a) rfl), fr (j3r hH h1), fv (at_ "c" (qv m.c) rfl), fr (j3r hH h2), fr (plus_q hH (m.a * x) (m.c * y)), fv (at_ "b" (qv m.b) rfl), fr (j3r hH h3), fv (at_ "d" (qv m.d) rfl), fr (j3r hH h4), fr (plus_q hH (m.b * x) (m.d * y))] (by kernel_rfl) rfl⟩
noncomputable def rowV (vs : List V) : Option V := o1 vs fun m => oM m fun m => some (.tup m.l)
noncomputable def W_row : Df 2 282 1 ["self"] [] [] := by
  refine' Df.mk _ _ _ _ (fun _ => rfl) rfl rfl (fun _ => rfl) rfl (fun _ _ _ => q1d (all1 fun _ => rfl)) (fun _ => .nil) (by decide) (by decide) ?H
  case H =>
    intro u c uo ok fn hr hsc hcd hqu
    dsimp only at hsc hcd hqu
    repeat' with_reducible first
 | refine' q0x ?_
 | (refine (?_ : DE _ _ _ _); first
  | refine' at_g uo (j6g uo) ?_ rfl (fun _ _ => rfl)
  | refine' at_g uo (j6f uo) ?_ rfl (fun _ _ => rfl)
  | refine' at_g uo (j6e uo) ?_ rfl (fun _ _ => rfl)
  | refine' at_g uo (j6d uo) ?_ rfl (fun _ _ => rfl)
  | refine' at_g uo (j6c uo) ?_ rfl (fun _ _ => rfl)
  | refine' at_g uo (j6b uo) ?_ rfl (fun _ _ => rfl)
  | refine' q0f ‹_› (by row_cond k) (by decide)
  | refine' q3l ?_)
 | exact q0w
 | refine' q0j ?_ ?_ rfl
 | exact q0i
 | refine' q0v ?_ ?_
 | intro _ _ _ _
theorem row_ok : (uo : u.At) → CallOk u (.ref 282) 3 (q0g rowV) := W_row.pure (by decide) (by decide) fun vs H v hH h => by
 obtain ⟨_, rfl, h1⟩ := o1_s h
 obtain ⟨m, rfl, h2⟩ := oM_s h1
 cases h2
 have at_ (n : String) (v : V) (h) := j0i (H := H) (C := 320) (name := Str.ofString n) (fs := m.fs) (v := v) h
 exact ⟨rfl, q0r hH [fv (at_ "a" (qv m.a) rfl), fv (at_ "b" (qv m.b) rfl), fv (at_ "c" (qv m.c) rfl), fv (at_ "d" (qv m.d) rfl), fv (at_ "e" (qv m.e) rfl), fv (at_ "f" (qv m.f) rfl)] (by kernel_rfl) rfl⟩
theorem classK320 (uo : u.At) : ClassK u.K 320 275 := by rw [uo.K]; exact ⟨rfl, rfl, rfl, rfl⟩
theorem q2x (uo : u.At) (ok : c.Ok) (hr : 3 ≤ c.room) (hk : KLoc c "Matrix" .globalImplicit) (ha : DL u c es ds) (hn : q2a es c) : DE u c (.Call (.Name (Str.ofString "Matrix") np) es [] pos) (.make 320 j1m ds) :=
 se_make uo.ok ok (classK320 uo) (q9q uo) hr (by decide) (q1v uo.ok ok hk (uo.glob rfl) (fun _ => .val _) (by decide)) ha hn
section
variable {H : List AO}
theorem j2t (hH : H.all (q0b H.length) = true) (m : M6) : j7o 320 j1m m.l ⟨[], H⟩ = .ok (.obj H.length) ⟨[], H ++ [.ins 320 m.fs]⟩ := by
 have e : initMO (.obj H.length :: m.l) (H ++ [.ins 320 []]) = some (H.length, m.l) := by
   refine (q0l ⟨q1s hH rfl, rfl, rfl⟩).trans ?_
   rw [List.getElem?_concat_length]
   exact q0l (p := (320 : Addr) = 320) rfl
 have e2 : j1m (.obj H.length :: m.l) (H ++ [.ins 320 []]) = .ok .none ⟨[], H ++ [.ins 320 m.fs]⟩ := by
   unfold j1m
   rw [e]
   exact congrArg (fun x => Res.ok _ ⟨[], x⟩) q3d
 show okB (j1m (.obj H.length :: m.l) (H ++ [.ins 320 []])) _ = _
 rw [e2]; rfl
theorem q8m {b : D .f} {σ : St} {m : M6} (hH : H.all (q0b H.length) = true) (f : List Fact) (h : j2e (et b σ (f.map Fact.o) []) = some (.obj H.length, H ++ [.ins 320 m.fs], [], (f.map Fact.k).reverse)) : finR H.length (ev b σ) = .ok (mat m) ⟨[], H⟩ :=
 q2d hH f h (by
   refine (if_neg (Nat.lt_irrefl _)).trans ?_
   rw [List.getElem?_concat_length]
   rfl)
end
theorem j1d (uo : u.At) (ok : c.Ok) {o : Expr} {apos : Pos} {a : D .v} (hr : 8 ≤ c.room) (ho : DE u c o a) (ha : DL u c es ds) (hn : q2a es c)
   (he : ∃ pl, eval (.Call (.Attribute o (Str.ofString "vector") apos) es [] pos) c.env = (do
     let ov ← eval o c.env
     standAt apos.atName
     let (f, first) ← holding [ov] (getMethod ov (Str.ofString "vector") pl)
     callWith pos f first (backTo pos (starEach es c.env)) [])) :
   DE u c (.Call (.Attribute o (Str.ofString "vector") apos) es [] pos) (.meth 320 (Str.ofString "vector") (q0g j3n) a ds) :=
 q4s uo.ok ok (by rw [uo.K]; exact ⟨rfl, rfl, rfl⟩) (vector_ok uo) hr (uo.get rfl) rfl ho ha hn he
theorem j8l (uo : u.At) (ok : c.Ok) : q1e u c "turn_of" 9 (q0g turn1V) np pos es ds := q0o turn_of1_ok (fun _ => rfl) (fun _ => rfl) rfl (by decide) uo ok
noncomputable def pointV (vs : List V) : Option V := oMp vs fun m x y => some (qq (ptM m x y))
theorem q8w {H : List AO} (m : M6) (n : Str) (h : (m.fs.lookup n).isNone = true) : some (j4g 320 n H (mat m)) = some true := by
 show some (decide ((320 : Addr) = 320) && (m.fs.lookup n).isNone) = some true
 rw [h]; rfl
noncomputable def W_pt : Df 8 296 2 ["self", "p"] [] [] := by
  refine' Df.mk _ _ _ _ (fun _ => rfl) rfl rfl (fun _ => rfl) rfl (fun _ _ _ => q1d (all2 fun _ _ => rfl)) (fun _ => .nil) (by decide) (by decide) ?H
  case H =>
    intro u c uo ok fn hr hsc hcd hqu
    dsimp only at hsc hcd hqu
    repeat' with_reducible first
 | (refine (?_ : DX _ _ _ _); first
  | refine' q0x ?_
  | refine' q9a ‹_› ?_ (q0e ‹_› rfl) (q0e ‹_› rfl) (by row_cond s) (by row_cond t))
 | (refine (?_ : DE _ _ (.Call _ _ _ _) _); first
  | refine' j8q uo ‹_› (leq hr) (by row_cond k) ?_ rfl
  | refine' j1d uo ‹_› (leq hr) ?_ ?_ rfl ⟨_, rfl⟩)
 | (refine (?_ : DE _ _ _ _); first
  | refine' at_g uo (j6c uo) ?_ rfl (fun _ _ => rfl)
  | refine' at_g uo (j6b uo) ?_ rfl (fun _ _ => rfl)
  | refine' q0f ‹_› (by row_cond k) (by decide)
  | refine' q3l ?_)
 | exact q0w
 | refine' q0j ?_ ?_ rfl
 | exact q0i
 | refine' q0v ?_ ?_
 | intro _ _ _ _
theorem point_ok : (uo : u.At) → CallOk u (.ref 296) 9 (q0g pointV) := W_pt.pure (by decide) (by decide) fun vs H v hH h => by
 obtain ⟨m, x, y, rfl, h1, h⟩ := oMp_s h
 cases h
 have at_ (n : String) (v : V) (h) := j0i (H := H) (C := 320) (name := Str.ofString n) (fs := m.fs) (v := v) h
 exact ⟨rfl, q0r hH [fb (q8w (H := H) m (Str.ofString "vector") rfl), fr (q0d (g := j3n) hH (oMp_p h1)), fv (at_ "e" (qv m.e) rfl), fr (plus_q hH (vecM m x y).1 m.e), fv (at_ "f" (qv m.f) rfl), fr (plus_q hH (vecM m x y).2 m.f)] (by kernel_rfl) rfl⟩
theorem meth_point (uo : u.At) (ok : c.Ok) {o : Expr} {apos : Pos} {a : D .v} (hr : 9 ≤ c.room) (ho : DE u c o a) (ha : DL u c es ds) (hn : q2a es c)
   (he : ∃ pl, eval (.Call (.Attribute o (Str.ofString "point") apos) es [] pos) c.env = (do
     let ov ← eval o c.env
     standAt apos.atName
     let (f, first) ← holding [ov] (getMethod ov (Str.ofString "point") pl)
     callWith pos f first (backTo pos (starEach es c.env)) [])) :
   DE u c (.Call (.Attribute o (Str.ofString "point") apos) es [] pos) (.meth 320 (Str.ofString "point") (q0g pointV) a ds) :=
 q4s uo.ok ok (by rw [uo.K]; exact ⟨rfl, rfl, rfl⟩) (point_ok uo) hr (uo.get rfl) rfl ho ha hn he
noncomputable abbrev sm4 (m : M6) : Prop := small m.a = true ∧ small m.b = true ∧ small m.c = true ∧ small m.d = true
theorem sm4_ok {m : M6} (h : sm4 m) (x y : Int) : okV m x y := ⟨.inl h.1, .inl h.2.2.1, .inl h.2.1, .inl h.2.2.2⟩
noncomputable def j3s (m n : M6) : M6 := ⟨(vecM n m.a m.b).1, (vecM n m.a m.b).2, (vecM n m.c m.d).1, (vecM n m.c m.d).2, (ptM n m.e m.f).1, (ptM n m.e m.f).2⟩
noncomputable def thenV (vs : List V) : Option V := o2 vs fun m n => oM m fun m => oM n fun n => oIf (sm4 n) (some (mat (j3s m n)))
noncomputable def W_then : Df 9 303 2 ["self", "other"] [] [] := by
  refine' Df.mk _ _ _ _ (fun _ => rfl) rfl rfl (fun _ => rfl) rfl (fun _ _ _ => q1d (all2 fun _ _ => rfl)) (fun _ => .nil) (by decide) (by decide) ?H
  case H =>
    intro u c uo ok fn hr hsc hcd hqu
    dsimp only at hsc hcd hqu
    repeat' with_reducible first
 | (refine (?_ : DX _ _ _ _); first
  | refine' q0x ?_
  | refine' q9a ‹_› ?_ (q0e ‹_› rfl) (q0e ‹_› rfl) (by row_cond s) (by row_cond t))
 | (refine (?_ : DE _ _ (.Call _ _ _ _) _); first
  | refine' j1d uo ‹_› (leq hr) ?_ ?_ rfl ⟨_, rfl⟩
  | refine' q2x uo ‹_› (leq hr) (by row_cond k) ?_ rfl
  | refine' meth_point uo ‹_› (leq hr) ?_ ?_ rfl ⟨_, rfl⟩)
 | (refine (?_ : DE _ _ _ _); first
  | refine' at_g uo (j6g uo) ?_ rfl (fun _ _ => rfl)
  | refine' at_g uo (j6f uo) ?_ rfl (fun _ _ => rfl)
  | refine' at_g uo (j6e uo) ?_ rfl (fun _ _ => rfl)
  | refine' at_g uo (j6d uo) ?_ rfl (fun _ _ => rfl)
  | refine' at_g uo (j6c uo) ?_ rfl (fun _ _ => rfl)
  | refine' at_g uo (j6b uo) ?_ rfl (fun _ _ => rfl)
  | refine' q0f ‹_› (by row_cond k) (by decide)
  | refine' q3l ?_)
 | exact q0w
 | refine' q0j ?_ ?_ rfl
 | exact q0i
 | refine' q0v ?_ ?_
 | intro _ _ _ _
theorem then_ok : (uo : u.At) → CallOk u (.ref 303) 10 (q0g thenV) := W_then.pure (by decide) (by decide) fun vs H v hH h => by
 obtain ⟨_, _, rfl, h1⟩ := o2_s h
 obtain ⟨m, rfl, h2⟩ := oM_s h1
 obtain ⟨n, rfl, h3⟩ := oM_s h2
 obtain ⟨h4, h5⟩ := q0h h3
 cases h5
 have at_ (s : String) (v : V) (h) := j0i (H := H) (C := 320) (name := Str.ofString s) (fs := m.fs) (v := v) h
 have v (x y : Int) := q0d (g := j3n) hH (oMp_p (k := fun m x y => some (qq (vecM m x y))) (sm4_ok h4 x y))
 exact ⟨rfl, q8m (m := j3s m n) hH [fb (q8w (H := H) n (Str.ofString "vector") rfl), fv (at_ "a" (qv m.a) rfl), fv (at_ "b" (qv m.b) rfl), fr (v m.a m.b), fb (q8w (H := H) n (Str.ofString "vector") rfl), fv (at_ "c" (qv m.c) rfl), fv (at_ "d" (qv m.d) rfl), fr (v m.c m.d),
   fb (q8w (H := H) n (Str.ofString "point") rfl), fv (at_ "e" (qv m.e) rfl), fv (at_ "f" (qv m.f) rfl), fr (q0d (g := pointV) hH (oMp_p (k := fun m x y => some (qq (ptM m x y))) (sm4_ok h4 m.e m.f))), fr (j2t hH (j3s m n))] (by kernel_rfl)⟩
noncomputable def oqq {α : Type} (vs : List V) (k : Int → Int → Option α) : Option α := o2 vs fun x y => oq x fun x => oq y fun y => k x y
theorem oqq_s {α : Type} {vs : List V} {k : Int → Int → Option α} {z : α} (h : oqq vs k = some z) : ∃ x y, vs = [qv x, qv y] ∧ k x y = some z := by
 obtain ⟨_, _, rfl, h1⟩ := o2_s h
 obtain ⟨x, rfl, h2⟩ := oq_s h1
 obtain ⟨y, rfl, h3⟩ := oq_s h2
 exact ⟨x, y, rfl, h3⟩
noncomputable def j2m (vs : List V) : Option V := oqq vs fun x y => some (mat ⟨1, 0, 0, 1, x, y⟩)
noncomputable def W_trans : Df 4 331 2 ["x", "y"] [] [] := by
  refine' Df.mk _ _ _ _ (fun _ => rfl) rfl rfl (fun _ => rfl) rfl (fun _ _ _ => q1d (all2 fun _ _ => rfl)) (fun _ => .nil) (by decide) (by decide) ?H
  case H =>
    intro u c uo ok fn hr hsc hcd hqu
    dsimp only at hsc hcd hqu
    repeat' with_reducible first
 | refine' q0x ?_
 | refine' q2x uo ‹_› (leq hr) (by row_cond k) ?_ rfl
 | (refine (?_ : DE _ _ _ _); first
  | exact name_ONE uo ‹_› (by row_cond k)
  | exact q4l uo ‹_› (by row_cond k)
  | refine' q0f ‹_› (by row_cond k) (by decide))
 | exact q0w
 | refine' q0j ?_ ?_ rfl
 | exact q0i
 | refine' q0v ?_ ?_
 | intro _ _ _ _
theorem j2c : (uo : u.At) → CallOk u (.ref 331) 5 (q0g j2m) := W_trans.pure (by decide) (by decide) fun vs H v hH h => by
 obtain ⟨x, y, rfl, h⟩ := oqq_s h
 cases h
 exact ⟨rfl, q8m hH [fr (j2t hH ⟨1, 0, 0, 1, x, y⟩)] (by kernel_rfl)⟩
noncomputable def scaleV (vs : List V) : Option V := oqq vs fun x y => some (mat ⟨x, 0, 0, y, 0, 0⟩)
noncomputable def W_scale : Df 4 338 2 ["x", "y"] [] [] := by
  refine' Df.mk _ _ _ _ (fun _ => rfl) rfl rfl (fun _ => rfl) rfl (fun _ _ _ => q1d (all2 fun _ _ => rfl)) (fun _ => .nil) (by decide) (by decide) ?H
  case H =>
    intro u c uo ok fn hr hsc hcd hqu
    dsimp only at hsc hcd hqu
    repeat' with_reducible first
 | refine' q0x ?_
 | refine' q2x uo ‹_› (leq hr) (by row_cond k) ?_ rfl
 | (refine (?_ : DE _ _ _ _); first
  | exact q4l uo ‹_› (by row_cond k)
  | refine' q0f ‹_› (by row_cond k) (by decide))
 | exact q0w
 | refine' q0j ?_ ?_ rfl
 | exact q0i
 | refine' q0v ?_ ?_
 | intro _ _ _ _
theorem scaling_ok : (uo : u.At) → CallOk u (.ref 338) 5 (q0g scaleV) := W_scale.pure (by decide) (by decide) fun vs H v hH h => by
 obtain ⟨x, y, rfl, h⟩ := oqq_s h
 cases h
 exact ⟨rfl, q8m hH [fr (j2t hH ⟨x, 0, 0, y, 0, 0⟩)] (by kernel_rfl)⟩
noncomputable def cs (n : Int) : Int × Int := if n / 90 % 4 = 0 then (1, 0) else if n / 90 % 4 = 1 then (0, 1) else if n / 90 % 4 = 2 then (-1, 0) else (0, -1)
theorem cs_rot (n : Int) : rotN (n / 90 % 4).toNat ((1, 1), (0, 1)) = (((cs n).1, 1), ((cs n).2, 1)) ∧ (cs n = (1, 0) ∨ cs n = (0, 1) ∨ cs n = (-1, 0) ∨ cs n = (0, -1)) := by
 have h1 := Int.emod_nonneg (n / 90) (show (4 : Int) ≠ 0 by decide)
 have h2 := Int.emod_lt_of_pos (n / 90) (show (0 : Int) < 4 by decide)
 unfold cs
 generalize n / 90 % 4 = k at *
 obtain rfl | rfl | rfl | rfl : k = 0 ∨ k = 1 ∨ k = 2 ∨ k = 3 := by omega
 · exact ⟨rfl, .inl rfl⟩
 · exact ⟨rfl, .inr (.inl rfl)⟩
 · exact ⟨rfl, .inr (.inr (.inl rfl))⟩
 · exact ⟨rfl, .inr (.inr (.inr rfl))⟩
noncomputable def rotM (n : Int) : M6 := ⟨(cs n).1, (cs n).2, -(cs n).2, (cs n).1, 0, 0⟩
theorem turn_call {H : List AO} (hH : H.all (q0b H.length) = true) {n : Int} (h1 : n.natAbs < 100000) (h2 : n % 90 = 0) : q0g turn1V [qv n] H = .ok (qq (cs n)) ⟨[], H⟩ := q0d hH ((q0l ⟨rfl, h1⟩).trans (by
 unfold turn0
 rw [if_pos h2]
 show some (prV (rotN (n / 90 % 4).toNat ((1, 1), (0, 1)))) = _
 rw [(cs_rot n).1]
 rfl))
noncomputable def q7i (vs : List V) : Option V := o1 vs fun x => oq x fun n => oIf (n.natAbs < 100000 ∧ n % 90 = 0) (some (mat (rotM n)))
noncomputable def W_rot : Df 9 345 1 ["degrees"] [] [] := by
  refine' Df.mk _ _ _ _ (fun _ => rfl) rfl rfl (fun _ => rfl) rfl (fun _ _ _ => q1d (all1 fun _ => rfl)) (fun _ => .nil) (by decide) (by decide) ?H
  case H =>
    intro u c uo ok fn hr hsc hcd hqu
    dsimp only at hsc hcd hqu
    repeat' with_reducible first
 | (refine (?_ : DX _ _ _ _); first
  | refine' q0x ?_
  | refine' q9a ‹_› ?_ (q0e ‹_› rfl) (q0e ‹_› rfl) (by row_cond s) (by row_cond t))
 | (refine (?_ : DE _ _ (.Call _ _ _ _) _); first
  | refine' q6b uo ‹_› (leq hr) (by row_cond k) ?_ rfl
  | refine' q2x uo ‹_› (leq hr) (by row_cond k) ?_ rfl
  | refine' j8l uo ‹_› (leq hr) (by row_cond k) ?_ rfl)
 | (refine (?_ : DE _ _ _ _); first
  | exact q4l uo ‹_› (by row_cond k)
  | refine' q0f ‹_› (by row_cond k) (by decide))
 | exact q0w
 | refine' q0j ?_ ?_ rfl
 | exact q0i
 | refine' q0v ?_ ?_
 | intro _ _ _ _
theorem rotation_ok : (uo : u.At) → CallOk u (.ref 345) 10 (q0g q7i) := W_rot.pure (by decide) (by decide) fun vs H v hH h => by
 obtain ⟨_, rfl, h1⟩ := o1_s h
 obtain ⟨n, rfl, h2⟩ := oq_s h1
 obtain ⟨⟨h3, h4⟩, h5⟩ := q0h h2
 cases h5
 exact ⟨rfl, q8m hH [fr (turn_call hH h3 h4), fr (neg_q hH (cs n).2), fr (j2t hH (rotM n))] (by kernel_rfl)⟩
theorem meth_then (uo : u.At) (ok : c.Ok) {o : Expr} {apos : Pos} {a : D .v} (hr : 10 ≤ c.room) (ho : DE u c o a) (ha : DL u c es ds) (hn : q2a es c)
   (he : ∃ pl, eval (.Call (.Attribute o (Str.ofString "then") apos) es [] pos) c.env = (do
     let ov ← eval o c.env
     standAt apos.atName
     let (f, first) ← holding [ov] (getMethod ov (Str.ofString "then") pl)
     callWith pos f first (backTo pos (starEach es c.env)) [])) :
   DE u c (.Call (.Attribute o (Str.ofString "then") apos) es [] pos) (.meth 320 (Str.ofString "then") (q0g thenV) a ds) :=
 q4s uo.ok ok (by rw [uo.K]; exact ⟨rfl, rfl, rfl⟩) (then_ok uo) hr (uo.get rfl) rfl ho ha hn he
theorem q5f (uo : u.At) (ok : c.Ok) : q1e u c "translation" 5 (q0g j2m) np pos es ds := q0o j2c (fun _ => rfl) (fun _ => rfl) rfl (by decide) uo ok
theorem q8a (uo : u.At) (ok : c.Ok) : q1e u c "rotation" 10 (q0g q7i) np pos es ds := q0o rotation_ok (fun _ => rfl) (fun _ => rfl) rfl (by decide) uo ok
noncomputable def abM (n x y : Int) : M6 := ⟨(cs n).1, (cs n).2, -(cs n).2, (cs n).1, x - (cs n).1 * x + (cs n).2 * y, y - (cs n).2 * x - (cs n).1 * y⟩
noncomputable def aboutV (vs : List V) : Option V := o3 vs fun n x y => oq n fun n => oq x fun x => oq y fun y => oIf (n.natAbs < 100000 ∧ n % 90 = 0 ∧ small x = true ∧ small y = true) (some (mat (abM n x y)))
theorem j6o {H : List AO} (hH : H.all (q0b H.length) = true) (m n : M6) (h : sm4 n) : q0g thenV [mat m, mat n] H = .ok (mat (j3s m n)) ⟨[], H⟩ := q0d (g := thenV) hH (q0l h)
theorem ab_eq (n x y : Int) : j3s (j3s ⟨1, 0, 0, 1, -x, -y⟩ (rotM n)) ⟨1, 0, 0, 1, x, y⟩ = abM n x y := by
 unfold j3s abM rotM ptM vecM
 dsimp only
 generalize (cs n).1 = C
 generalize (cs n).2 = S
 simp only [Int.mul_one, Int.mul_zero, Int.zero_mul, Int.one_mul, Int.add_zero, Int.zero_add, Int.mul_neg, Int.neg_mul, Int.neg_neg]
 congr 1 <;> omega
noncomputable def W_ab : Df 10 352 3 ["degrees", "x", "y"] [] [] := by
  refine' Df.mk _ _ _ _ (fun _ => rfl) rfl rfl (fun _ => rfl) rfl (fun _ _ _ => q1d (all3 fun _ _ _ => rfl)) (fun _ => .nil) (by decide) (by decide) ?H
  case H =>
    intro u c uo ok fn hr hsc hcd hqu
    dsimp only at hsc hcd hqu
    repeat' with_reducible first
 | refine' q0x ?_
 | (refine (?_ : DE _ _ (.Call _ _ _ _) _); first
  | refine' q6b uo ‹_› (leq hr) (by row_cond k) ?_ rfl
  | refine' meth_then uo ‹_› (leq hr) ?_ ?_ rfl ⟨_, rfl⟩
  | refine' q5f uo ‹_› (leq hr) (by row_cond k) ?_ rfl
  | refine' q8a uo ‹_› (leq hr) (by row_cond k) ?_ rfl)
 | refine' q0f ‹_› (by row_cond k) (by decide)
 | exact q0w
 | refine' q0j ?_ ?_ rfl
 | exact q0i
 | refine' q0v ?_ ?_
 | intro _ _ _ _
theorem q8i : (uo : u.At) → CallOk u (.ref 352) 11 (q0g aboutV) := W_ab.pure (by decide) (by decide) fun vs H v hH h => by
 obtain ⟨_, _, _, rfl, h1⟩ := o3_s h
 obtain ⟨n, rfl, h2⟩ := oq_s h1
 obtain ⟨x, rfl, h3⟩ := oq_s h2
 obtain ⟨y, rfl, h4⟩ := oq_s h3
 obtain ⟨⟨g1, g2, g3, g4⟩, h5⟩ := q0h h4
 cases h5
 refine ⟨rfl, ?_⟩
 have hC : sm4 (rotM n) := by
   unfold rotM
   rcases (cs_rot n).2 with h | h | h | h <;> (rw [h]; decide)
 rw [← ab_eq]
 exact q0r hH [fr (neg_q hH x), fr (neg_q hH y), fr (q0d hH (show j2m [qv (-x), qv (-y)] = some (mat ⟨1, 0, 0, 1, -x, -y⟩) from rfl)), fb (q8w (H := H) ⟨1, 0, 0, 1, -x, -y⟩ (Str.ofString "then") rfl), fr (q0d hH (show q7i [qv n] = some (mat (rotM n)) from q0l ⟨g1, g2⟩)), fr (j6o hH ⟨1, 0, 0, 1, -x, -y⟩ (rotM n) hC),
   fb (q8w (H := H) (j3s ⟨1, 0, 0, 1, -x, -y⟩ (rotM n)) (Str.ofString "then") rfl), fr (q0d hH (show j2m [qv x, qv y] = some (mat ⟨1, 0, 0, 1, x, y⟩) from rfl)), fr (j6o hH (j3s ⟨1, 0, 0, 1, -x, -y⟩ (rotM n)) ⟨1, 0, 0, 1, x, y⟩ (by show sm4 ⟨1, 0, 0, 1, _, _⟩; exact ⟨rfl, rfl, rfl, rfl⟩))] (by kernel_rfl) rfl
end Mi
end
section
namespace Mi
variable {u : U} {c : Cx} {np pos : Pos} {es : List Expr} {ds : D .l}
theorem call_turn2 (uo : u.At) (ok : c.Ok) (hr : 9 ≤ c.room) (hk : KLoc c "turn_of" .globalImplicit) (ha : DL u c es ds) (hn : q2a es c) : DE u c (.Call (.Name (Str.ofString "turn_of") np) es [] pos) (.call (q0g turnV) ds) :=
 se_fn uo.ok ok (turn_of_ok uo) hr (q1v uo.ok ok hk (uo.glob rfl) (fun _ => .val _) (by decide)) (uo.get rfl) rfl ha hn
noncomputable def tanK (z : Bool) (k : Int) : Option Int := bif z then (if k % 2 = 0 then some 0 else none) else if k % 2 = 0 then some 1 else some (-1)
noncomputable def tanS (n : Int) : Option Int := tanK (decide (n % 90 = 0)) (n / 90 % 4)
noncomputable def tanM : List Nat := q0a "a right angle has no tangent"
noncomputable def oX {α : Type} (o : Option α) (m : Addr × V) (k : α → V) : V ⊕ (Addr × V) := Option.casesOn o (.inr m) fun x => .inl (k x)
noncomputable abbrev angle (n : Int) : Prop := n.natAbs < 100000 ∧ (n % 90 = 0 ∨ n % 90 = 45)
noncomputable def tanX (vs : List V) : Option (V ⊕ (Addr × V)) := o1 vs fun x => oq x fun n => oIf (angle n) (some (oX (tanS n) (51, .str tanM) qv))
structure Tn (c1 c2 s1 s2 t : Int) : Prop where
 nz : c1 ≠ 0
 ex : ∃ a b d e g : Int, j0h [.tup [.int s1, .int s2], .tup [.int c1, .int c2]] = some (.tup [.int a, .int b]) ∧ timesV [.tup [.int a, .int b], .tup [.int 65536, .int 1]] = some (.tup [.int d, .int e]) ∧ q9y [.tup [.int d, .int e]] = some (.int g) ∧ j2g [.int g, .int 65536] = some (qv t)
noncomputable def base0 (z : Bool) : Pr := bif z then ((1, 1), (0, 1)) else ((759250125, 1073741824), (759250125, 1073741824))
noncomputable def TanC (p : Pr) (o : Option Int) : Prop := (p.1.1 = 0 ∧ o = none) ∨ ∃ t, o = some t ∧ Tn p.1.1 p.1.2 p.2.1 p.2.2 t
theorem tan_k (z : Bool) {k : Int} (h : k = 0 ∨ k = 1 ∨ k = 2 ∨ k = 3) : TanC (rotN k.toNat (base0 z)) (tanK z k) := by
 rcases h with rfl | rfl | rfl | rfl <;> cases z
 · exact .inr ⟨1, rfl, by decide, 1, 1, 65536, 1, 65536, (by kernel_rfl), (by kernel_rfl), (by kernel_rfl), (by kernel_rfl)⟩
 · exact .inr ⟨0, rfl, by decide, 0, 1, 0, 1, 0, (by kernel_rfl), (by kernel_rfl), (by kernel_rfl), (by kernel_rfl)⟩
 · exact .inr ⟨-1, rfl, by decide, -1, 1, -65536, 1, -65536, (by kernel_rfl), (by kernel_rfl), (by kernel_rfl), (by kernel_rfl)⟩
 · exact .inl ⟨rfl, rfl⟩
 · exact .inr ⟨1, rfl, by decide, 1, 1, 65536, 1, 65536, (by kernel_rfl), (by kernel_rfl), (by kernel_rfl), (by kernel_rfl)⟩
 · exact .inr ⟨0, rfl, by decide, 0, 1, 0, 1, 0, (by kernel_rfl), (by kernel_rfl), (by kernel_rfl), (by kernel_rfl)⟩
 · exact .inr ⟨-1, rfl, by decide, -1, 1, -65536, 1, -65536, (by kernel_rfl), (by kernel_rfl), (by kernel_rfl), (by kernel_rfl)⟩
 · exact .inl ⟨rfl, rfl⟩
theorem q4 (x : Int) : x % 4 = 0 ∨ x % 4 = 1 ∨ x % 4 = 2 ∨ x % 4 = 3 := by omega
noncomputable def W_tan : Df 9 261 1 ["degrees", "bottom"] [.int 65536 528] [.int 65536] := by
  refine' Df.mk _ _ _ _ (fun _ => rfl) rfl rfl (fun _ => rfl) rfl (fun uo _ hs => all1 fun _ => BindsTo.of_defaults rfl (hs _ _ (uo.get rfl)) rfl rfl rfl) (fun _ => .cons (.int _ _) .nil) (by decide) (by decide) ?H
  case H =>
    intro u c uo ok fn hr hsc hcd hqu
    dsimp only at hsc hcd hqu
    repeat' with_reducible first
 | (refine (?_ : DX _ _ _ _); first
  | refine' q0x ?_
  | refine' q3z ?_ ?_ ?_
  | refine' q3f ‹_› ?_ (by row_cond k) (by row_cond s)
  | refine' q9a ‹_› ?_ (q0e ‹_› rfl) (q0e ‹_› rfl) (by row_cond s) (by row_cond t)
  | refine' q5w ‹_› ‹_› (leq hr) (by row_cond k) ?_ rfl)
 | (refine (?_ : DE _ _ (.Call _ _ _ _) _); first
  | refine' q9h uo ‹_› (leq hr) (by row_cond k) ?_ rfl
  | refine' q1q uo ‹_› (leq hr) (by row_cond k) ?_ rfl
  | refine' q9f uo ‹_› (leq hr) (by row_cond k) ?_ rfl
  | refine' j3g uo ‹_› (leq hr) (by row_cond k) ?_ rfl
  | refine' call_turn2 uo ‹_› (leq hr) (by row_cond k) ?_ rfl)
 | (refine (?_ : DE _ _ _ _); first
  | exact j7j uo ‹_› (by row_cond k)
  | refine' q0f ‹_› (by row_cond k) (by decide)
  | exact q1l
  | exact q3y
  | refine' q2g ?_ ?_
  | refine' q3l ?_
  | refine' q1x ?_ ?_ (fun _ _ => rfl))
 | refine' q2z ‹_› ?_ ?_ rfl
 | exact q0w
 | refine' q0j ?_ ?_ rfl
 | exact q0i
 | refine' q0v ?_ ?_
 | intro _ _ _ _
theorem j2d : (uo : u.At) → CallOk u (.ref 261) 10 (xF tanX) := W_tan.x (by decide) (by decide) fun vs H v hH h => by
 obtain ⟨_, rfl, h1⟩ := o1_s h
 obtain ⟨n, rfl, h2⟩ := oq_s h1
 obtain ⟨⟨h3, h4⟩, h5⟩ := q0h h2
 cases h5
 refine ⟨rfl, ?_⟩
 have hC := tan_k (decide (n % 90 = 0)) (q4 (n / 90))
 have t0 : turnV [qv n, .int 4294967296] = some (prV (rotN (n / 90 % 4).toNat (base0 (decide (n % 90 = 0))))) := by
   refine (q0l ⟨rfl, h3⟩).trans ?_
   unfold turn0
   by_cases hz : n % 90 = 0
   · rw [if_pos hz, decide_eq_true hz]; rfl
   · rw [if_neg hz, if_pos ⟨h4.resolve_left hz, rfl⟩, decide_eq_false hz]; rfl
 unfold tanS
 generalize tanK (decide (n % 90 = 0)) (n / 90 % 4) = o at *
 generalize rotN (n / 90 % 4).toNat (base0 (decide (n % 90 = 0))) = p at *
 have m1 : bin H .Mult (.int 65536) (.int 65536) = some (.int 4294967296) := (by kernel_rfl)
 obtain ⟨⟨c1, c2⟩, ⟨s1, s2⟩⟩ := p
 rcases hC with ⟨hc, rfl⟩ | ⟨t, rfl, hn, a, b, d, e, g, q1, q2, q3, q4⟩
 · exact q7s hH [fv m1, fr (q0d hH t0), fT q0t hc] (by kernel_rfl) rfl
 · exact q0r hH [fv m1, fr (q0d hH t0), fN q0t hn, fr (q0d hH q1), fr (q0d hH q2), fr (q0d hH q3), fr (q0d hH q4)] (by kernel_rfl) rfl
theorem j1s (uo : u.At) (ok : c.Ok) : q1e u c "tangent_of" 10 (xF tanX) np pos es ds := q0o j2d (fun _ => rfl) (fun _ => rfl) rfl (by decide) uo ok
theorem q6y (uo : u.At) (ok : c.Ok) : q1e u c "rotation_about" 11 (q0g aboutV) np pos es ds := q0o q8i (fun _ => rfl) (fun _ => rfl) rfl (by decide) uo ok
theorem j8p (uo : u.At) (ok : c.Ok) : q1e u c "scaling" 5 (q0g scaleV) np pos es ds := q0o scaling_ok (fun _ => rfl) (fun _ => rfl) rfl (by decide) uo ok
noncomputable def skM (x y : Int) : Option M6 := (tanS y).bind fun ty => (tanS x).map fun tx => ⟨1, ty, tx, 1, 0, 0⟩
noncomputable def j6v (vs : List V) : Option (V ⊕ (Addr × V)) := oqq vs fun x y => oIf (angle x ∧ angle y) (some (oX (skM x y) (51, .str tanM) mat))
theorem q7g {H : List AO} {o : Option Int} {n : Int} (hH : H.all (q0b H.length) = true) (h : angle n) (ho : tanS n = o) : xF tanX [qv n] H = xR H (oX o (51, .str tanM) qv) := ho ▸ q6k (g := tanX) hH (show tanX [qv n] = some (oX (tanS n) (51, .str tanM) qv) from q0l h)
noncomputable def W_skw : Df 10 359 2 ["x_degrees", "y_degrees"] [] [] := by
  refine' Df.mk _ _ _ _ (fun _ => rfl) rfl rfl (fun _ => rfl) rfl (fun _ _ _ => q1d (all2 fun _ _ => rfl)) (fun _ => .nil) (by decide) (by decide) ?H
  case H =>
    intro u c uo ok fn hr hsc hcd hqu
    dsimp only at hsc hcd hqu
    repeat' with_reducible first
 | refine' q0x ?_
 | (refine (?_ : DE _ _ (.Call _ _ _ _) _); first
  | refine' j1s uo ‹_› (leq hr) (by row_cond k) ?_ rfl
  | refine' q2x uo ‹_› (leq hr) (by row_cond k) ?_ rfl)
 | (refine (?_ : DE _ _ _ _); first
  | exact name_ONE uo ‹_› (by row_cond k)
  | exact q4l uo ‹_› (by row_cond k)
  | refine' q0f ‹_› (by row_cond k) (by decide))
 | exact q0w
 | refine' q0j ?_ ?_ rfl
 | exact q0i
 | refine' q0v ?_ ?_
 | intro _ _ _ _
theorem skewing_ok : (uo : u.At) → CallOk u (.ref 359) 11 (xF j6v) := W_skw.x (by decide) (by decide) fun vs H v hH h => by
 obtain ⟨x, y, rfl, h1⟩ := oqq_s h
 obtain ⟨⟨h2, h3⟩, h4⟩ := q0h h1
 cases h4
 refine ⟨rfl, ?_⟩
 unfold skM
 cases hy : tanS y with
 | none => exact q7s hH [fr (q7g hH h3 hy)] (by kernel_rfl) rfl
 | some b =>
   cases hx : tanS x with
   | none => exact q7s hH [fr (q7g hH h3 hy), fr (q7g hH h2 hx)] (by kernel_rfl) rfl
   | some a => exact q8m (m := ⟨1, b, a, 1, 0, 0⟩) hH [fr (q7g hH h3 hy), fr (q7g hH h2 hx), fr (j2t hH ⟨1, b, a, 1, 0, 0⟩)] (by kernel_rfl)
theorem j8m (uo : u.At) (ok : c.Ok) : q1e u c "skewing" 11 (xF j6v) np pos es ds := q0o skewing_ok (fun _ => rfl) (fun _ => rfl) rfl (by decide) uo ok
noncomputable def skO (nm : List Nat) (n : Int) : Option M6 := (tanS n).map fun t => if nm = q0a "skewX" then ⟨1, 0, t, 1, 0, 0⟩ else ⟨1, t, 0, 1, 0, 0⟩
noncomputable def skewOfX (vs : List V) : Option (V ⊕ (Addr × V)) := o2 vs fun x y => oS x fun nm => oq y fun n => oIf (angle n) (some (oX (skO nm n) (63, .str tanM) mat))
theorem sk_call {H : List AO} {o : Option M6} {x y : Int} (hH : H.all (q0b H.length) = true) (h1 : angle x) (h2 : angle y) (ho : skM x y = o) : xF j6v [qv x, qv y] H = xR H (oX o (51, .str tanM) mat) := ho ▸ q6k (g := j6v) hH (show j6v [qv x, qv y] = some (oX (skM x y) (51, .str tanM) mat) from q0l ⟨h1, h2⟩)
noncomputable def W_sko : Df 11 408 2 ["name", "degrees"] [] [] := by
  refine' Df.mk _ _ _ _ (fun _ => rfl) rfl rfl (fun _ => rfl) rfl (fun _ _ _ => q1d (all2 fun _ _ => rfl)) (fun _ => .nil) (by decide) (by decide) ?H
  case H =>
    intro u c uo ok fn hr hsc hcd hqu
    dsimp only at hsc hcd hqu
    repeat' with_reducible first
 | (refine (?_ : DX _ _ _ _); first
  | refine' d_try51 ‹_› ‹_› ‹_› (leq hr) ?_ (by row_cond k) (by row_cond k) (by row_cond k) rfl rfl
  | refine' q0x ?_)
 | refine' j8m uo ‹_› (leq hr) (by row_cond k) ?_ rfl
 | (refine (?_ : DE _ _ _ _); first
  | exact q4l uo ‹_› (by row_cond k)
  | refine' q0f ‹_› (by row_cond k) (by decide)
  | exact q3y
  | refine' j5q ?_ ?_ ?_)
 | refine' q2z ‹_› ?_ ?_ rfl
 | exact q0w
 | refine' q0j ?_ ?_ rfl
 | exact q0i
 | refine' q0v ?_ ?_
 | intro _ _ _ _
theorem skew_of_ok : (uo : u.At) → CallOk u (.ref 408) 12 (xF skewOfX) := W_sko.x (by decide) (by decide) fun vs H v hH h => by
 obtain ⟨_, _, rfl, h1⟩ := o2_s h
 obtain ⟨nm, rfl, h2⟩ := oS_s h1
 obtain ⟨n, rfl, h3⟩ := oq_s h2
 obtain ⟨h4, h5⟩ := q0h h3
 cases h5
 refine ⟨rfl, ?_⟩
 have a0 : angle 0 := by decide
 have z : tanS 0 = some 0 := rfl
 unfold skO
 by_cases hn : nm = q0a "skewX"
 · have c := sk_call (o := (tanS n).map fun t => ⟨1, 0, t, 1, 0, 0⟩) hH h4 a0 (by unfold skM; rw [z]; rfl)
   cases ht : tanS n with
   | none =>
     rw [ht] at c
     exact q7s hH [fT q0c hn, fr c] (by kernel_rfl) rfl
   | some t =>
     rw [ht] at c
     show _ = Res.ok (mat (if nm = q0a "skewX" then _ else _)) ⟨[], H⟩
     rw [if_pos hn]
     exact q0r (v := mat ⟨1, 0, t, 1, 0, 0⟩) hH [fT q0c hn, fr c] (by kernel_rfl) rfl
 · have c := sk_call (o := (tanS n).map fun t => ⟨1, t, 0, 1, 0, 0⟩) hH a0 h4 (by unfold skM; rw [z]; cases tanS n <;> rfl)
   cases ht : tanS n with
   | none =>
     rw [ht] at c
     exact q7s hH [fN q0c hn, fr c] (by kernel_rfl) rfl
   | some t =>
     rw [ht] at c
     show _ = Res.ok (mat (if nm = q0a "skewX" then _ else _)) ⟨[], H⟩
     rw [if_neg hn]
     exact q0r (v := mat ⟨1, t, 0, 1, 0, 0⟩) hH [fN q0c hn, fr c] (by kernel_rfl) rfl
noncomputable def wholeQ (vs : List V) : Option V := o1 vs fun x => oI x fun n => some (qv n)
noncomputable def W_whole : Df 1 489 1 ["number"] [] [] := by
  refine' Df.mk _ _ _ _ (fun _ => rfl) rfl rfl (fun _ => rfl) rfl (fun _ _ _ => q1d (all1 fun _ => rfl)) (fun _ => .nil) (by decide) (by decide) ?H
  case H =>
    intro u c uo ok fn hr hsc hcd hqu
    dsimp only at hsc hcd hqu
    repeat' with_reducible first
 | refine' q0x ?_
 | (refine (?_ : DE _ _ _ _); first
  | refine' q0f ‹_› (by row_cond k) (by decide)
  | exact q1l
  | refine' q3l ?_)
 | exact q0w
 | refine' q0j ?_ ?_ rfl
 | exact q0i
 | refine' q0v ?_ ?_
 | intro _ _ _ _
theorem j7q : (uo : u.At) → CallOk u (.ref 489) 2 (q0g wholeQ) := W_whole.pure (by decide) (by decide) fun vs H v hH h => by
 obtain ⟨_, rfl, h1⟩ := o1_s h
 obtain ⟨n, rfl, h2⟩ := oI_s h1
 cases h2
 exact ⟨rfl, q0r hH [] (by kernel_rfl) rfl⟩
theorem j8n (uo : u.At) (ok : c.Ok) : q1e u c "skew_of" 12 (xF skewOfX) np pos es ds := q0o skew_of_ok (fun _ => rfl) (fun _ => rfl) rfl (by decide) uo ok
noncomputable abbrev g (ns : List Int) (i : Nat) : Int := ns.getD i 0
noncomputable def rows (nm : List Nat) (ns : List Int) : Option M6 :=
 if nm = q0a "matrix" ∧ ns.length = 6 then some ⟨g ns 0, g ns 1, g ns 2, g ns 3, g ns 4, g ns 5⟩ else
 if nm = q0a "translate" ∧ (ns.length = 1 ∨ ns.length = 2) then some ⟨1, 0, 0, 1, g ns 0, g ns 1⟩ else
 if nm = q0a "scale" ∧ (ns.length = 1 ∨ ns.length = 2) then some ⟨g ns 0, 0, 0, g ns (ns.length - 1), 0, 0⟩ else
 if nm = q0a "rotate" ∧ ns.length = 1 then some (rotM (g ns 0)) else
 if nm = q0a "rotate" ∧ ns.length = 3 then some (abM (g ns 0) (g ns 1) (g ns 2)) else
 if (nm = q0a "skewX" ∨ nm = q0a "skewY") ∧ ns.length = 1 then skO nm (g ns 0) else none
noncomputable def moMsg (nm : List Nat) (ns : List Int) : List Nat := if (nm = q0a "skewX" ∨ nm = q0a "skewY") ∧ ns.length = 1 then tanM else q0a "no transform: " ++ nm
noncomputable def moR (nm : List Nat) (ns : List Int) : V ⊕ (Addr × V) := oX (rows nm ns) (63, .str (moMsg nm ns)) mat
noncomputable abbrev Dom (nm : List Nat) (ns : List Int) : Prop := (∀ n ∈ ns, n.natAbs < 100000) ∧ (nm = q0a "rotate" → g ns 0 % 90 = 0) ∧ (nm = q0a "skewX" ∨ nm = q0a "skewY" → g ns 0 % 90 = 0 ∨ g ns 0 % 90 = 45) ∧ q1a nm = true ∧ nm.length ≤ 100 ∧ ns.length ≤ 100
noncomputable def moX (vs : List V) : Option (V ⊕ (Addr × V)) := o2 vs fun x y => oS x fun nm => oL y fun L => (mapO (fun v => oq v some) L).bind fun ns => oIf (Dom nm ns) (some (moR nm ns))
theorem qs_eq {L : List V} : ∀ {ns : List Int}, mapO (fun v => oq v some) L = some ns → L = ns.map qv := by
 induction L with
 | nil => intro ns h; cases Option.some.inj h; rfl
 | cons v L ih =>
   intro ns h
   obtain ⟨b, r, h1, h2, rfl⟩ := q5r h
   obtain ⟨n, rfl, h3⟩ := oq_s h1
   cases Option.some.inj h3
   rw [ih h2]; rfl
theorem qs_map (ns : List Int) : mapO (fun v => oq v some) (ns.map qv) = some ns := (q4x (l := ns) (f := fun v => oq v some) (g := qv) (h := fun n => n) fun _ _ => rfl).trans (by rw [List.map_id'])
theorem mo_ok {nm : List Nat} {ns : List Int} (h : Dom nm ns) : moX [.str nm, .lst (ns.map qv)] = some (moR nm ns) := by
 show (mapO (fun v => oq v some) (ns.map qv)).bind _ = _
 rw [qs_map]
 exact q0l h
theorem in_12 (m : Int) : cmp .In (.int m) (.tup [.int 1, .int 2]) = some (decide (m = 1 ∨ m = 2)) := by
 show some ((PyData.eqv (.int 1) (.int m)) || ((PyData.eqv (.int 2) (.int m)) || false)) = _
 refine congrArg some (Bool.eq_iff_iff.mpr ?_)
 simp only [PyData.eqv, Bool.or_false, Bool.or_eq_true, beq_iff_eq, decide_eq_true_eq]
 exact ⟨Or.imp Eq.symm Eq.symm, Or.imp Eq.symm Eq.symm⟩
theorem in_tup2 {l a b : List Nat} (h : q1a l = true) (ha : q1a a = true) (hb : q1a b = true) : cmp .In (.str l) (.tup [.str a, .str b]) = some (decide (l = a ∨ l = b)) := by
 show inL (.str l) _ = _
 unfold inL
 rw [q4q h, show mapO (toPy 5) [V.str a, V.str b] = some [.str ⟨a.toArray⟩, .str ⟨b.toArray⟩] by show (toPy 5 _).bind _ = _; rw [q4q ha]; show ((toPy 5 _).bind _).map _ = _; rw [q4q hb]; rfl]
 refine congrArg some (Bool.eq_iff_iff.mpr ?_)
 simp only [List.any_cons, List.any_nil, PyData.eqv, Bool.or_false, Bool.or_eq_true, beq_iff_eq, Str.mk.injEq, decide_eq_true_eq]
 exact ⟨Or.imp (fun q => (Array.toList_inj.mpr q).symm) (fun q => (Array.toList_inj.mpr q).symm), Or.imp (fun q => by rw [q]) fun q => by rw [q]⟩
theorem g_at {ns : List Int} {i : Nat} (f : Int → V) (h : i < ns.length) : (ns.map f)[i]? = some (f (g ns i)) := by
 rw [List.getElem?_map, List.getElem?_eq_getElem h]
 exact congrArg (fun x => some (f x)) (List.getElem_eq_getD 0)
theorem item_g {H : List AO} {ns : List Int} {i : Nat} (f : Int → V) (hl : ns.length ≤ 100) (h : i < ns.length) : q5a H (.lst (ns.map f)) (.int (i : Int)) = some (f (g ns i)) :=
 j4z (by rw [List.length_map]; exact Nat.le_trans hl (by decide)) (Int.natCast_nonneg i) (g_at f h)
theorem item_m1 {H : List AO} {ns : List Int} (f : Int → V) (hl : ns.length ≤ 100) (h : 0 < ns.length) : q5a H (.lst (ns.map f)) (.int (-1)) = some (f (g ns (ns.length - 1))) := by
 show ixOf (-1) (ns.map f) = _
 unfold ixOf seqIndex?
 rw [q0l (by decide), List.length_map, show (if (-1 : Int) < 0 then -1 + (ns.length : Int) else -1) = ((ns.length - 1 : Nat) : Int) by rw [if_pos (by decide)]; omega]
 dsimp only
 rw [if_pos (q3w (decide_eq_true (Int.natCast_nonneg _)) (decide_eq_true (by omega)))]
 exact g_at f (Nat.sub_lt h Nat.zero_lt_one)
noncomputable def W_mo : Df 12 401 2 ["name", "numbers"] [] [] := by
  refine' Df.mk _ _ _ _ (fun _ => rfl) rfl rfl (fun _ => rfl) rfl (fun _ _ _ => q1d (all2 fun _ _ => rfl)) (fun _ => .nil) (by decide) (by decide) ?H
  case H =>
    intro u c uo ok fn hr hsc hcd hqu
    dsimp only at hsc hcd hqu
    repeat' with_reducible first
 | (refine (?_ : DX _ _ _ _); first
  | refine' q0x ?_
  | refine' q3z ?_ ?_ ?_
  | refine' q3f ‹_› ?_ (by row_cond k) (by row_cond s)
  | refine' j1q ‹_› ‹_› (leq hr) (by row_cond k) ?_ rfl)
 | (refine (?_ : DE _ _ (.Call _ _ _ _) _); first
  | refine' q2x uo ‹_› (leq hr) (by row_cond k) ?_ rfl
  | refine' q5f uo ‹_› (leq hr) (by row_cond k) ?_ rfl
  | refine' j8p uo ‹_› (leq hr) (by row_cond k) ?_ rfl
  | refine' q8a uo ‹_› (leq hr) (by row_cond k) ?_ rfl
  | refine' q6y uo ‹_› (leq hr) (by row_cond k) ?_ rfl
  | refine' j8n uo ‹_› (leq hr) (by row_cond k) ?_ rfl
  | refine' q5i (q1h ‹_› ‹_› (by row_cond k)) ?_ rfl)
 | (refine (?_ : DE _ _ _ _); first
  | exact q4l uo ‹_› (by row_cond k)
  | refine' q0f ‹_› (by row_cond k) (by decide)
  | exact q1l
  | exact q3y
  | refine' d_un ?_
  | refine' q2g ?_ ?_
  | refine' j5q ?_ ?_ ?_
  | refine' q3l ?_
  | refine' q1x ?_ ?_ (fun _ _ => rfl))
 | refine' q2z ‹_› ?_ ?_ rfl
 | refine' q3s ?_
 | exact q0w
 | refine' q0j ?_ ?_ rfl
 | exact q0i
 | refine' q0v ?_ ?_
 | exact d_tsA
 | refine' j3c ?_ ?_
 | intro _ _ _ _
theorem g_out {ns : List Int} {i : Nat} (h : ns.length ≤ i) : g ns i = 0 := by
 show (ns[i]?).getD 0 = 0
 rw [List.getElem?_eq_none h]; rfl
theorem g_mem {ns : List Int} {i : Nat} (h : i < ns.length) : g ns i ∈ ns := by
 rw [show g ns i = ns[i] from (List.getElem_eq_getD 0).symm]
 exact List.getElem_mem h
theorem zeq {a b : Nat} (h : a = b) : (a : Int) = b := congrArg _ h
theorem z12 {a : Nat} : ((a : Int) = 1 ∨ (a : Int) = 2) ↔ (a = 1 ∨ a = 2) := ⟨Or.imp Int.ofNat_inj.mp Int.ofNat_inj.mp, Or.imp zeq zeq⟩
theorem j6u {n : Int} (h : n.natAbs < 100000) : small n = true := decide_eq_true (Nat.lt_trans h (by decide))
theorem j7n : (uo : u.At) → CallOk u (.ref 401) 13 (xF moX) := W_mo.x (by decide) (by decide) fun vs H v hH h => by
 obtain ⟨_, _, rfl, h1⟩ := o2_s h
 obtain ⟨nm, rfl, h2⟩ := oS_s h1
 obtain ⟨L, rfl, h3⟩ := oL_s h2
 obtain ⟨ns, hns, h4⟩ := bd_s h3
 obtain ⟨⟨hsm, hrot, hsk, hasc, hlen, hl⟩, h5⟩ := q0h h4
 cases h5
 cases qs_eq hns
 clear h h1 h2 h3 h4 hns
 refine ⟨rfl, ?_⟩
 have e1 : lenV H [.lst (ns.map qv)] = some (.int ns.length) := (j4y (by rw [List.length_map]; exact Nat.le_trans hl (by decide))).trans (by rw [List.length_map])
 have it (i : Nat) (h : i < ns.length) := item_g (H := H) qv hl h
 have ge (i : Nat) (h : i < ns.length) := hsm _ (g_mem h)
 refine ft ⟨[("name", .str nm), ("numbers", .lst (ns.map qv)), ("many", .int ns.length)], H⟩ [fv e1] (by kernel_rfl) ?_
 unfold moR rows
 by_cases c : nm = q0a "matrix" ∧ ns.length = 6
 · rw [if_pos c]
   exact q8m (m := ⟨g ns 0, g ns 1, g ns 2, g ns 3, g ns 4, g ns 5⟩) hH [fT q0c c.1, fT q0t (zeq c.2), fv (it 0 (by omega)), fv (it 1 (by omega)), fv (it 2 (by omega)), fv (it 3 (by omega)), fv (it 4 (by omega)), fv (it 5 (by omega)), fr (j2t hH ⟨g ns 0, g ns 1, g ns 2, g ns 3, g ns 4, g ns 5⟩)] (by kernel_rfl)
 rw [if_neg c]
 refine fq (σ1 := ⟨[("name", .str nm), ("numbers", .lst (ns.map qv)), ("many", .int ns.length)], H⟩) ?_ ?_
 · by_cases n1 : nm = q0a "matrix"
   · exact q1j [fT q0c n1, fN q0t (zne fun l => c ⟨n1, l⟩)] (by kernel_rfl)
   · exact q1j [fN q0c n1] (by kernel_rfl)
 clear c
 by_cases c : nm = q0a "translate" ∧ (ns.length = 1 ∨ ns.length = 2)
 · rw [if_pos c]
   by_cases l2 : ns.length = 2
   · exact q0r (v := mat ⟨1, 0, 0, 1, g ns 0, g ns 1⟩) hH [fT q0c c.1, fT (in_12 ns.length) (z12.mpr c.2), fv (it 0 (by omega)), fT q0t (zeq l2), fv (it 1 (by omega)), fr (q0d hH (show j2m [qv (g ns 0), qv (g ns 1)] = some (mat ⟨1, 0, 0, 1, g ns 0, g ns 1⟩) from rfl))] (by kernel_rfl) rfl
   · rw [show g ns 1 = 0 from g_out (by omega)]
     exact q0r (v := mat ⟨1, 0, 0, 1, g ns 0, 0⟩) hH [fT q0c c.1, fT (in_12 ns.length) (z12.mpr c.2), fv (it 0 (by omega)), fN q0t (zne l2), fr (q0d hH (show j2m [qv (g ns 0), qv 0] = some (mat ⟨1, 0, 0, 1, g ns 0, 0⟩) from rfl))] (by kernel_rfl) rfl
 rw [if_neg c]
 refine fq (σ1 := ⟨[("name", .str nm), ("numbers", .lst (ns.map qv)), ("many", .int ns.length)], H⟩) ?_ ?_
 · by_cases n1 : nm = q0a "translate"
   · exact q1j [fT q0c n1, fN (in_12 ns.length) (mt z12.mp fun l => c ⟨n1, l⟩)] (by kernel_rfl)
   · exact q1j [fN q0c n1] (by kernel_rfl)
 clear c
 by_cases c : nm = q0a "scale" ∧ (ns.length = 1 ∨ ns.length = 2)
 · rw [if_pos c]
   exact q0r (v := mat ⟨g ns 0, 0, 0, g ns (ns.length - 1), 0, 0⟩) hH [fT q0c c.1, fT (in_12 ns.length) (z12.mpr c.2), fv (it 0 (by omega)), fv (item_m1 (H := H) qv hl (by omega)), fr (q0d hH (show scaleV [qv (g ns 0), qv (g ns (ns.length - 1))] = some (mat ⟨g ns 0, 0, 0, g ns (ns.length - 1), 0, 0⟩) from rfl))] (by kernel_rfl) rfl
 rw [if_neg c]
 refine fq (σ1 := ⟨[("name", .str nm), ("numbers", .lst (ns.map qv)), ("many", .int ns.length)], H⟩) ?_ ?_
 · by_cases n1 : nm = q0a "scale"
   · exact q1j [fT q0c n1, fN (in_12 ns.length) (mt z12.mp fun l => c ⟨n1, l⟩)] (by kernel_rfl)
   · exact q1j [fN q0c n1] (by kernel_rfl)
 clear c
 by_cases c : nm = q0a "rotate" ∧ ns.length = 1
 · rw [if_pos c]
   exact q0r (v := mat (rotM (g ns 0))) hH [fT q0c c.1, fT q0t (zeq c.2), fv (it 0 (by omega)), fr (q0d hH (show q7i [qv (g ns 0)] = some (mat (rotM (g ns 0))) from q0l ⟨ge 0 (by omega), hrot c.1⟩))] (by kernel_rfl) rfl
 rw [if_neg c]
 refine fq (σ1 := ⟨[("name", .str nm), ("numbers", .lst (ns.map qv)), ("many", .int ns.length)], H⟩) ?_ ?_
 · by_cases n1 : nm = q0a "rotate"
   · exact q1j [fT q0c n1, fN q0t (zne fun l => c ⟨n1, l⟩)] (by kernel_rfl)
   · exact q1j [fN q0c n1] (by kernel_rfl)
 clear c
 by_cases c : nm = q0a "rotate" ∧ ns.length = 3
 · rw [if_pos c]
   exact q0r (v := mat (abM (g ns 0) (g ns 1) (g ns 2))) hH [fT q0c c.1, fT q0t (zeq c.2), fv (it 0 (by omega)), fv (it 1 (by omega)), fv (it 2 (by omega)), fr (q0d hH (show aboutV [qv (g ns 0), qv (g ns 1), qv (g ns 2)] = some (mat (abM (g ns 0) (g ns 1) (g ns 2))) from q0l ⟨ge 0 (by omega), hrot c.1, j6u (ge 1 (by omega)), j6u (ge 2 (by omega))⟩))] (by kernel_rfl) rfl
 rw [if_neg c]
 refine fq (σ1 := ⟨[("name", .str nm), ("numbers", .lst (ns.map qv)), ("many", .int ns.length)], H⟩) ?_ ?_
 · by_cases n1 : nm = q0a "rotate"
   · exact q1j [fT q0c n1, fN q0t (zne fun l => c ⟨n1, l⟩)] (by kernel_rfl)
   · exact q1j [fN q0c n1] (by kernel_rfl)
 clear c
 have inS := in_tup2 (a := q0a "skewX") (b := q0a "skewY") hasc rfl rfl
 have nt : bin H .Add (.str (q0a "no transform: ")) (.str nm) = some (.str (q0a "no transform: " ++ nm)) := add_str (by rw [show (q0a "no transform: ").length = 14 from rfl]; omega)
 unfold moMsg
 by_cases n1 : nm = q0a "skewX" ∨ nm = q0a "skewY"
 · by_cases l1 : ns.length = 1
   · rw [if_pos ⟨n1, l1⟩, if_pos ⟨n1, l1⟩]
     have c := q6k (v := oX (skO nm (g ns 0)) (63, .str tanM) mat) hH (show skewOfX [.str nm, qv (g ns 0)] = _ from q0l ⟨ge 0 (by omega), hsk n1⟩)
     cases ho : skO nm (g ns 0) with
     | none =>
       rw [ho] at c
       exact q7s hH [fT inS n1, fT q0t (zeq l1), fv (it 0 (by omega)), fr c] (by kernel_rfl) rfl
     | some m =>
       rw [ho] at c
       exact q0r (v := mat m) hH [fT inS n1, fT q0t (zeq l1), fv (it 0 (by omega)), fr c] (by kernel_rfl) rfl
   · rw [if_neg fun h => l1 h.2, if_neg fun h => l1 h.2]
     exact q7s hH [fT inS n1, fN q0t (zne l1), fv nt] (by kernel_rfl) rfl
 · rw [if_neg fun h => n1 h.1, if_neg fun h => n1 h.1]
   exact q7s hH [fN inS n1, fv nt] (by kernel_rfl) rfl
end Mi
end
section
namespace Mi
variable {u : U} {c : Cx} {np pos : Pos} {es : List Expr} {ds : D .l}
theorem d_dget (uo : u.At) {keys : List (Option Expr)} {values es : List Expr} {dp apos pos : Pos} {T : List (PyData × PyData)} {ds : D .l} (hD : litPairs keys values = some T) (hs : strKeyed T = true) (hn : (strKeysOf T).Nodup) (hall : keys.all (·.isSome) = true) (hl : keys.length = values.length) (h0 : keys ≠ []) (hlen : keys.length ≤ 15) (ha : DL u c es ds)
 (hbase : Base (.Dict keys values dp) (Str.ofString "get") c) (hfew : Few es pos c) (hline : (apos.endLine == pos.line) = true) (hnn : q2a es c) : DE u c (.Call (.Attribute (.Dict keys values dp) (Str.ofString "get") apos) es [] pos) (.dget T ds) := se_dget uo.big hD hs hn hall hl h0 hlen ha hbase hfew hline hnn
theorem d_ditem (uo : u.At) {keys : List (Option Expr)} {values : List Expr} {dp p : Pos} {slice : Expr} {T : List (PyData × PyData)} {a : D .v} (hD : litPairs keys values = some T) (hs : intKeyed T = true) (hn : (intKeysOf T).Nodup) (hall : keys.all (·.isSome) = true) (hl : keys.length = values.length) (h0 : keys ≠ []) (hlen : keys.length ≤ 15) (hi : DE u c slice a)
 (hsub : ∀ o i, subscripted slice false o i = operate [o, i] (getItem o i)) : DE u c (.Subscript (.Dict keys values dp) slice p) (.ditem T a) := se_ditem uo.big hD hs hn hall hl h0 hlen hi hsub
section
variable {H : List AO} {k : Nat} {L : List V}
theorem ls_obj (hk : H[k]? = some (.lst L)) : lsOf H (.obj k) = some L := by
 show H[k]?.bind lsO = _
 rw [hk]; rfl
theorem len_obj (hk : H[k]? = some (.lst L)) (h : L.length ≤ 100000) : lenV H [.obj k] = some (.int L.length) := by
 show (H[k]?.bind lsO).bind _ = _
 rw [hk]; exact q0l (k := some (V.int L.length)) h
theorem item_obj {i : Int} {v : V} (hk : H[k]? = some (.lst L)) (h : ixOf i L = some v) : q5a H (.obj k) (.int i) = some v := by
 show (H[k]?.bind lsO).bind _ = _
 rw [hk]; exact h
theorem add_obj {v : V} {m : List V} (hk : H[k]? = some (.lst L)) (hv : lsOf H v = some m) (h : L.length + m.length ≤ 100000) : bin H .Add (.obj k) v = some (.lst (L ++ m)) := by
 have e : ((lsOf H (.obj k)).bind fun l => (lsOf H v).bind fun m => oIf (l.length + m.length ≤ 100000) (some (V.lst (l ++ m)))) = some (.lst (L ++ m)) := by
   rw [ls_obj hk, hv]; exact q0l h
 exact e
theorem sl_obj {a : Nat} (hk : H[k]? = some (.lst L)) (h : L.length ≤ 100000) : slV H (.obj k) (.int (a : Int)) .none = some (.lst (L.drop a)) := by
 show (H[k]?.bind lsO).bind _ = _
 rw [hk]
 show slB L (.int (a : Int)) .none V.lst = _
 refine (slB_p (a := a) j3k (show bdOf L.length .none = some L.length from rfl) h).trans ?_
 unfold slL
 rw [List.take_length]
theorem sl_lst2 {b : Nat} (h : L.length ≤ 100000) : slV H (.lst L) .none (.int (b : Int)) = some (.lst (L.take b)) := by
 show slB L .none (.int (b : Int)) V.lst = _
 exact (slB_p (a := 0) (show bdOf 0 .none = some 0 from rfl) j3k h).trans (by unfold slL; rw [List.drop_zero])
end
theorem in_lst2 {l a b : List Nat} (h : q1a l = true) (ha : q1a a = true) (hb : q1a b = true) : cmp .In (.str l) (.lst [.str a, .str b]) = some (decide (l = a ∨ l = b)) := in_tup2 h ha hb
theorem j8a (m a b : Int) : cmp .In (.int m) (.lst [.int a, .int b]) = some (decide (m = a ∨ m = b)) := by
 show some ((PyData.eqv (.int a) (.int m)) || ((PyData.eqv (.int b) (.int m)) || false)) = _
 refine congrArg some (Bool.eq_iff_iff.mpr ?_)
 simp only [PyData.eqv, Bool.or_false, Bool.or_eq_true, beq_iff_eq, decide_eq_true_eq]
 exact ⟨Or.imp Eq.symm Eq.symm, Or.imp Eq.symm Eq.symm⟩
theorem quad_item {H : List AO} (n : Int) : q5a H (.lst [.tup [.int 1, .int 0], .tup [.int 0, .int 1], .tup [.int (-1), .int 0], .tup [.int 0, .int (-1)]]) (.int (n / 90 % 4)) = some (.tup [.int (cs n).1, .int (cs n).2]) := by
 unfold cs
 rcases q4 (n / 90) with h | h | h | h <;> rw [h] <;> rfl
theorem tan_180 {n : Int} (h : n % 90 = 0 ∨ n % 90 = 45) : (n % 180 = 90 ∧ tanS n = none) ∨ (¬ n % 180 = 90 ∧ ∃ t, tanS n = some t ∧ itemD [(.int 0, .int 0), (.int 45, .int 1), (.int 135, .int (-1))] (.int (n % 180)) = some (.int t)) := by
 unfold tanS
 have e : n % 180 = 90 * (n / 90 % 4 % 2) + n % 90 := by omega
 rcases h with h | h
 · rw [e, decide_eq_true h, h]
   rcases q4 (n / 90) with q | q | q | q <;> rw [q]
   · exact .inr ⟨by decide, 0, rfl, rfl⟩
   · exact .inl ⟨rfl, rfl⟩
   · exact .inr ⟨by decide, 0, rfl, rfl⟩
   · exact .inl ⟨rfl, rfl⟩
 · rw [e, decide_eq_false (by omega), h]
   rcases q4 (n / 90) with q | q | q | q <;> rw [q]
   · exact .inr ⟨by decide, 1, rfl, rfl⟩
   · exact .inr ⟨by decide, -1, rfl, rfl⟩
   · exact .inr ⟨by decide, 1, rfl, rfl⟩
   · exact .inr ⟨by decide, -1, rfl, rfl⟩
noncomputable def M6.i (m : M6) : List Int := [m.a, m.b, m.c, m.d, m.e, m.f]
noncomputable def lrO (o : Option M6) (n k : Nat) : V := Option.casesOn o .none fun m => if n = 6 then .obj k else .lst (m.i.map .int)
theorem rot_ab (n : Int) : rotM n = abM n 0 0 := by
 unfold rotM abM
 simp only [Int.mul_zero, Int.sub_zero, Int.zero_add]
theorem ab_i (n x y : Int) : (abM n x y).i = [(cs n).1, (cs n).2, 0 - (cs n).2, (cs n).1, x - (cs n).1 * x + (cs n).2 * y, y - (cs n).2 * x - (cs n).1 * y] := by rw [Int.zero_sub]; rfl
theorem len1 {ns : List Int} (h : ns.length = 1) : ∃ x, ns = [x] := List.length_eq_one_iff.mp h
theorem len2 {ns : List Int} (h : ns.length = 2) : ∃ x y, ns = [x, y] := match ns, h with | [x, y], _ => ⟨x, y, rfl⟩
theorem len3 {ns : List Int} (h : ns.length = 3) : ∃ x y z, ns = [x, y, z] := match ns, h with | [x, y, z], _ => ⟨x, y, z, rfl⟩
noncomputable def W_lr : Df 1 496 2 ["name", "numbers"] [] [] := by
  refine' Df.mk _ _ _ _ (fun _ => rfl) rfl rfl (fun _ => rfl) rfl (fun _ _ _ => q1d (all2 fun _ _ => rfl)) (fun _ => .nil) (by decide) (by decide) ?H
  case H =>
    intro u c uo ok fn hr hsc hcd hqu
    dsimp only at hsc hcd hqu
    repeat' with_reducible first
 | (refine (?_ : DX _ _ _ _); first
  | refine' q0x ?_
  | refine' q3z ?_ ?_ ?_
  | refine' q3f ‹_› ?_ (by row_cond k) (by row_cond s)
  | refine' q9a ‹_› ?_ (q0e ‹_› rfl) (q0e ‹_› rfl) (by row_cond s) (by row_cond t))
 | refine' q5i (q1h ‹_› ‹_› (by row_cond k)) ?_ rfl
 | (refine (?_ : DE _ _ _ _); first
  | refine' d_ditem (T := [(.int 0, .int 0), (.int 45, .int 1), (.int 135, .int (-1))]) ‹_› rfl rfl (by decide) rfl rfl (by simp) (by decide) ?_ (fun _ _ => rfl)
  | refine' q0f ‹_› (by row_cond k) (by decide)
  | exact q1l
  | exact q3y
  | exact j1r
  | refine' j8i ?_
  | refine' d_un ?_
  | refine' q2g ?_ ?_
  | refine' j5q ?_ ?_ ?_
  | refine' q3l ?_
  | refine' q1x ?_ ?_ (fun _ _ => rfl)
  | refine' d_sl ?_ ?_ ?_)
 | refine' q2z ‹_› ?_ ?_ rfl
 | refine' q3s ?_
 | exact q0w
 | refine' q0j ?_ ?_ rfl
 | exact q0i
 | refine' q0v ?_ ?_
 | exact d_tsA
 | refine' j3c ?_ ?_
 | exact j5p
 | refine' q4g ?_
 | intro _ _ _ _
noncomputable def lrF : Fn := W_lr.fn
theorem law_rows_ok (uo : u.At) : CallOk u (.ref 496) 2 lrF := W_lr.ok (by decide) uo
theorem z13 {a : Nat} : ((a : Int) = 1 ∨ (a : Int) = 3) ↔ (a = 1 ∨ a = 3) := ⟨Or.imp Int.ofNat_inj.mp Int.ofNat_inj.mp, Or.imp zeq zeq⟩
theorem rows_is {nm : List Nat} {ns : List Int} {k : Nat} {H : List AO} (hD : Dom nm ns) (hH : H.all (q0b H.length) = true) (hk : H[k]? = some (.lst (ns.map .int))) : lrF [.str nm, .obj k] H = .ok (lrO (rows nm ns) ns.length k) ⟨[], H⟩ := by
 show finR H.length (ev W_lr.d ⟨[("name", .str nm), ("numbers", .obj k)], H⟩) = _
 obtain ⟨hsm, hrot, hsk, hasc, hlen, hl⟩ := hD
 have hL : (ns.map V.int).length ≤ 50000 := by rw [List.length_map]; exact Nat.le_trans hl (by decide)
 have hL1 := Nat.le_trans hL (show 50000 ≤ 100000 by decide)
 have e1 : lenV H [.obj k] = some (.int ns.length) := (len_obj hk hL1).trans (by rw [List.length_map])
 have i0 : 0 < ns.length → q5a H (.obj k) (.int 0) = some (.int (g ns 0)) := fun h => item_obj hk ((ix_nat hL1 (Int.le_refl 0) (by rw [List.length_map]; omega)).trans (g_at V.int h))
 refine ft ⟨[("name", .str nm), ("numbers", .obj k), ("many", .int ns.length)], H⟩ [fv e1] (by kernel_rfl) ?_
 unfold rows
 by_cases c : nm = q0a "matrix" ∧ ns.length = 6
 · rw [if_pos c]
   show _ = Res.ok (if ns.length = 6 then _ else _) _
   rw [if_pos c.2]
   exact q0r hH [fT q0c c.1, fT q0t (zeq c.2)] (by kernel_rfl) (if_pos (rd_lt hk))
 rw [if_neg c]
 refine fq (σ1 := ⟨[("name", .str nm), ("numbers", .obj k), ("many", .int ns.length)], H⟩) ?_ ?_
 · by_cases n1 : nm = q0a "matrix"
   · exact q1j [fT q0c n1, fN q0t (zne fun l => c ⟨n1, l⟩)] (by kernel_rfl)
   · exact q1j [fN q0c n1] (by kernel_rfl)
 clear c
 by_cases c : nm = q0a "translate" ∧ (ns.length = 1 ∨ ns.length = 2)
 · rw [if_pos c]
   show _ = Res.ok (if ns.length = 6 then _ else _) _
   rw [if_neg (by omega)]
   have a1 := add_obj (v := .lst [.int 0]) hk rfl (show _ + 1 ≤ 100000 by omega)
   have f1 := z12.mpr c.2
   rcases c.2 with l | l
   · obtain ⟨x, rfl⟩ := len1 l
     exact q0r (v := .lst [.int 1, .int 0, .int 0, .int 1, .int x, .int 0]) hH [fT q0c c.1, fT (j8a _ 1 2) f1, fv a1, fv (sl_lst2 (H := H) (b := 2) (L := [.int x, .int 0]) (by show 2 ≤ 100000; decide)), fv (j6i (H := H) (l := [.int 1, .int 0, .int 0, .int 1]) (m := [.int x, .int 0]) (by show 6 ≤ 100000; decide))] (by kernel_rfl) rfl
   · obtain ⟨x, y, rfl⟩ := len2 l
     exact q0r (v := .lst [.int 1, .int 0, .int 0, .int 1, .int x, .int y]) hH [fT q0c c.1, fT (j8a _ 1 2) f1, fv a1, fv (sl_lst2 (H := H) (b := 2) (L := [.int x, .int y, .int 0]) (by show 3 ≤ 100000; decide)), fv (j6i (H := H) (l := [.int 1, .int 0, .int 0, .int 1]) (m := [.int x, .int y]) (by show 6 ≤ 100000; decide))] (by kernel_rfl) rfl
 rw [if_neg c]
 refine fq (σ1 := ⟨[("name", .str nm), ("numbers", .obj k), ("many", .int ns.length)], H⟩) ?_ ?_
 · by_cases n1 : nm = q0a "translate"
   · exact q1j [fT q0c n1, fN (j8a ns.length 1 2) (mt z12.mp fun l => c ⟨n1, l⟩)] (by kernel_rfl)
   · exact q1j [fN q0c n1] (by kernel_rfl)
 clear c
 by_cases c : nm = q0a "scale" ∧ (ns.length = 1 ∨ ns.length = 2)
 · rw [if_pos c]
   show _ = Res.ok (if ns.length = 6 then _ else _) _
   rw [if_neg (by omega)]
   have a1 := add_obj (v := .obj k) hk (ls_obj hk) (show _ + _ ≤ 100000 by omega)
   have f1 := z12.mpr c.2
   have j0 := i0 (by omega)
   rcases c.2 with l | l
   · obtain ⟨x, rfl⟩ := len1 l
     exact q0r (v := .lst [.int x, .int 0, .int 0, .int x, .int 0, .int 0]) hH [fT q0c c.1, fT (j8a _ 1 2) f1, fv j0, fv a1, fv (show q5a H (.lst [.int x, .int x]) (.int 1) = some (.int x) from rfl)] (by kernel_rfl) rfl
   · obtain ⟨x, y, rfl⟩ := len2 l
     exact q0r (v := .lst [.int x, .int 0, .int 0, .int y, .int 0, .int 0]) hH [fT q0c c.1, fT (j8a _ 1 2) f1, fv j0, fv a1, fv (show q5a H (.lst [.int x, .int y, .int x, .int y]) (.int 1) = some (.int y) from rfl)] (by kernel_rfl) rfl
 rw [if_neg c]
 refine fq (σ1 := ⟨[("name", .str nm), ("numbers", .obj k), ("many", .int ns.length)], H⟩) ?_ ?_
 · by_cases n1 : nm = q0a "scale"
   · exact q1j [fT q0c n1, fN (j8a ns.length 1 2) (mt z12.mp fun l => c ⟨n1, l⟩)] (by kernel_rfl)
   · exact q1j [fN q0c n1] (by kernel_rfl)
 clear c
 by_cases c : nm = q0a "rotate" ∧ (ns.length = 1 ∨ ns.length = 3)
 · have hr : (if nm = q0a "rotate" ∧ ns.length = 1 then some (rotM (g ns 0)) else if nm = q0a "rotate" ∧ ns.length = 3 then some (abM (g ns 0) (g ns 1) (g ns 2)) else if (nm = q0a "skewX" ∨ nm = q0a "skewY") ∧ ns.length = 1 then skO nm (g ns 0) else none) = some (abM (g ns 0) (g ns 1) (g ns 2)) := by
     rcases c.2 with l | l
     · rw [if_pos ⟨c.1, l⟩, rot_ab, show g ns 1 = 0 from g_out (by omega), show g ns 2 = 0 from g_out (by omega)]
     · rw [if_neg fun h => by omega, if_pos ⟨c.1, l⟩]
   rw [hr]
   show _ = Res.ok (if ns.length = 6 then _ else V.lst ((abM (g ns 0) (g ns 1) (g ns 2)).i.map V.int)) _
   rw [if_neg (by omega), ab_i]
   have j0 := i0 (by omega)
   have s1 := sl_obj (a := 1) hk hL1
   have a1 := j6i (H := H) (l := (ns.map V.int).drop 1) (m := [V.int 0, V.int 0]) (by rw [List.length_drop]; show _ + 2 ≤ 100000; omega)
   have s2 := sl_lst2 (H := H) (L := (ns.map V.int).drop 1 ++ [V.int 0, V.int 0]) (b := 2) (by rw [List.length_append, List.length_drop]; show _ + 2 ≤ 100000; omega)
   have e2 : ((ns.map V.int).drop 1 ++ [V.int 0, V.int 0]).take 2 = [V.int (g ns 1), V.int (g ns 2)] := by
     rcases c.2 with l | l
     · obtain ⟨x, rfl⟩ := len1 l; rfl
     · obtain ⟨x, y, z, rfl⟩ := len3 l; rfl
   rw [e2] at s2
   have qi := quad_item (H := H) (g ns 0)
   have sC : small (cs (g ns 0)).1 = true ∧ small (cs (g ns 0)).2 = true := by
     rcases (cs_rot (g ns 0)).2 with h | h | h | h <;> rw [h] <;> exact ⟨rfl, rfl⟩
   have f1 := z13.mpr c.2
   generalize cs (g ns 0) = p at *
   generalize g ns 1 = x at *
   generalize g ns 2 = y at *
   obtain ⟨C, S⟩ := p
   have m1 := q1i (H := H) (a := C) (b := x) (.inl sC.1)
   have m2 := q1i (H := H) (a := S) (b := y) (.inl sC.2)
   have m3 := q1i (H := H) (a := S) (b := x) (.inl sC.2)
   have m4 := q1i (H := H) (a := C) (b := y) (.inl sC.1)
   exact q0r (v := .lst [.int C, .int S, .int (0 - S), .int C, .int (x - C * x + S * y), .int (y - S * x - C * y)]) hH [fT q0c c.1, fT (j8a _ 1 3) f1, fv j0, fv (q3v (H := H) (a := g ns 0) (b := 90) (by decide) (int_big (by decide) (by decide))), fv (q2l (H := H) (a := g ns 0 / 90) (b := 4) (by decide)), fv qi, fv s1, fv a1, fv s2, fv m1, fv m2, fv m3, fv m4] (by kernel_rfl) rfl
 rw [if_neg fun h => c ⟨h.1, .inl h.2⟩, if_neg fun h => c ⟨h.1, .inr h.2⟩]
 refine fq (σ1 := ⟨[("name", .str nm), ("numbers", .obj k), ("many", .int ns.length)], H⟩) ?_ ?_
 · by_cases n1 : nm = q0a "rotate"
   · exact q1j [fT q0c n1, fN (j8a ns.length 1 3) (mt z13.mp fun l => c ⟨n1, l⟩)] (by kernel_rfl)
   · exact q1j [fN q0c n1] (by kernel_rfl)
 clear c
 have inS := in_lst2 (a := q0a "skewX") (b := q0a "skewY") hasc rfl rfl
 by_cases n1 : nm = q0a "skewX" ∨ nm = q0a "skewY"
 · by_cases l1 : ns.length = 1
   · rw [if_pos ⟨n1, l1⟩]
     have j0 := i0 (by omega)
     have m1 := q2l (H := H) (a := g ns 0) (b := 180) (by decide)
     have hs := hsk n1
     generalize g ns 0 = n at *
     unfold skO
     rcases tan_180 hs with ⟨q1, q2⟩ | ⟨q1, t, q2, q3⟩
     · rw [q2]
       exact q0r hH [fT inS n1, fT q0t (zeq l1), fv j0, fv m1, gN q7x q1] (by kernel_rfl) rfl
     · rw [q2]
       show _ = Res.ok (if ns.length = 6 then _ else V.lst ((if nm = q0a "skewX" then M6.mk 1 0 t 1 0 0 else ⟨1, t, 0, 1, 0, 0⟩).i.map V.int)) _
       rw [if_neg (by omega)]
       by_cases ny : nm = q0a "skewX"
       · rw [if_pos ny]
         exact q0r (v := .lst [.int 1, .int 0, .int t, .int 1, .int 0, .int 0]) hH [fT inS n1, fT q0t (zeq l1), fv j0, fv m1, gT q7x q1, fv j0, fv m1, fv q3, fN q0c (show ¬ nm = q0a "skewY" by rw [ny]; decide)] (by kernel_rfl) rfl
       · rw [if_neg ny]
         exact q0r (v := .lst [.int 1, .int t, .int 0, .int 1, .int 0, .int 0]) hH [fT inS n1, fT q0t (zeq l1), fv j0, fv m1, gT q7x q1, fv j0, fv m1, fv q3, fT q0c (n1.resolve_left ny)] (by kernel_rfl) rfl
   · rw [if_neg fun h => l1 h.2]
     exact q0r hH [fT inS n1, fN q0t (zne l1)] (by kernel_rfl) rfl
 · rw [if_neg fun h => n1 h.1]
   exact q0r hH [fN inS n1] (by kernel_rfl) rfl
end Mi
end
section
namespace Mi
variable {u : U} {c : Cx} {np pos : Pos} {es : List Expr} {ds : D .l}
theorem q6o (uo : u.At) (ok : c.Ok) : q1e u c "matrix_of" 13 (xF moX) np pos es ds := q0o j7n (fun _ => rfl) (fun _ => rfl) rfl (by decide) uo ok
theorem q3t (uo : u.At) (ok : c.Ok) : q1e u c "_law_whole" 2 (q0g wholeQ) np pos es ds := q0o j7q (fun _ => rfl) (fun _ => rfl) rfl (by decide) uo ok
theorem j2i (uo : u.At) (ok : c.Ok) : q1e u c "_law_rows" 2 (lrF) np pos es ds := q0o law_rows_ok (fun _ => rfl) (fun _ => rfl) rfl (by decide) uo ok
theorem meth_row (uo : u.At) (ok : c.Ok) {o : Expr} {apos : Pos} {a : D .v} (hr : 3 ≤ c.room) (ho : DE u c o a) (ha : DL u c es ds) (hn : q2a es c)
   (he : ∃ pl, eval (.Call (.Attribute o (Str.ofString "row") apos) es [] pos) c.env = (do
     let ov ← eval o c.env
     standAt apos.atName
     let (f, first) ← holding [ov] (getMethod ov (Str.ofString "row") pl)
     callWith pos f first (backTo pos (starEach es c.env)) [])) :
   DE u c (.Call (.Attribute o (Str.ofString "row") apos) es [] pos) (.meth 320 (Str.ofString "row") (q0g rowV) a ds) :=
 q4s uo.ok ok (by rw [uo.K]; exact ⟨rfl, rfl, rfl⟩) (row_ok uo) hr (uo.get rfl) rfl ho ha hn he
noncomputable def qF (v : V) : V := V.casesOn v .none (fun _ => .none) (fun n => qv n) (fun _ => .none) (fun _ => .none) (fun _ => .none) (fun _ _ => .none) (fun _ => .none) (fun _ => .none) (fun _ _ => .none)
theorem j5a {n : Nat} {l : List Int} : belows n (l.map V.int) = true := q3b fun v hv => by
 obtain ⟨i, _, rfl⟩ := List.mem_map.mp hv
 rfl
theorem whole_c {src : Src} {x : String} {t : D .b} {g : D .v} {H : List AO} {ns : List Int} (hm : ns.length ≤ 1000) (hH : H.all (q0b H.length) = true) (hn : ∀ k acc, q4d src (H ++ [AO.lst acc]) k = some ((ns.map V.int)[k]?)) (hf : ns.length < q0z src H) (ht : ∀ v acc, ev t ⟨[(x, v)], H ++ [.lst acc]⟩ = .ok true ⟨[(x, v)], H ++ [.lst acc]⟩)
   (hg : ∀ n acc, (H ++ [AO.lst acc]).all (q0b (H ++ [AO.lst acc]).length) = true → ev g ⟨[(x, .int n)], H ++ [.lst acc]⟩ = .ok (qv n) ⟨[(x, .int n)], H ++ [.lst acc]⟩) : j8j false x src (ev t) (ev g) [] ⟨[], H⟩ = .ok (.lst (ns.map qv)) ⟨[], H⟩ := by
 have := comp_s (src := src) (x := x) t g (H := H) (loc := []) (ns.map V.int) (fun _ => true) qF rfl (by rw [List.length_map]; exact Nat.le_trans hm (by decide)) hH (q3b fun v hv => by
     obtain ⟨w, hw, rfl⟩ := List.mem_map.mp hv
     obtain ⟨n, _, rfl⟩ := List.mem_map.mp (List.mem_filter.mp hw).1
     rfl) hn (by rw [List.length_map]; exact hf) (fun v acc _ _ => ht v acc) (fun v acc hv _ hG => by
     obtain ⟨n, _, rfl⟩ := List.mem_map.mp hv
     exact hg n acc hG)
 rwa [List.filter_eq_self.mpr fun _ _ => rfl, List.map_map] at this
theorem j8v {H : List AO} {n : Int} (hH : H.all (q0b H.length) = true) : q0g wholeQ [.int n] H = .ok (qv n) ⟨[], H⟩ := q0d hH rfl
theorem bigs_eq {L : List V} : ∀ {ns : List Int}, bigs L = some ns → L = ns.map V.int := by
 induction L with
 | nil => intro ns h; cases Option.some.inj h; rfl
 | cons v L ih =>
   intro ns h
   obtain ⟨b, r, h1, h2, rfl⟩ := q5r h
   obtain ⟨n, rfl, h3⟩ := oI_s h1
   cases Option.some.inj h3
   rw [ih h2]; rfl
theorem seq_obj {H : List AO} {k : Nat} {L : List V} (hk : H[k]? = some (.lst L)) : seqS H (.obj k) = some (.seq (.obj k)) := by
 show (H[k]?.bind lsO).map _ = _
 rw [hk]; rfl
theorem nth_obj {H : List AO} {k : Nat} {L acc : List V} {j : Nat} (hk : H[k]? = some (.lst L)) : q4d (.seq (.obj k)) (H ++ [.lst acc]) j = some (L[j]?) := by
 show ((H ++ [AO.lst acc])[k]?.bind lsO).map _ = _
 rw [app_at hk]; rfl
theorem fuel_obj {H : List AO} {k : Nat} {L : List V} (hk : H[k]? = some (.lst L)) : L.length < q0z (.seq (.obj k)) H := by
 have : q0z (.seq (.obj k)) H = L.length + 1 := by
   show ((H[k]?.bind lsO).map fun l => l.length + 1).getD 0 = _
   rw [hk]; rfl
 rw [this]; exact Nat.lt_succ_self _
noncomputable def moL : Lg := fun cl H => (getC (q3x cl H) "name").bind fun x => oS x fun nm => (getC (q3x cl H) "numbers").bind fun y => oO y fun k => (H[k]?.bind lsO).bind fun L => (bigs L).bind fun ns => oIf (Dom nm ns) (some (moR nm ns))
noncomputable def W_l3 : Dl 3 13 := by
  refine' Dl.mk _ _ _ (fun _ => rfl) rfl ?H
  case H =>
    intro u c uo ok fn hr hsc
    repeat' with_reducible first
 | (refine (?_ : DE _ _ (.Call _ _ _ _) _); first
  | refine' q6o uo ‹_› (by omega) (by row_cond k) ?_ rfl
  | refine' q3t uo ‹_› (by omega) (by row_cond k) ?_ rfl)
 | (refine (?_ : DE _ _ _ _); first
  | (refine (?_ : DE _ _ (.ListComp _ _ _ _) _); refine' q7v ‹_› [] ?_ (q2h ‹_› rfl rfl rfl rfl rfl rfl rfl) (fun _ => rfl) ?_ ?_)
  | refine' q0f ‹_› (by row_cond k) (by decide)
  | refine' d_free ‹_› (by row_cond k) (by decide) (by decide))
 | exact q0w
 | refine' q0j ?_ ?_ rfl
 | refine' q9c ?_
 | exact d_ltn
 | intro _ _ _ _
theorem told_mo : (uo : u.At) → CallOk u (.ref 470) 15 (q4b 3 moL) := q5k W_l3 (by decide) fun cl H x hH hx => by
 obtain ⟨a, h1, h2⟩ := bd_s hx
 obtain ⟨nm, rfl, h3⟩ := oS_s h2
 obtain ⟨b, h4, h5⟩ := bd_s h3
 obtain ⟨k, rfl, h6⟩ := oO_s h5
 obtain ⟨L, h7, h8⟩ := bd_s h6
 obtain ⟨o, hk, h7⟩ := bd_s h7
 obtain ⟨ns, h9, h10⟩ := bd_s h8
 obtain ⟨hD, h11⟩ := q0h h10
 cases o with
 | lst L' =>
   cases Option.some.inj h7
   cases bigs_eq h9
   cases Option.some.inj h11
   have hm := hD.2.2.2.2.2
   have hc := whole_c (x := "one") (t := ct W_l3.d 0) (g := cg W_l3.d 0) (Nat.le_trans hm (by decide)) hH (fun _ _ => nth_obj hk) (by have := fuel_obj hk; rwa [List.length_map] at this) (fun v acc => q3h [] (by kernel_rfl)) (fun n acc hG => j3u [fr (j8v (n := n) hG)] (by kernel_rfl))
   refine ⟨tape [fv h1, fv h4, fS (seq_obj hk), fr hc, fr (q6k hH (mo_ok hD))] (by kernel_rfl), ?_⟩
   unfold moR
   cases rows nm ns <;> rfl
 | _ => exact nn h7
noncomputable def Gk (k : Nat) (H G : List AO) : Prop := ∃ a b, G = H.set k (srcO a b)
section
variable {H G E : List AO} {k : Nat} {x : AO}
theorem Gk.len (h : Gk k H G) : G.length = H.length := by obtain ⟨a, b, rfl⟩ := h; exact List.length_set
theorem Gk.all (h : Gk k H G) (hH : H.all (q0b H.length) = true) : G.all (q0b G.length) = true := by obtain ⟨a, b, rfl⟩ := h; exact j3w hH
theorem Gk.at (h : Gk k H G) (hk : k < H.length) : ∃ a b, (G ++ E)[k]? = some (srcO a b) ∧ ∀ a' b', ∃ G', Gk k H G' ∧ (G ++ E).set k (srcO a' b') = G' ++ E := by
 obtain ⟨a, b, rfl⟩ := h
 have hl : k < (H.set k (srcO a b)).length := by rw [List.length_set]; exact hk
 exact ⟨a, b, by rw [List.getElem?_append_left hl, List.getElem?_set_self hk], fun a' b' => ⟨_, ⟨a', b', rfl⟩, by rw [List.set_append_left _ _ hl, List.set_set]⟩⟩
theorem Gk.one {L : List V} (h : Gk k H G) (hk : k < H.length) (hA : (G ++ E).all (q0b (G ++ E).length) = true) (hL : 0 < L.length ∧ L.length ≤ 1000 ∧ L.all j7c = true) : ∃ v G', v ∈ L ∧ Gk k H G' ∧ srcF oneG [.obj k, .lst L] (G ++ E) = .ok v ⟨[], G' ++ E⟩ := by
 obtain ⟨a, b, h1, h2⟩ := h.at (E := E) hk
 obtain ⟨v, a', b', hv, e⟩ := one_draw hA h1 hL
 obtain ⟨G', g1, g2⟩ := h2 a' b'
 exact ⟨v, G', hv, g1, by rw [e, g2]⟩
theorem Gk.take {top : Int} (h : Gk k H G) (hk : k < H.length) (hA : (G ++ E).all (q0b (G ++ E).length) = true) (t1 : 0 < top) (t2 : top ≤ 1000) : ∃ d G', 0 ≤ d ∧ d < top ∧ Gk k H G' ∧ srcF takeG [.obj k, .int top] (G ++ E) = .ok (.int d) ⟨[], G' ++ E⟩ := by
 obtain ⟨a, b, h1, h2⟩ := h.at (E := E) hk
 obtain ⟨d, a', b', d1, d2, e⟩ := j6p hA h1 t1 t2
 obtain ⟨G', g1, g2⟩ := h2 a' b'
 exact ⟨d, G', d1, d2, g1, by rw [e, g2]⟩
theorem Gk.cell (h : Gk k H G) (i : Nat) : (G ++ E)[H.length + i]? = E[i]? := by
 rw [← h.len, List.getElem?_append_right (Nat.le_add_right _ _), Nat.add_sub_cancel_left]
theorem Gk.set (h : Gk k H G) (i : Nat) (y : AO) : (G ++ E).set (H.length + i) y = G ++ E.set i y := by
 rw [← h.len, List.set_append_right _ _ (Nat.le_add_right _ _), Nat.add_sub_cancel_left]
theorem Gk.getC (h : Gk k H G) {loc : List (String × V)} {i : Nat} {n : String} {v : V} (hl : loc.lookup n = some (.obj (H.length + i))) (hE : E[i]? = some (.cell v)) : Mi.getC ⟨loc, G ++ E⟩ n = some v := q2y hl ((h.cell i).trans hE)
theorem Gk.put (h : Gk k H G) {loc : List (String × V)} {i : Nat} {n : String} {v : V} {o : AO} (hl : loc.lookup n = some (.obj (H.length + i))) (hE : E[i]? = some o) (ho : isC o (some ()) = some ()) : q1k true n v ⟨loc, G ++ E⟩ = .ok () ⟨loc, G ++ E.set i (.cell v)⟩ := by
 have : putV true n v ⟨loc, G ++ E⟩ = some ⟨loc, G ++ E.set i (.cell v)⟩ := by
   show (loc.lookup n).bind _ = _
   rw [hl]
   show ((G ++ E)[H.length + i]?.bind fun o => isC o (some (St.mk loc ((G ++ E).set (H.length + i) (.cell v))))) = _
   rw [h.cell i, hE, h.set i]
   cases o with
   | cell _ => rfl
   | cell0 => rfl
   | _ => exact nn ho
 unfold q1k
 rw [this]
theorem Gk.put0 (h : Gk k H G) {loc : List (String × V)} {i : Nat} {z : Int} {ns : List Int} (hE : E[i]? = some (.lst (ns.map .int))) (h0 : 0 < ns.length) (h1 : ns.length ≤ 1000) : putI (.int z) (.obj (H.length + i)) (.int 0) ⟨loc, G ++ E⟩ = .ok () ⟨loc, G ++ E.set i (.lst ((ns.set 0 z).map .int))⟩ := by
 show Option.casesOn (motive := fun _ => Res Unit) ((G ++ E)[H.length + i]?.bind _) _ _ = _
 rw [h.cell i, hE]
 show Option.casesOn (motive := fun _ => Res Unit) (oIf ((0 : Int) ≤ 0 ∧ (0 : Int) < (ns.map V.int).length ∧ (ns.map V.int).length ≤ 100000) _) _ _ = _
 rw [List.length_map, q0l ⟨Int.le_refl 0, zlt h0, Nat.le_trans h1 (by decide)⟩]
 show Res.ok () ⟨loc, (G ++ E).set (H.length + i) (.lst ((ns.map V.int).set 0 (.int z)))⟩ = _
 rw [h.set i, List.map_set]
end
theorem comp_e {x : String} {src : Src} {t : D .b} {g : D .v} {loc : List (String × V)} {n m : Nat} {Ok : List AO → Prop} {ok : Int → Prop} (L : List V) (hx : loc.lookup x = none) (hm : m ≤ 1000) (hL : L.length = m) (hlen : ∀ G, Ok G → G.length = n ∧ G.all (q0b n) = true) (hn : ∀ G k acc, Ok G → q4d src (G ++ [AO.lst acc]) k = some (L[k]?))
   (ht : ∀ v G acc, ev t ⟨loc ++ [(x, v)], G ++ [AO.lst acc]⟩ = .ok true ⟨loc ++ [(x, v)], G ++ [AO.lst acc]⟩) (hg : ∀ v G (ns : List Int), Ok G → ∃ y G', ok y ∧ Ok G' ∧ ev g ⟨loc ++ [(x, v)], G ++ [AO.lst (ns.map .int)]⟩ = .ok (.int y) ⟨loc ++ [(x, v)], G' ++ [AO.lst (ns.map .int)]⟩) {G : List AO} (h0 : Ok G) (hf : m < q0z src G) :
   ∃ (ns : List Int) (G' : List AO), ns.length = m ∧ (∀ y ∈ ns, ok y) ∧ Ok G' ∧ j8j true x src (ev t) (ev g) loc ⟨[], G⟩ = .ok (.obj n) ⟨[], G' ++ [.lst (ns.map .int)]⟩ := by
 have hg0 := (hlen G h0).1
 obtain ⟨σ', h1, _, G', ns, h3, h4, h5, h6⟩ := comp_q (src := src) (x := x) (t := ev t) (g := ev g) (d := n) L (fun k σ => (σ.loc = loc ∨ ∃ w, σ.loc = loc ++ [(x, w)]) ∧ ∃ G, ∃ ns : List Int, Ok G ∧ ns.length = k ∧ (∀ y ∈ ns, ok y) ∧ σ.hp = G ++ [.lst (ns.map .int)]) (fun k σ h => by
   obtain ⟨_, G, ns, h1, _, _, h⟩ := h
   rw [h]; exact hn G k _ h1) (fun k σ v h hv => by
   obtain ⟨h1, G, ns, h2, h3, h4, h5⟩ := h
   obtain ⟨y, G', hy, hG', e⟩ := hg v G ns h2
   have hs : σ.set x v = ⟨loc ++ [(x, v)], G ++ [.lst (ns.map .int)]⟩ := by
     show (⟨setL x v σ.loc, σ.hp⟩ : St) = _
     rw [h5]
     rcases h1 with q | ⟨w, q⟩
     · rw [q, (q7h hx).1]
     · rw [q, (q7h hx).2 w]
   rw [hs]
   refine ⟨true, _, ht v G _, ?_⟩
   rw [if_pos rfl]
   have hlt := (List.getElem?_eq_some_iff.mp hv).1
   have hp := q5p (loc := loc ++ [(x, v)]) (H := G') (l := ns.map .int) (v := .int y) (by rw [List.length_map]; omega)
   rw [(hlen G' hG').1] at hp
   exact ⟨_, _, _, _, e, hp, .inr ⟨v, rfl⟩, G', ns ++ [y], hG', by rw [List.length_append, h3]; rfl, fun z hz => (List.mem_append.mp hz).elim (h4 z) (fun hz => List.mem_singleton.mp hz ▸ hy), by rw [List.map_append]; rfl⟩) (q0z src G) 0 ⟨loc, G ++ [.lst []]⟩ (Nat.zero_le _) (by omega) ⟨.inl rfl, G, [], h0, rfl, fun _ h => absurd h List.not_mem_nil, rfl⟩
 refine ⟨ns, G', h4.trans hL, h5, h3, ?_⟩
 show j5v G.length ⟨[], G⟩ (q9t src x (ev t) (ev g) G.length (q0z src G) 0 ⟨loc, G ++ [.lst []]⟩) = _
 rw [hg0, h1]
 obtain ⟨l1, l2⟩ := hlen G' h3
 show (if (σ'.hp.take (n + 1)).all (q0b (n + 1)) then Res.ok (V.obj n) ⟨[], σ'.hp.take (n + 1)⟩ else .bad) = _
 rw [h6, List.take_of_length_le (by rw [List.length_append, l1]; exact Nat.le_refl _), if_pos]
 rw [List.all_append]
 exact q3w (j1n (fun z => q7c (Nat.le_succ n)) l2) (q3w j5a rfl)
end Mi
end
section
namespace Mi
variable {u : U} {c : Cx} {np pos : Pos} {es : List Expr} {ds : D .l}
theorem j0j {elt : Expr} {gens : List Comprehension} {scope : Scope} {cp pos : Pos} {t : Str} {line : Nat} (h : c.env.kindOf t = some .cell) : swapsWith (.ListComp elt gens scope cp) (some (.Name t pos)) line c.env = pure false := by
 unfold swapsWith
 show pure (c.env.blockKind == .function && c.env.kindOf t == some .local && pos.line == (Expr.ListComp elt gens scope cp).pos.line && _) = pure false
 rw [h, show (some NameKind.cell == some NameKind.local) = false from rfl, Bool.and_false, Bool.false_and, Bool.false_and]
noncomputable def W_mr : DfC 17 501 1 ["source"] ["source", "name", "numbers"] := by
  refine' DfC.mk _ _ _ _ (fun _ => rfl) rfl rfl (fun _ => rfl) rfl rfl rfl (all1 fun _ => rfl) (by decide) (by decide) ?H
  case H =>
    intro u c uo ok fn hr hsc hcd hqu
    dsimp only at hsc hcd hqu
    repeat' with_reducible first
 | (refine (?_ : DX _ _ _ _); first
  | refine' q0x ?_
  | refine' q3z ?_ ?_ ?_
  | refine' q3f ‹_› ?_ (by row_cond k) (by first | exact j0j (q1y ‹_› rfl) | with_unfolding_all exact rfl)
  | refine' d_asgC ‹_› ?_ (by row_cond k) (by first | exact j0j (q1y ‹_› rfl) | with_unfolding_all exact rfl)
  | refine' d_setI ?_ ?_ ?_ (by first | exact j0j (q1y ‹_› rfl) | with_unfolding_all exact rfl) (by row_cond t))
 | (refine (?_ : DE _ _ (.Call _ _ _ _) _); first
  | refine' q8c uo ‹_› (by omega) (by row_cond k) ?_ rfl
  | refine' q4h uo ‹_› (by omega) (by row_cond k) ?_ rfl
  | refine' j2i uo ‹_› (by omega) (by row_cond k) ?_ rfl
  | refine' q3t uo ‹_› (by omega) (by row_cond k) ?_ rfl
  | refine' meth_row uo ‹_› (by omega) ?_ ?_ rfl ⟨_, rfl⟩
  | (refine (?_ : DE _ _ (.Call _ [.Lambda _ _ _ _] _ _) _); refine' q9b (by assumption) (by assumption) (told_mo (by assumption)) (by omega) (by row_cond k) (q5s (fs := ["name","numbers"]) (P := 498) (by assumption) (by assumption) (by assumption) (by assumption) rfl (by decide) (by decide) rfl rfl rfl (fun _ => rfl) (fun _ _ _ _ _ => rfl)) rfl rfl)
  | refine' d_dget (T := [(.str (Str.ofString "matrix"), .int 6), (.str (Str.ofString "translate"), .int 2), (.str (Str.ofString "rotate"), .int 3)]) ‹_› rfl rfl (by decide) rfl rfl (by simp) (by decide) ?_ rfl rfl rfl rfl
  | refine' d_tolist (j7h ‹_› ‹_› (by row_cond k)) ?_ rfl)
 | (refine (?_ : DE _ _ _ _); first
  | (refine (?_ : DE _ _ (.ListComp _ _ _ _) _); refine' d_compT ‹_› ["source"] ?_ (q2h ‹_› rfl rfl rfl rfl rfl rfl rfl) (fun _ => rfl) ?_ ?_)
  | (refine (?_ : DE _ _ (.ListComp _ _ _ _) _); refine' q7v ‹_› [] ?_ (q2h ‹_› rfl rfl rfl rfl rfl rfl rfl) (fun _ => rfl) ?_ ?_)
  | refine' q0f ‹_› (by row_cond k) (by decide)
  | refine' d_cell ‹_› (by row_cond k) (by decide)
  | exact q1l
  | exact q3y
  | exact j1r
  | refine' j8i ?_
  | refine' d_un ?_
  | refine' q2g ?_ ?_
  | refine' j3b ‹_› ?_ ?_ rfl
  | refine' q7w ?_)
 | refine' q2z ‹_› ?_ ?_ rfl
 | refine' q3s ?_
 | exact q0w
 | refine' q0j ?_ ?_ rfl
 | exact q0i
 | refine' q0v ?_ ?_
 | exact d_tsA
 | exact d_tsO
 | refine' j3c ?_ ?_
 | refine' d_tor ?_ ?_
 | refine' d_vand ?_ ?_
 | refine' d_vone ?_
 | refine' q9d (q2r ‹_› ‹_› (by row_cond k)) ?_ rfl
 | refine' q9c ?_
 | exact d_ltn
 | intro _ _ _ _
noncomputable def mrF : Fn := fun vs H => if vs.length = 1 then finR H.length (ev W_mr.d (q7y ["source"] ["source", "name", "numbers"] vs H)) else .bad
theorem j1f (uo : u.At) : CallOk u (.ref 501) 18 mrF := W_mr.ok (by decide) uo
noncomputable def MrJ (k : Nat) (H : List AO) (r : Res V) : Prop := ∃ a b, r = .ok (.bool true) ⟨[], H.set k (srcO a b)⟩
theorem fe {a b : D .f} {σ : St} {n k : Nat} {H : List AO} {P : St → Prop} (h : ∃ σ1, ev a σ = .ok .next σ1 ∧ P σ1) (g : ∀ σ1, P σ1 → MrJ k H (finR n (ev b σ1))) : MrJ k H (finR n (ev (.seq a b) σ)) := seq_e (J := fun r => MrJ k H (finR n r)) h g
theorem fin_mr {b : D .f} {σ : St} {k : Nat} {H G E : List AO} (hH : H.all (q0b H.length) = true) (hG : Gk k H G) (f : List Fact) (h : j2e (et b σ (f.map Fact.o) []) = some (.bool true, G ++ E, [], (f.map Fact.k).reverse)) : MrJ k H (finR H.length (ev b σ)) := by
 have hA := hG.all hH
 have hl := hG.len
 obtain ⟨a, b, rfl⟩ := hG
 refine ⟨a, b, ?_⟩
 rw [← hl]
 exact q2d hA f h rfl
noncomputable def nameL : List V := [.str (q0a "matrix"), .str (q0a "translate"), .str (q0a "scale"), .str (q0a "rotate"), .str (q0a "rotate"), .str (q0a "skewX"), .str (q0a "skewY"), .str (q0a "Scale"), .str (q0a "")]
noncomputable def numL : List V := [.int 0, .int 1, .int (-2), .int 5, .int 7]
noncomputable def angL : List V := [.int 0, .int 45, .int (-45), .int 90, .int 270, .int 180, .int 225]
noncomputable def dT : List (PyData × PyData) := [(.str (Str.ofString "matrix"), .int 6), (.str (Str.ofString "translate"), .int 2), (.str (Str.ofString "rotate"), .int 3)]
theorem name_is {v : V} (h : v ∈ nameL) : ∃ nm, v = .str nm ∧ nm.length ≤ 10 ∧ q1a nm = true ∧ ∃ g : Int, 0 ≤ g ∧ g ≤ 7 ∧ getD dT [.str nm, .int 1] = some (.int g) := by
 have k : ∀ s : String, (q0a s).length ≤ 10 → q1a (q0a s) = true → (∃ g : Int, 0 ≤ g ∧ g ≤ 7 ∧ getD dT [.str (q0a s), .int 1] = some (.int g)) → v = .str (q0a s) → ∃ nm, v = .str nm ∧ nm.length ≤ 10 ∧ q1a nm = true ∧ ∃ g : Int, 0 ≤ g ∧ g ≤ 7 ∧ getD dT [.str nm, .int 1] = some (.int g) := fun s h1 h2 h3 e => ⟨_, e, h1, h2, h3⟩
 simp only [nameL, List.mem_cons, List.not_mem_nil, or_false] at h
 rcases h with h | h | h | h | h | h | h | h | h
 · exact k _ (by decide) rfl ⟨6, by decide, by decide, rfl⟩ h
 · exact k _ (by decide) rfl ⟨2, by decide, by decide, rfl⟩ h
 · exact k _ (by decide) rfl ⟨1, by decide, by decide, rfl⟩ h
 · exact k _ (by decide) rfl ⟨3, by decide, by decide, rfl⟩ h
 · exact k _ (by decide) rfl ⟨3, by decide, by decide, rfl⟩ h
 · exact k _ (by decide) rfl ⟨1, by decide, by decide, rfl⟩ h
 · exact k _ (by decide) rfl ⟨1, by decide, by decide, rfl⟩ h
 · exact k _ (by decide) rfl ⟨1, by decide, by decide, rfl⟩ h
 · exact k _ (by decide) rfl ⟨1, by decide, by decide, rfl⟩ h
noncomputable def intIn (p : Int → Prop) (L : List V) : Prop := ∀ v ∈ L, ∃ y, v = .int y ∧ p y
theorem q1w {p : Int → Prop} {y : Int} {L : List V} (h : p y) (h' : intIn p L) : intIn p (.int y :: L) := fun v hv => (List.mem_cons.mp hv).elim (fun e => ⟨y, e, h⟩) (h' v)
theorem intIn_n {p : Int → Prop} : intIn p [] := fun _ h => absurd h List.not_mem_nil
theorem numL_ok : intIn (fun y => y.natAbs < 100000) numL := q1w (by decide) (q1w (by decide) (q1w (by decide) (q1w (by decide) (q1w (by decide) intIn_n))))
theorem angL_ok : intIn angle angL := q1w (by decide) (q1w (by decide) (q1w (by decide) (q1w (by decide) (q1w (by decide) (q1w (by decide) (q1w (by decide) intIn_n))))))
theorem mem_set {ns : List Int} {y z : Int} (hs : ∀ z ∈ ns, z.natAbs < 100000) (hy : y.natAbs < 100000) (hz : z ∈ ns.set 0 y) : z.natAbs < 100000 := (List.mem_or_eq_of_mem_set hz).elim (hs z) fun e => e ▸ hy
theorem g_set {ns : List Int} {y : Int} (h : 0 < ns.length) : g (ns.set 0 y) 0 = y := by
 cases ns with
 | nil => exact absurd h (Nat.lt_irrefl 0)
 | cons a l => rfl
noncomputable def tvO (o : Option M6) : V := Option.casesOn o .none mat
theorem told_tv {nm : List Nat} {ns : List Int} : toldV (moR nm ns) = some (tvO (rows nm ns)) := by
 unfold moR
 cases rows nm ns <;> rfl
theorem qs_py (ns : List Int) : mapO (toPy 4) (ns.map qv) = some (ns.map fun n => PyData.tuple [.int n, .int 1]) := q4x fun n _ => rfl
theorem rows_six {nm : List Nat} {ns : List Int} {m : M6} (h : rows nm ns = some m) (h6 : ns.length = 6) : ns = m.i := by
 unfold rows at h
 have n1 : ¬ (ns.length = 1 ∨ ns.length = 2) := by omega
 have n2 : ¬ ns.length = 1 := by omega
 have n3 : ¬ ns.length = 3 := by omega
 by_cases q : nm = q0a "matrix" ∧ ns.length = 6
 · rw [if_pos q] at h
   cases Option.some.inj h
   match ns, h6 with
   | [a, b, c, d, e, f], _ => rfl
 · rw [if_neg q, if_neg fun q => n1 q.2, if_neg fun q => n1 q.2, if_neg fun q => n2 q.2, if_neg fun q => n3 q.2, if_neg fun q => n2 q.2] at h
   exact nn h
theorem row_call {G : List AO} (hG : G.all (q0b G.length) = true) (m : M6) : q0g rowV [mat m] G = .ok (.tup m.l) ⟨[], G⟩ := q0d hG rfl
theorem q5q {k : Nat} {H : List AO} {a b : Int} (hH : H.all (q0b H.length) = true) (hk : H[k]? = some (srcO a b)) : MrJ k H (mrF [.obj k] H) := by
 have hkl := rd_lt hk
 have g0 : Gk k H H := ⟨a, b, (List.getElem?_eq_some_iff.mp hk).2 ▸ (List.set_getElem_self ..).symm⟩
 have bk (N : Nat) (h : H.length ≤ N) : q0b N (.cell (.obj k)) = true := decide_eq_true (Nat.lt_of_lt_of_le hkl h)
 rw [show mrF [.obj k] H = finR H.length (ev W_mr.d ⟨[("source", .obj H.length), ("name", .obj (H.length + 1)), ("numbers", .obj (H.length + 2))], H ++ [.cell (.obj k), .cell0, .cell0]⟩) from if_pos rfl]
 generalize hl1 : [("source", V.obj H.length), ("name", .obj (H.length + 1)), ("numbers", .obj (H.length + 2))] = loc1
 have s1 : loc1.lookup "source" = some (.obj (H.length + 0)) := by rw [← hl1]; rfl
 have s2 : loc1.lookup "name" = some (.obj (H.length + 1)) := by rw [← hl1]; rfl
 have s3 : loc1.lookup "numbers" = some (.obj (H.length + 2)) := by rw [← hl1]; rfl
 refine fe (P := fun σ => ∃ G nm, σ = ⟨loc1, G ++ [.cell (.obj k), .cell (.str nm), .cell0]⟩ ∧ Gk k H G ∧ .str nm ∈ nameL) ?_ ?_
 · have hA : (H ++ [AO.cell (.obj k), .cell0, .cell0]).all (q0b (H ++ [AO.cell (.obj k), .cell0, .cell0]).length) = true := q1s hH (q3w (bk _ (by rw [List.length_append]; exact Nat.le_add_right _ _)) rfl)
   obtain ⟨v, G, hv, hG, e⟩ := g0.one (L := nameL) hkl hA ⟨by decide, by decide, by decide⟩
   obtain ⟨nm, rfl, _⟩ := name_is hv
   have p := hG.put (v := .str nm) s2 (show [AO.cell (.obj k), .cell0, .cell0][1]? = some .cell0 from rfl) rfl
   have c := g0.getC (v := .obj k) (E := [.cell (.obj k), .cell0, .cell0]) s1 rfl
   subst hl1
   exact ⟨_, q1j [fv c, fr e, fu p] (by kernel_rfl), G, nm, rfl, hG, hv⟩
 rintro σ ⟨G, nm, rfl, hG, hv⟩
 obtain ⟨_, q, hnl, hna, gd, gd1, gd2, hgd⟩ := name_is hv
 cases q
 clear g0 hv
 refine fe (P := fun σ => ∃ G, ∃ m : Nat, σ = ⟨loc1 ++ [("many", .int m)], G ++ [.cell (.obj k), .cell (.str nm), .cell0]⟩ ∧ Gk k H G ∧ m ≤ 7) ?_ ?_
 · have hA (G : List AO) (hG : Gk k H G) : (G ++ [AO.cell (.obj k), .cell (.str nm), .cell0]).all (q0b (G ++ [AO.cell (.obj k), .cell (.str nm), .cell0]).length) = true := q1s (hG.all hH) (q3w (bk _ (by rw [List.length_append, hG.len]; exact Nat.le_add_right _ _)) rfl)
   obtain ⟨d, G1, d1, d2, h1, e1⟩ := hG.take (top := 8) hkl (hA G hG) (by decide) (by decide)
   obtain ⟨v, G2, hv, h2, e2⟩ := h1.one (L := [.int 1, .int 2, .int 3, .int 6, .int d, .int gd]) hkl (hA G1 h1) ⟨Nat.le_of_ble_eq_true rfl, Nat.le_of_ble_eq_true rfl, rfl⟩
   have hi : intIn (fun y => 0 ≤ y ∧ y ≤ 7) [.int 1, .int 2, .int 3, .int 6, .int d, .int gd] := q1w (by decide) (q1w (by decide) (q1w (by decide) (q1w (by decide) (q1w ⟨d1, by omega⟩ (q1w ⟨gd1, gd2⟩ intIn_n)))))
   obtain ⟨y, rfl, y1, y2⟩ := hi v hv
   obtain ⟨m, rfl⟩ := Int.eq_ofNat_of_zero_le y1
   have c0 := hG.getC (v := .obj k) (E := [.cell (.obj k), .cell (.str nm), .cell0]) s1 rfl
   have c1 := h1.getC (v := .str nm) (E := [.cell (.obj k), .cell (.str nm), .cell0]) s2 rfl
   subst hl1
   exact ⟨_, q1j [fv c0, fv c0, fr e1, fv c1, fv hgd, fr e2] (by kernel_rfl), G2, m, rfl, h2, Int.ofNat_le.mp y2⟩
 rintro σ ⟨G, m, rfl, hG, hm⟩
 have s1 : (loc1 ++ [("many", V.int m)]).lookup "source" = some (.obj (H.length + 0)) := by rw [← hl1]; rfl
 have s2 : (loc1 ++ [("many", V.int m)]).lookup "name" = some (.obj (H.length + 1)) := by rw [← hl1]; rfl
 have s3 : (loc1 ++ [("many", V.int m)]).lookup "numbers" = some (.obj (H.length + 2)) := by rw [← hl1]; rfl
 refine fe (P := fun σ => ∃ G, ∃ ns : List Int, σ = ⟨loc1 ++ [("many", .int m)], G ++ [.cell (.obj k), .cell (.str nm), .cell (.obj (H.length + 3)), .lst (ns.map .int)]⟩ ∧ Gk k H G ∧ ns.length = m ∧ ∀ y ∈ ns, y.natAbs < 100000) ?_ ?_
 · have hA (G : List AO) (hG : Gk k H G) : (G ++ [AO.cell (.obj k), .cell (.str nm), .cell0]).all (q0b (G ++ [AO.cell (.obj k), .cell (.str nm), .cell0]).length) = true := q1s (hG.all hH) (q3w (bk _ (by rw [List.length_append, hG.len]; exact Nat.le_add_right _ _)) rfl)
   obtain ⟨ns, _, n1, n2, ⟨G', hG', rfl⟩, e⟩ := comp_e (x := "turn") (src := .rng ((0 : Nat) : Int) m) (t := ct W_mr.d 0) (g := cg W_mr.d 0) (loc := [("source", .obj H.length)]) (n := H.length + 3) (m := m) (Ok := fun X => ∃ G, Gk k H G ∧ X = G ++ [.cell (.obj k), .cell (.str nm), .cell0]) (ok := fun y => y.natAbs < 100000) (rngL ((0 : Nat) : Int) (m : Int)) rfl (by omega) (by rw [q4c]; rfl) (by
       rintro _ ⟨G, h, rfl⟩
       have hl : (G ++ [AO.cell (.obj k), .cell (.str nm), .cell0]).length = H.length + 3 := by rw [List.length_append, h.len]; rfl
       exact ⟨hl, hl ▸ hA G h⟩) (fun _ _ _ _ => q6t) (fun v G acc => q3h [] (by kernel_rfl)) (by
       rintro v _ ns ⟨G, h, rfl⟩
       have hB : (G ++ [AO.cell (.obj k), .cell (.str nm), .cell0, .lst (ns.map .int)]).all (q0b (G ++ [AO.cell (.obj k), .cell (.str nm), .cell0, .lst (ns.map .int)]).length) = true := q1s (h.all hH) (q3w (bk _ (by rw [List.length_append, h.len]; exact Nat.le_add_right _ _)) (q3w rfl (q3w rfl (q3w j5a rfl))))
       obtain ⟨w, G', hw, h', e⟩ := h.one (L := numL) hkl hB ⟨by decide, by decide, by decide⟩
       obtain ⟨y, rfl, hy⟩ := numL_ok w hw
       refine ⟨y, _, hy, ⟨G', h', rfl⟩, ?_⟩
       have c0 := h.getC (loc := [("source", .obj H.length), ("turn", v)]) (v := .obj k) (E := [.cell (.obj k), .cell (.str nm), .cell0, .lst (ns.map .int)]) (i := 0) (n := "source") rfl rfl
       rw [List.append_assoc, List.append_assoc]
       exact j3u [fv c0, fr e] (by kernel_rfl)) ⟨G, hG, rfl⟩ (by rw [q7r]; exact Nat.lt_succ_self _)
   rw [List.append_assoc] at e
   have p := hG'.put (v := .obj (H.length + 3)) (E := [.cell (.obj k), .cell (.str nm), .cell0, .lst (ns.map .int)]) s3 rfl rfl
   subst hl1
   exact ⟨_, q1j [fS (q7j (a := m) (by omega)), fr e, fu p] (by kernel_rfl), G', ns, rfl, hG', n1, n2⟩
 rintro σ ⟨G, ns, rfl, hG, hnm, hns⟩
 have hA (G : List AO) (ns : List Int) (hG : Gk k H G) : (G ++ [AO.cell (.obj k), .cell (.str nm), .cell (.obj (H.length + 3)), .lst (ns.map .int)]).all (q0b (G ++ [AO.cell (.obj k), .cell (.str nm), .cell (.obj (H.length + 3)), .lst (ns.map .int)]).length) = true :=
   q1s (hG.all hH) (q3w (bk _ (by rw [List.length_append, hG.len]; exact Nat.le_add_right _ _)) (q3w rfl (q3w (decide_eq_true (by rw [List.length_append, hG.len]; exact Nat.lt_succ_self _)) (q3w j5a rfl))))
 refine fe (P := fun σ => ∃ G, ∃ ns : List Int, σ = ⟨loc1 ++ [("many", .int m)], G ++ [.cell (.obj k), .cell (.str nm), .cell (.obj (H.length + 3)), .lst (ns.map .int)]⟩ ∧ Gk k H G ∧ ns.length = m ∧ (∀ y ∈ ns, y.natAbs < 100000) ∧ (nm = q0a "rotate" → g ns 0 % 90 = 0)) ?_ ?_
 · have c1 := hG.getC (v := .str nm) (E := [.cell (.obj k), .cell (.str nm), .cell (.obj (H.length + 3)), .lst (ns.map .int)]) s2 rfl
   by_cases h0 : 0 < m
   · by_cases hr : nm = q0a "rotate"
     · obtain ⟨d, G', d1, d2, h', e⟩ := hG.take (top := 9) hkl (hA G ns hG) (by decide) (by decide)
       have c0 := hG.getC (v := .obj k) (E := [.cell (.obj k), .cell (.str nm), .cell (.obj (H.length + 3)), .lst (ns.map .int)]) s1 rfl
       have c2 := h'.getC (v := .obj (H.length + 3)) (E := [.cell (.obj k), .cell (.str nm), .cell (.obj (H.length + 3)), .lst (ns.map .int)]) s3 rfl
       have p := h'.put0 (loc := loc1 ++ [("many", .int m)]) (i := 3) (z := 90 * (d - 4)) (ns := ns) (E := [.cell (.obj k), .cell (.str nm), .cell (.obj (H.length + 3)), .lst (ns.map .int)]) rfl (hnm ▸ h0) (by omega)
       have t := q1i (H := G' ++ [.cell (.obj k), .cell (.str nm), .cell (.obj (H.length + 3)), .lst (ns.map .int)]) (a := 90) (b := d - 4) (.inl (by decide))
       refine ⟨⟨loc1 ++ [("many", .int m)], G' ++ [.cell (.obj k), .cell (.str nm), .cell (.obj (H.length + 3)), .lst ((ns.set 0 (90 * (d - 4))).map .int)]⟩, ?_, G', ns.set 0 (90 * (d - 4)), rfl, h', by rw [List.length_set]; exact hnm, fun z => mem_set hns (by omega), fun _ => by rw [g_set (hnm ▸ h0)]; omega⟩
       subst hl1
       exact q1j [fT q1c (zlt h0), fv c1, fT q0c hr, fv c0, fr e, fv t, fv c2, fu p] (by kernel_rfl)
     · refine ⟨_, ?_, G, ns, rfl, hG, hnm, hns, fun h => absurd h hr⟩
       subst hl1
       exact q1j [fT q1c (zlt h0), fv c1, fN q0c hr] (by kernel_rfl)
   · refine ⟨_, ?_, G, ns, rfl, hG, hnm, hns, fun _ => by rw [show g ns 0 = 0 from g_out (by omega)]; rfl⟩
     subst hl1
     exact q1j [fN q1c (znlt h0)] (by kernel_rfl)
 clear hG hnm hns
 rintro σ ⟨G, ns, rfl, hG, hnm, hns, hrt⟩
 refine fe (P := fun σ => ∃ G, ∃ ns : List Int, σ = ⟨loc1 ++ [("many", .int m)], G ++ [.cell (.obj k), .cell (.str nm), .cell (.obj (H.length + 3)), .lst (ns.map .int)]⟩ ∧ Gk k H G ∧ Dom nm ns) ?_ ?_
 · have c1 := hG.getC (v := .str nm) (E := [.cell (.obj k), .cell (.str nm), .cell (.obj (H.length + 3)), .lst (ns.map .int)]) s2 rfl
   have hin := in_lst2 (a := q0a "skewX") (b := q0a "skewY") hna rfl rfl
   by_cases h0 : 0 < m
   · by_cases hr : nm = q0a "skewX" ∨ nm = q0a "skewY"
     · obtain ⟨v, G', hv, h', e⟩ := hG.one (L := angL) hkl (hA G ns hG) ⟨by decide, by decide, by decide⟩
       obtain ⟨y, rfl, hy⟩ := angL_ok v hv
       have c0 := hG.getC (v := .obj k) (E := [.cell (.obj k), .cell (.str nm), .cell (.obj (H.length + 3)), .lst (ns.map .int)]) s1 rfl
       have c2 := h'.getC (v := .obj (H.length + 3)) (E := [.cell (.obj k), .cell (.str nm), .cell (.obj (H.length + 3)), .lst (ns.map .int)]) s3 rfl
       have p := h'.put0 (loc := loc1 ++ [("many", .int m)]) (i := 3) (z := y) (ns := ns) (E := [.cell (.obj k), .cell (.str nm), .cell (.obj (H.length + 3)), .lst (ns.map .int)]) rfl (hnm ▸ h0) (by omega)
       refine ⟨⟨loc1 ++ [("many", .int m)], G' ++ [.cell (.obj k), .cell (.str nm), .cell (.obj (H.length + 3)), .lst ((ns.set 0 y).map .int)]⟩, ?_, G', ns.set 0 y, rfl, h', fun z => mem_set hns hy.1, fun h => ?_, fun _ => by rw [g_set (hnm ▸ h0)]; exact hy.2, hna, by omega, by rw [List.length_set]; omega⟩
       · subst hl1
         exact q1j [fT q1c (zlt h0), fv c1, fT hin hr, fv c0, fr e, fv c2, fu p] (by kernel_rfl)
       · rw [h] at hr
         exact absurd hr (by decide)
     · refine ⟨_, ?_, G, ns, rfl, hG, hns, hrt, fun h => absurd h hr, hna, by omega, by omega⟩
       subst hl1
       exact q1j [fT q1c (zlt h0), fv c1, fN hin hr] (by kernel_rfl)
   · refine ⟨_, ?_, G, ns, rfl, hG, hns, hrt, fun _ => by rw [show g ns 0 = 0 from g_out (by omega)]; exact .inl rfl, hna, by omega, by omega⟩
     subst hl1
     exact q1j [fN q1c (znlt h0)] (by kernel_rfl)
 clear hG hnm hns hrt
 rintro σ ⟨G, ns, rfl, hG, hD⟩
 have hB := hA G ns hG
 have c1 := hG.getC (v := .str nm) (E := [.cell (.obj k), .cell (.str nm), .cell (.obj (H.length + 3)), .lst (ns.map .int)]) s2 rfl
 have c2 := hG.getC (v := .obj (H.length + 3)) (E := [.cell (.obj k), .cell (.str nm), .cell (.obj (H.length + 3)), .lst (ns.map .int)]) s3 rfl
 have hl := hG.cell (E := [.cell (.obj k), .cell (.str nm), .cell (.obj (H.length + 3)), .lst (ns.map .int)]) 3
 change _ = some (AO.lst (ns.map .int)) at hl
 have f1 := rows_is hD hB hl
 have f2 : q4b 3 moL [.fn 3 [("name", H.length + 1), ("numbers", H.length + 2)]] (G ++ [.cell (.obj k), .cell (.str nm), .cell (.obj (H.length + 3)), .lst (ns.map .int)]) = .ok (tvO (rows nm ns)) ⟨[], G ++ [.cell (.obj k), .cell (.str nm), .cell (.obj (H.length + 3)), .lst (ns.map .int)]⟩ := by
   refine q5l hB ?_ told_tv
   show ((getC _ "name").bind fun x => oS x fun nm => (getC _ "numbers").bind fun y => oO y fun k => _) = _
   rw [show getC (q3x [("name", H.length + 1), ("numbers", H.length + 2)] (G ++ [.cell (.obj k), .cell (.str nm), .cell (.obj (H.length + 3)), .lst (ns.map .int)])) "name" = some (.str nm) from hG.getC (i := 1) rfl rfl,
     show getC (q3x [("name", H.length + 1), ("numbers", H.length + 2)] (G ++ [.cell (.obj k), .cell (.str nm), .cell (.obj (H.length + 3)), .lst (ns.map .int)])) "numbers" = some (.obj (H.length + 3)) from hG.getC (i := 2) rfl rfl]
   show ((((G ++ _)[H.length + 3]?).bind lsO).bind fun L => _) = _
   rw [hl]
   show ((bigs (ns.map .int)).bind fun ns => _) = _
   rw [j6a]
   exact q0l hD
 clear hA hD
 generalize hE : [AO.cell (.obj k), .cell (.str nm), .cell (.obj (H.length + 3)), .lst (ns.map .int)] = E at *
 cases hrow : rows nm ns with
 | none =>
   rw [hrow] at f1 f2
   subst hl1
   exact fin_mr (E := E) hH hG [fv c1, fv c2, fr f1, fr f2, fb is_nn, fb is_nn, fb is_nn] (by kernel_rfl)
 | some p =>
   rw [hrow] at f1 f2
   have q1 := row_call hB p
   have q2 : listV (G ++ E) [.tup p.l] = some (.lst (p.i.map qv)) := rfl
   have q3 := eq_lst (qs_py p.i)
   have q4 := q8w (H := G ++ E) p (Str.ofString "row") rfl
   have q5 : cmp .Is (mat p) .none = some false := rfl
   obtain ⟨due, e1, d1, d2, d3, d4⟩ : ∃ due, lrF [.str nm, .obj (H.length + 3)] (G ++ E) = .ok due ⟨[], G ++ E⟩ ∧ cmp .Is due .none = some false ∧ seqS (G ++ E) due = some (.seq due) ∧ (∀ k acc, q4d (.seq due) ((G ++ E) ++ [AO.lst acc]) k = some ((p.i.map V.int)[k]?)) ∧ p.i.length < q0z (.seq due) (G ++ E) := by
     change lrF _ _ = .ok (if ns.length = 6 then .obj (H.length + 3) else .lst (p.i.map .int)) _ at f1
     by_cases h6 : ns.length = 6
     · rw [if_pos h6] at f1
       rw [rows_six hrow h6] at hl
       exact ⟨_, f1, rfl, seq_obj hl, fun _ _ => nth_obj hl, by have := fuel_obj hl; rwa [List.length_map] at this⟩
     · rw [if_neg h6] at f1
       exact ⟨_, f1, rfl, rfl, fun _ _ => rfl, by rw [j5d, List.length_map]; exact Nat.lt_succ_self _⟩
   have hc := whole_c (x := "one") (t := ct W_mr.d 1) (g := cg W_mr.d 1) (show p.i.length ≤ 1000 by show 6 ≤ 1000; decide) hB d3 d4 (fun v acc => q3h [] (by kernel_rfl)) (fun n acc hG => j3u [fr (j8v (n := n) hG)] (by kernel_rfl))
   subst hl1
   exact fin_mr (E := E) hH hG [fv c1, fv c2, fr e1, fr f2, fb d1, fb q5, fb q4, fr q1, fv q2, fS d2, fr hc, fb q3] (by kernel_rfl)
end Mi
end
section
namespace Mi
variable {u : U} {c : Cx} {np pos : Pos} {es : List Expr} {ds : D .l}
noncomputable def min2V (vs : List V) : Option V := (two vs).map fun p => .int (min p.1 p.2)
theorem d_min2 (ok : c.Ok) {n : String} (hx : SE u c (.Name (Str.ofString n) np) (fun σ => .ok (.val (.builtin "min")) σ)) (ha : DL u c es ds) (hn : q2a es c) : DE u c (.Call (.Name (Str.ofString n) np) es [] pos) (.bi (fun _ => min2V) ds) :=
 se_bi (g := fun _ vs => min2V vs) hx ha hn fun W σ s rs vs v i hr h => by
   obtain ⟨⟨a, b⟩, e, rfl⟩ := q3p h
   obtain ⟨t, u', rfl⟩ := two_reps hr e
   refine PySem.min_two_ints ok.handled fun h' tk hk => ⟨W, .refl W, i.keeps hk, ?_⟩
   show Rep u W _ (.int (min a b))
   by_cases q : b < a
   · rw [if_pos q, Int.min_eq_right (Int.le_of_lt q)]; exact .int _ _
   · rw [if_neg q, Int.min_eq_left (Int.not_lt.mp q)]; exact .int _ _
noncomputable def drawnFn : Fn := j6j.fn
theorem j7s (uo : u.At) : CallOk u (.ref 482) 5 drawnFn := j6j.ok (by decide) uo
theorem j2j (uo : u.At) (ok : c.Ok) : q1e u c "_law_pool" 3 (poolF) np pos es ds := q0o law_pool_ok (fun _ => rfl) (fun _ => rfl) rfl (by decide) uo ok
theorem j1w (uo : u.At) (ok : c.Ok) : q1e u c "_law_drawn" 5 (drawnFn) np pos es ds := q0o j7s (fun _ => rfl) (fun _ => rfl) rfl (by decide) uo ok
theorem q5j (uo : u.At) (ok : c.Ok) : q1e u c "_law_matrix_right" 18 (mrF) np pos es ds := q0o j1f (fun _ => rfl) (fun _ => rfl) rfl (by decide) uo ok
theorem q6l (uo : u.At) (ok : c.Ok) : q1e u c "_law_text_right" 13 (q0g textV) np pos es ds := q0o j3t (fun _ => rfl) (fun _ => rfl) rfl (by decide) uo ok
structure Dw where
 d : D .f
 fo : Obj
 fd : FuncData
 body : List Stmt
 h1 : ∀ P, (KK P).lookup 506 = some fo
 h2 : fo.data = .func fd
 h3 : fd.body = .stmts body
 H : ∀ {u : U} {c : Cx}, u.At → c.Ok → c.Fn → 18 ≤ c.room → c.env.scope = fd.scope → c.env.code = .ref 505 → c.env.qual = Str.ofString "law" ++ Str.ofString ".<locals>." → DB u c body d
noncomputable def W_law : Dw := by
  refine' Dw.mk _ _ _ _ (fun _ => rfl) rfl rfl ?H
  case H =>
    intro u c uo ok fn hr hsc hcd hqu
    dsimp only at hsc
    repeat' with_reducible first
 | (refine (?_ : DX _ _ _ _); first
  | refine' d_for (cell := false) ‹_› ‹_› ["script"] ?_ (by row_cond k) ?_ (fun _ => rfl)
  | refine' q0x ?_
  | refine' q3z ?_ ?_ ?_
  | refine' q3f ‹_› ?_ (by row_cond k) (by row_cond s))
 | (refine (?_ : DE _ _ (.Call _ _ _ _) _); first
  | refine' d_min2 ‹_› (j4v ‹_› ‹_› (by row_cond k)) ?_ rfl
  | refine' q6o uo ‹_› (by omega) (by row_cond k) ?_ rfl
  | refine' q3t uo ‹_› (by omega) (by row_cond k) ?_ rfl
  | refine' meth_row uo ‹_› (by omega) ?_ ?_ rfl ⟨_, rfl⟩
  | refine' j2j uo ‹_› (by omega) (by row_cond k) ?_ rfl
  | refine' j1w uo ‹_› (by omega) (by row_cond k) ?_ rfl
  | refine' q5j uo ‹_› (by omega) (by row_cond k) ?_ rfl
  | refine' q6l uo ‹_› (by omega) (by row_cond k) ?_ rfl
  | (refine (?_ : DE _ _ (.Call _ [.Lambda _ _ _ _] _ _) _); refine' q9b (by assumption) (by assumption) (told_c1 (by assumption)) (by omega) (by row_cond k) (q5s (fs := []) (P := 503) (by assumption) (by assumption) (by assumption) (by assumption) rfl (by decide) (by decide) rfl rfl rfl (fun _ => rfl) (fun _ _ _ _ _ => rfl)) rfl rfl)
  | (refine (?_ : DE _ _ (.Call _ [.Lambda _ _ _ _] _ _) _); refine' q9b (by assumption) (by assumption) (told_r1 (by assumption)) (by omega) (by row_cond k) (q5s (fs := []) (P := 503) (by assumption) (by assumption) (by assumption) (by assumption) rfl (by decide) (by decide) rfl rfl rfl (fun _ => rfl) (fun _ _ _ _ _ => rfl)) rfl rfl)
  | (refine (?_ : DE _ _ (.Call _ [.Lambda _ _ _ _] _ _) _); refine' q9b (by assumption) (by assumption) (told_r2 (by assumption)) (by omega) (by row_cond k) (q5s (fs := []) (P := 503) (by assumption) (by assumption) (by assumption) (by assumption) rfl (by decide) (by decide) rfl rfl rfl (fun _ => rfl) (fun _ _ _ _ _ => rfl)) rfl rfl)
  | (refine (?_ : DE _ _ (.Call _ [.Lambda _ _ _ _] _ _) _); refine' q9b (by assumption) (by assumption) (told_c2 (by assumption)) (by omega) (by row_cond k) (q5s (fs := []) (P := 503) (by assumption) (by assumption) (by assumption) (by assumption) rfl (by decide) (by decide) rfl rfl rfl (fun _ => rfl) (fun _ _ _ _ _ => rfl)) rfl rfl)
  | refine' q5i (q1h ‹_› ‹_› (by row_cond k)) ?_ rfl
  | refine' d_max ‹_› (j0e ‹_› ‹_› (by row_cond k)) ?_ rfl
  | refine' d_tolist (j7h ‹_› ‹_› (by row_cond k)) ?_ rfl)
 | (refine (?_ : DE _ _ _ _); first
  | (refine (?_ : DE _ _ (.ListComp _ _ _ _) _); refine' q7v ‹_› [] ?_ (q2h ‹_› rfl rfl rfl rfl rfl rfl rfl) (fun _ => rfl) ?_ ?_)
  | refine' q0f ‹_› (by row_cond k) (by decide)
  | exact q1l
  | exact q3y
  | exact j1r
  | exact d_bool
  | refine' j8i ?_
  | refine' d_un ?_
  | refine' q2g ?_ ?_
  | refine' q3l ?_)
 | refine' q2z ‹_› ?_ ?_ rfl
 | refine' d_not ?_
 | refine' q3s ?_
 | refine' j5o ?_
 | exact q0w
 | refine' q0j ?_ ?_ rfl
 | exact q0i
 | refine' q0v ?_ ?_
 | exact d_tsO
 | refine' d_tor ?_ ?_
 | refine' q9d (q2r ‹_› ‹_› (by row_cond k)) ?_ rfl
 | refine' q9c ?_
 | exact d_ltn
 | intro _ _ _ _
theorem j3p {i : Nat} {g : Lg} {x : V ⊕ (Addr × V)} {v : V} {H : List AO} (hH : H.all (q0b H.length) = true) (h : g [] H = some x) (hv : toldV x = some v) : q4b i g [.fn i []] H = .ok v ⟨[], H⟩ := q5l hH h hv
theorem law_is {ns : List Int} {H : List AO} (hn : ns.length ≤ 1000) (hH : H.all (q0b H.length) = true) : finR H.length (ev W_law.d ⟨[("script", .lst (ns.map .int))], H⟩) = .ok (.bool true) ⟨[], H⟩ := by
 refine ft ⟨[("script", .lst (ns.map .int))], H⟩ [fr (j3p (i := 4) (g := fun _ _ => cutX [.str (q0a "1E2.5")]) hH (show cutX [.str (q0a "1E2.5")] = some (.inl (.lst [.str (q0a "1E2"), .str (q0a ".5")])) from (by kernel_rfl)) rfl), fb (j7g (l := [.str (q0a "1E2"), .str (q0a ".5")]) (m := [.str ⟨(q0a "1E2").toArray⟩, .str ⟨(q0a ".5").toArray⟩]) (by kernel_rfl)),
   fr (j3p (i := 5) (g := fun _ _ => q5o [.str (q0a "1e301")]) hH (show q5o [.str (q0a "1e301")] = some (.inr (63, .str (q0a "an exponent that is not read"))) from (by kernel_rfl)) rfl), fb (show cmp .IsNot .none .none = some false from rfl)] (by kernel_rfl) ?_
 refine ft ⟨[("script", .lst (ns.map .int))], H⟩ [fr (j3p (i := 6) (g := fun _ _ => q5o [.str (q0a "1e300")]) hH (show q5o [.str (q0a "1e300")] = some (.inl (.lst [.q (10 ^ 300, 1)])) from (by kernel_rfl)) rfl), fv (q6c (H := H) (n := 300) (by decide) (by decide)), fb (j7g (prs_py [(10 ^ 300, 1)]))] (by kernel_rfl) ?_
 have hD : Dom (q0a "rotate") [90, 5, 7] := ⟨by decide, fun _ => rfl, fun h => absurd h (by decide), rfl, by decide, by decide⟩
 have hm : xF moX [.str (q0a "rotate"), .lst ([90, 5, 7].map qv)] H = .ok (mat ⟨0, 1, -1, 0, 12, 2⟩) ⟨[], H⟩ := q6k (v := .inl (mat ⟨0, 1, -1, 0, 12, 2⟩)) hH ((mo_ok hD).trans (by kernel_rfl))
 refine ft ⟨[("script", .lst (ns.map .int)), ("turned", mat ⟨0, 1, -1, 0, 12, 2⟩)], H⟩ [fr hm] (by kernel_rfl) ?_
 have hc := whole_c (src := .seq (.lst ([0, 1, -1, 0, 12, 2].map .int))) (x := "one") (t := ct W_law.d 0) (g := cg W_law.d 0) (ns := [0, 1, -1, 0, 12, 2]) (by show 6 ≤ 1000; decide) hH (fun _ _ => rfl) (by show 6 < 7; decide) (fun v acc => q3h [] (by kernel_rfl)) (fun n acc hG => j3u [fr (j8v (n := n) hG)] (by kernel_rfl))
 refine ft ⟨[("script", .lst (ns.map .int)), ("turned", mat ⟨0, 1, -1, 0, 12, 2⟩)], H⟩ [fb (q8w (H := H) ⟨0, 1, -1, 0, 12, 2⟩ (Str.ofString "row") rfl), fr (row_call hH ⟨0, 1, -1, 0, 12, 2⟩), fv (show listV H [.tup (M6.l ⟨0, 1, -1, 0, 12, 2⟩)] = some (.lst ([0, 1, -1, 0, 12, 2].map qv)) from rfl), fS (j4f H ([0, 1, -1, 0, 12, 2].map .int)), fr hc, fb (j7g (qs_py [0, 1, -1, 0, 12, 2]))] (by kernel_rfl) ?_
 refine ft ⟨[("script", .lst (ns.map .int)), ("turned", mat ⟨0, 1, -1, 0, 12, 2⟩)], H⟩ [fr (j3p (i := 7) (g := fun _ _ => cutX [.str (q0a "1e2.5-3")]) hH (show cutX [.str (q0a "1e2.5-3")] = some (.inl (.lst [.str (q0a "1e2"), .str (q0a ".5"), .str (q0a "-3")])) from (by kernel_rfl)) rfl), fb (j7g (l := [.str (q0a "1e2"), .str (q0a ".5"), .str (q0a "-3")]) (m := [.str ⟨(q0a "1e2").toArray⟩, .str ⟨(q0a ".5").toArray⟩, .str ⟨(q0a "-3").toArray⟩]) (by kernel_rfl)),
   fr (q0d hH (show textV [.str (q0a " 2.-.5e1,7")] = some (.bool true) from (by kernel_rfl)))] (by kernel_rfl) ?_
 have e0 : lenV H [.lst (ns.map .int)] = some (.int (ns.length : Int)) := (j4y (by rw [List.length_map]; exact Nat.le_trans hn (by decide))).trans (by rw [List.length_map])
 obtain ⟨w, hw, w2⟩ : ∃ w : Nat, max 1 (min (ns.length : Int) 2) = w ∧ w ≤ 2 := ⟨max 1 (min ns.length 2), by omega, by omega⟩
 have e2 : maxV [.int 1, .int (min (ns.length : Int) 2)] = some (.int w) := congrArg (fun x => some (V.int x)) hw
 refine for_s (J := fun r => finR H.length r = _) rfl (fun E : List AO => ⟨[("script", .lst (ns.map .int))], E⟩) (rngL ((0 : Nat) : Int) (w : Int)) (fun k E => (∃ E', E = H ++ E') ∧ E.all (q0b E.length) = true) H [fv e0, fv (show min2V [.int (ns.length : Int), .int 2] = some (.int (min (ns.length : Int) 2)) from rfl), fv e2, fS (q7j (a := w) (by omega))] (by kernel_rfl) ⟨⟨[], (List.append_nil H).symm⟩, hH⟩ (fun _ _ => q6t) (by rw [q7r, q4c]; exact Nat.lt_succ_self _) ?_ ?_
 · rintro k G v hv ⟨⟨E, hE⟩, hG⟩
   obtain ⟨rfl, hk⟩ := rng_at hv
   rw [Nat.zero_add] at hk ⊢
   obtain ⟨a, b, q1⟩ := pool_is hn (show k ≤ 10 by omega) hG
   have hS (a b : Int) : (G ++ [srcO a b]).all (q0b (G ++ [srcO a b]).length) = true := q1s hG rfl
   have hI (a b : Int) : (G ++ [srcO a b])[G.length]? = some (srcO a b) := List.getElem?_concat_length ..
   obtain ⟨t, a1, b1, t1, t2, q2⟩ := drawn_is (hS a b) (hI a b)
   rw [q3d] at q2
   obtain ⟨a2, b2, q4⟩ := q5q (hS a1 b1) (hI a1 b1)
   rw [q3d] at q4
   obtain ⟨a3, b3, q5⟩ := q5q (hS a2 b2) (hI a2 b2)
   rw [q3d] at q5
   exact q3q (x := G ++ [srcO a3 b3]) [fr q1, fr q2, fr (q0d (hS a1 b1) (show textV [.str t] = some (.bool true) from q0l ⟨t1, t2⟩)), fr q4, fr q5] (by kernel_rfl) ⟨⟨E ++ [srcO a3 b3], by rw [hE, List.append_assoc]⟩, hS a3 b3⟩
 · rintro _ ⟨⟨E, rfl⟩, hG⟩
   exact q2d (E := E) hH [] (by kernel_rfl) out_e
end Mi
end
end
section
open PySem PySem.W PyProof.Rows PySem.Calls Builtin
set_option maxHeartbeats 8000000
namespace Mi
theorem reps_ints {u : U} {W : Wd} {vs : List Value} {ns : List Int} (h : IntsAre vs ns) : Reps u W vs (ns.map .int) := by
 induction h with
 | nil => exact .nil
 | cons n t _ ih => exact .cons (.int n t) ih
theorem grown_three {u : U} {W : Wd} {h₀ h : Heap} {L : Addr} (hk : W.tb.map (·.1) = [498, 472, 503]) (ht : ∀ p ∈ W.tb, TbOk u W p) (N : News h₀ L h W.led) : GrownAll [(500, 498), (474, 472), (505, 503)] h := by
 have k : ∀ P ∈ ([498, 472, 503] : List Addr), GrownAt P h := by
   intro P hP
   rw [← hk] at hP
   obtain ⟨p, hp, rfl⟩ := List.mem_map.mp hP
   obtain ⟨ps, e, _, _⟩ := ht p hp
   refine ⟨ps, ?_⟩
   have hm : p ∈ W.led := by simp [Wd.led, Wd.mu, hp]
   rw [← e]
   exact (N p hm).1
 exact ⟨k 498 (by simp), k 472 (by simp), k 503 (by simp), trivial⟩
theorem fin_true {r : Res Fl} {σ₂ : St} (h : finR ([] : List AO).length r = .ok (.bool true) σ₂) : ∃ v σ', r = .ok (.ret v) σ' ∧ v = .bool true := by
 cases r with
 | ok f σ' =>
   have k := (finR_s h).1
   have k' : flV f = .bool true := by
     rcases outV_s k with ⟨_, e⟩ | ⟨a, x, _, _, _, e⟩
     · exact e
     · cases x <;> first
         | cases e
         | exact nomatch (Option.map_eq_some_iff.mp e).choose_spec.2
         | (unfold outO q9r at e; split at e <;> cases e)
         | (dsimp only [outO, q9r] at e; split at e <;> cases e)
   cases f with
   | ret v => exact ⟨v, σ', rfl, k'⟩
   | next => cases k'
 | ex C m σ' =>
   unfold finR at h
   dsimp only at h
   split at h <;> cases h
 | bad => cases h
def j4i (K : Frag) (a : Addr) : Scope := match K.lookup a with
 | some o => match o.data with
   | .func fd => fd.scope
   | _ => ⟨.module, [], false, false, []⟩
 | none => ⟨.module, [], false, false, []⟩
theorem law_run {prog : Program} {w : World} {p : Program} {loose : List Str} {mean : ExcName → Option Value} {mg mb : Str → Option Value} {B : Heap} {env : Env} {L : Addr} {l : Addr} {vs : List Value} {ns : List Int} {s : Shared}
   (D : Dw) (hD : ∀ {ns : List Int} {H : List AO}, ns.length ≤ 1000 → H.all (q0b H.length) = true → finR H.length (ev D.d ⟨[("script", .lst (ns.map .int))], H⟩) = .ok (.bool true) ⟨[], H⟩) (X : (KK w.params).In B) (T : Top p loose mean mg mb B) (hl : B.IsList l vs.toArray) (hI : IntsAre vs ns) (hn : ns.length ≤ 1000)
   (F : Fr B L s.heap (fun x => List.lookup x [(Str.ofString "script", Value.ref l)])) (N : News B L s.heap [(498, tabObj #[]), (472, tabObj #[]), (503, tabObj #[])]) (hg : s.gens = #[])
   (e1 : env.locals = L) (e2 : env.scope = j4i (KK w.params) 506) (e3 : env.code = .ref 505) (e4 : env.qual = Str.ofString "law" ++ Str.ofString ".<locals>.") (e5 : env.globals = mainGlobals) (e6 : env.builtins = builtinsNs) (e7 : env.frame = some env.locals)
   (e8 : env.scope.kind = .function) (e9 : env.kindOf (Str.ofString "script") = some .local) (e10 : (callerA.deeper env).frames = some [env]) (e11 : (callerA.deeper env).handled = .none) (hun : (callerA.deeper env).units + 10 * 19 < cLine) :
   wpAny (model prog w) (callerA.deeper env) (execs (q5g (KK w.params) 506) env) (fun f s' => f = .ret (.bool true) ∧ (∃ m, Fr B L s'.heap m) ∧ s'.gens = #[] ∧ s'.os = s.os ∧ GrownAll [(500, 498), (474, 472), (505, 503)] s'.heap) (fun _ _ => False) s := by
 obtain ⟨bm, ob, M⟩ := bmod_of_top T
 let u : U := { prog, w, K := KK w.params, p, loose, mg, mb, B, os := s.os, pl := fun a => a == 51, lam := lamOf (KK w.params), tq := fun a => if a = 472 then Str.ofString "_law_text_right.<locals>.<lambda>" else if a = 498 then Str.ofString "_law_matrix_right.<locals>.<lambda>" else Str.ofString "law.<locals>.<lambda>", tbs := [498, 472, 503] }
 have big : sysModules < B.objs.size := Nat.lt_trans (by decide) (Heap.lt_size (X 506 _ rfl))
 have uo : u.At := ⟨⟨X, topRead_of T, bm, ob, M.name, M.ne, M.obj, M.cls, M.dict, M.data⟩, rfl, rfl, rfl, big, rfl, rfl⟩
 let c : Cx := ⟨env, callerA.deeper env, [env], 19⟩
 have ok : c.Ok := ⟨e8, e5, e6, e10, e11, (by show callerA.depth + 1 + 19 < recursionLimit; decide), (by show (callerA.deeper env).units + 10 * 19 < cLine; exact hun), (by show 1 ≤ 19; decide)⟩
 have fn : c.Fn := ⟨[], rfl, e7⟩
 let W : Wd := ⟨fun x => List.lookup x [(Str.ofString "script", Value.ref l)], [], [], [(498, tabObj #[]), (472, tabObj #[]), (503, tabObj #[])], []⟩
 have inv : Inv u c W ⟨[("script", .lst (ns.map .int))], []⟩ s := by
   refine ⟨by rw [show c.env.locals = L from e1]; exact F, by rw [show c.env.locals = L from e1]; exact N, ⟨(by show ([498, 472, 503] : List Addr).Nodup; decide), (fun p hp => by cases hp)⟩, ?_, .nil, ?_, ?_, (fun p hp => by cases hp), ⟨hg, rfl⟩, rfl⟩
   · intro x v hx
     have hx' : x = "script" ∧ v = .lst (ns.map .int) := by
       by_cases q : x = "script"
       · subst q
         exact ⟨rfl, (Option.some.inj hx).symm⟩
       · exfalso
         have q' : (x == "script") = false := by simpa using q
         simp only [St.get, List.lookup, q'] at hx
         cases hx
     obtain ⟨rfl, rfl⟩ := hx'
     refine ⟨fun _ => ?_, fun hh => ?_⟩
     · obtain ⟨o, g1, g2, n, g3⟩ := hl
       exact ⟨.ref l, rfl, .lst (.inr g1) g2 g3 (reps_ints hI)⟩
     · rw [show c.env.kindOf (Str.ofString "script") = some .local from e9] at hh
       rcases hh with hh | hh <;> cases hh
   · intro p hp
     have : p.2 = tabObj #[] := by
       rcases hp with _ | ⟨_, _ | ⟨_, _ | ⟨_, hp⟩⟩⟩
       · rfl
       · rfl
       · rfl
       · cases hp
     exact ⟨#[], this, .nil, fun pos cv hc => by cases hc⟩
   · intro e he
     obtain rfl : e = env := List.mem_singleton.mp he
     exact ⟨by rw [e8]; decide, _, e7, .inl rfl⟩
 have hb : q5g (KK w.params) 506 = D.body := by unfold q5g; rw [D.h1]; dsimp only; rw [D.h2]; dsimp only; rw [D.h3]
 have hsc : j4i (KK w.params) 506 = D.fd.scope := by unfold j4i; rw [D.h1]; dsimp only; rw [D.h2]
 have hs := (D.H uo ok fn (by show 18 ≤ 19; decide) (e2.trans hsc) e3 e4) W _ s inv
 have hv := hD (H := []) hn rfl
 rw [hb]
 revert hs hv
 generalize ev D.d ⟨[("script", .lst (ns.map .int))], []⟩ = r
 intro hs hv
 obtain ⟨v, σ', rfl, hv'⟩ := fin_true hv
 subst hv'
 refine wpAny_mono hs ?_ fun _ _ x => x
 rintro f s' ⟨W', ev, i, hr⟩
 cases hr with
 | ret hr =>
   cases hr
   have F' := i.F
   have N' := i.N
   rw [show c.env.locals = L from e1] at F' N'
   exact ⟨rfl, ⟨_, F'⟩, i.gens.1, i.os, grown_three i.gens.2 i.tb N'⟩
theorem law_end {prog : Program} {w : World} {p : Program} {loose : List Str} {mean : ExcName → Option Value} {mg mb : Str → Option Value} {B : Heap} {env : Env} {L : Addr} {l : Addr} {vs : List Value} {ns : List Int} {s : Shared}
   {Q : Flow → Shared → Prop} {E : Value → Shared → Prop} {b : List Stmt}
   (X : (KK w.params).In B) (T : Top p loose mean mg mb B) (hl : B.IsList l vs.toArray) (hI : IntsAre vs ns) (hn : ¬ (63 : Int) < (ns.length : Int))
   (F : Fr B L s.heap (fun x => List.lookup x [(Str.ofString "script", Value.ref l)])) (N : News B L s.heap [(498, tabObj #[]), (472, tabObj #[]), (503, tabObj #[])]) (hg : s.gens = #[])
   (e1 : env.locals = L) (e2 : env.scope = j4i (KK w.params) 506) (e3 : env.code = .ref 505) (e4 : env.qual = Str.ofString "law" ++ Str.ofString ".<locals>.") (e5 : env.globals = mainGlobals) (e6 : env.builtins = builtinsNs) (e7 : env.frame = some env.locals)
   (e8 : env.scope.kind = .function) (e9 : env.kindOf (Str.ofString "script") = some .local) (e10 : (callerA.deeper env).frames = some [env]) (e11 : (callerA.deeper env).handled = .none) (hun : (callerA.deeper env).units + 10 * 19 < cLine)
   (hb : b = q5g (KK w.params) 506) (hQ : ∀ s' m, Fr B L s'.heap m → s'.gens = #[] → s'.os = s.os → GrownAll [(500, 498), (474, 472), (505, 503)] s'.heap → Q (.ret (.bool true)) s') :
   wpAny (model prog w) (callerA.deeper env) (execs b env) Q E s := hb ▸
 wpAny_mono (law_run W_law law_is X T hl hI (by omega) F N hg e1 e2 e3 e4 e5 e6 e7 e8 e9 e10 e11 hun) (fun f s' ⟨a, ⟨m, b⟩, d, e, g⟩ => by subst a; exact hQ s' m b d e g) fun _ _ x => x.elim
end Mi
end
section
open PySem PySem.W PyProof.Rows
set_option maxHeartbeats 8000000
namespace Mi.fin
theorem t:True:=⟨⟩
theorem tw15975579327638022462:True:=t
theorem tw2305603252544735002:True:=t
theorem tw7902097627955637130:True:=t
theorem tw14063788206897103840:True:=t
theorem tw1435452084422657685:True:=t
theorem tw14162365568364817841:True:=t
theorem tw2152445525610112901:True:=t
theorem tw13489095258707951378:True:=t
theorem tw16697242471078203622:True:=t
theorem tw13713035886584534257:True:=t
theorem tw3264163562244776961:True:=t
theorem tw11227594177075670469:True:=t
theorem tw10428622297564154904:True:=t
theorem tw918999630885065397:True:=t
theorem tw8137167467716143339:True:=t
theorem tw16423081391828979521:True:=t
theorem tw18158492922708330027:True:=t
theorem tw14079765329017056267:True:=t
theorem tw16775930603561724102:True:=t
theorem tw3576118229527904832:True:=t
theorem tw223162372177441792:True:=t
theorem tw5448454874281392247:True:=t
theorem tw18254714145077285544:True:=t
theorem tw9471870267407649229:True:=t
theorem tw5696137335646625032:True:=t
theorem tw3560813815800050603:True:=t
theorem tw1101928631424532621:True:=t
theorem tw11542170898431244423:True:=t
theorem tw16488841741306177223:True:=t
theorem tw2871414850697172369:True:=t
theorem tw16824698926612402711:True:=t
theorem tw9544877866545964146:True:=t
theorem tw5809867466839096794:True:=t
theorem tw14228686051598533446:True:=t
theorem tw7909869494851848369:True:=t
theorem tw16312414410210543241:True:=t
theorem tw10140258905076879903:True:=t
theorem tw11245788189686830160:True:=t
theorem tw11136132865288446869:True:=t
theorem tw1952370654114267120:True:=t
theorem tw6683447034863096264:True:=t
theorem tw3289506998195074771:True:=t
theorem tw9399395458258526317:True:=t
theorem tw16099827687920001512:True:=t
theorem tw11144060199725038623:True:=t
theorem tw1821123301874555920:True:=t
theorem tw4998470665790431313:True:=t
theorem tw634546040727877612:True:=t
theorem tw7773546602262781816:True:=t
theorem tw8374424591444973:True:=t
theorem tw14998177052002001426:True:=t
theorem tw7079122933596599252:True:=t
theorem tw18194303987107110811:True:=t
theorem tw6262838496723597403:True:=t
theorem tw3610805026050770036:True:=t
theorem tw10207065597517547507:True:=t
theorem tw7879292056980408746:True:=t
theorem tw8340761462622646099:True:=t
theorem tw5747916148627955158:True:=t
theorem tw2931879344698995:True:=t
theorem tw1813922924634566988:True:=t
theorem tw14818875077536121361:True:=t
theorem tw13013953802864167791:True:=t
theorem tw1617499433370696189:True:=t
theorem tw7726480881324722452:True:=t
theorem tw17460362052372024533:True:=t
theorem tw10716528977398502261:True:=t
theorem tw887007692651901996:True:=t
theorem tw14625057194154011643:True:=t
theorem tw9159150101455831917:True:=t
theorem tw16357792726325770804:True:=t
theorem tw3345831360186108279:True:=t
theorem tw4628388400939626870:True:=t
theorem tw2011670016482836723:True:=t
theorem tw5032937383997206358:True:=t
theorem tw12640441715450037616:True:=t
theorem tw11737491321910668842:True:=t
theorem tw1347877779440204996:True:=t
theorem tw12275086885093803918:True:=t
theorem tw10991309768528311403:True:=t
theorem tw2336778604588289263:True:=t
theorem tw3121426575090757747:True:=t
theorem tw8625473047916059577:True:=t
theorem tw13463176691511110615:True:=t
theorem tw932062403873114594:True:=t
theorem tw9293655103559111300:True:=t
theorem tw17485451390273425082:True:=t
theorem tw17343547711222271620:True:=t
theorem tw6680962447999443562:True:=t
theorem tw6835916394382983395:True:=t
theorem tw4388367305845071823:True:=t
theorem tw16710959790477505149:True:=t
theorem tw17450276912736418118:True:=t
theorem tw4319199661124709547:True:=t
theorem tw1370512874259582118:True:=t
theorem tw17302837941720191824:True:=t
theorem tw10123138689370605055:True:=t
theorem tw11756262866452015937:True:=t
theorem tw13860071443230709445:True:=t
theorem tw9520211130458764231:True:=t
theorem tw17545794969093364770:True:=t
theorem tw15458267501209255858:True:=t
theorem tw769445440735918531:True:=t
theorem tw13043684824806796753:True:=t
theorem tw16869522863806664303:True:=t
theorem tw16379600395025197393:True:=t
theorem tw2973385550181182761:True:=t
theorem tw18338156248462601917:True:=t
theorem tw5128984306953885723:True:=t
theorem tw6695449196692782190:True:=t
theorem tw9461013904353012846:True:=t
theorem tw12838806968043673932:True:=t
theorem tw10759971895689583453:True:=t
theorem tw4725674860801148130:True:=t
theorem tw18055974955760317849:True:=t
theorem tw4292240867129755510:True:=t
theorem tw1088599931314183116:True:=t
theorem tw18091108271669071325:True:=t
theorem tw18248531676146058509:True:=t
theorem tw17150254473186510447:True:=t
theorem tw15112275930938127061:True:=t
theorem tw4381014502717379472:True:=t
theorem tw14402753918543276748:True:=t
theorem tw3720149911796143037:True:=t
theorem tw11827921280781622689:True:=t
theorem tw8524444921417239909:True:=t
theorem tw2792856448816878079:True:=t
theorem tw7510583128493502508:True:=t
theorem tw8748495845324612115:True:=t
theorem tw16256165785072093976:True:=t
theorem tw17892675501526445501:True:=t
theorem tw5070108422379259381:True:=t
theorem tw12078286705145335321:True:=t
theorem tw13339445609067391551:True:=t
theorem tw16590348562047405687:True:=t
theorem tw9168021250419763660:True:=t
theorem tw10478794142220736276:True:=t
theorem tw18227648671699704536:True:=t
theorem tw8148232812136452047:True:=t
theorem tw11837310963743079093:True:=t
theorem tw5218952299305717352:True:=t
theorem tw18170157692408825517:True:=t
theorem tw6630463819075272593:True:=t
theorem tw12423983562408829530:True:=t
theorem tw4657085778289472639:True:=t
theorem tw11022932649723314491:True:=t
theorem tw15807492263083085696:True:=t
theorem tw1786562360789694121:True:=t
theorem tw6445048459882174776:True:=t
theorem tw4563866484805655712:True:=t
theorem tw5533096788212853408:True:=t
theorem tw8627632585127496400:True:=t
theorem tw5865948687782239290:True:=t
theorem tw2601484478470681770:True:=t
theorem tw1067036085044490625:True:=t
theorem tw8032085609355829335:True:=t
theorem tw11278062136739622881:True:=t
theorem tw326947354422689785:True:=t
theorem tw8070319449759216803:True:=t
theorem tw11033154228744544533:True:=t
theorem tw12306595856636816398:True:=t
theorem tw446071702634576489:True:=t
theorem tw5682585593707009979:True:=t
theorem tw5494988704759923556:True:=t
theorem tw11052012850675698327:True:=t
theorem tw8447800463272898529:True:=t
theorem tw17114383624779094252:True:=t
theorem tw8916971748553505668:True:=t
theorem tw10535151184464607796:True:=t
theorem tw5999629467592719560:True:=t
theorem tw12469025222595086178:True:=t
theorem tw9615582524621451167:True:=t
theorem tw14984380225458905496:True:=t
theorem tw8136317723725185154:True:=t
theorem tw10514113984339671249:True:=t
theorem tw4262592539605412847:True:=t
theorem tw11388210685121449578:True:=t
theorem tw9516161095203845000:True:=t
theorem tw17215112392275042564:True:=t
theorem tw4627433385300043580:True:=t
theorem tw9540611435411497756:True:=t
theorem tw14159124381140364603:True:=t
theorem tw14018310684289816691:True:=t
theorem tw11273611816572552281:True:=t
theorem tw12245513336461856393:True:=t
theorem tw8379154710990647311:True:=t
theorem tw1180088385491138391:True:=t
theorem tw14424449535822958473:True:=t
theorem tw5845888996551655235:True:=t
theorem tw3874604121233001823:True:=t
theorem tw6161842203341341886:True:=t
theorem tw11648476032591253563:True:=t
theorem tw3424402498684615822:True:=t
theorem tw6231200260770656606:True:=t
theorem tw2336912406111926783:True:=t
theorem tw6286241568724603905:True:=t
theorem tw7847380904755690114:True:=t
theorem tw104443969196317171:True:=t
theorem tw14756310213668994246:True:=t
theorem tw7126417289430169330:True:=t
theorem tw17185045488743242385:True:=t
theorem tw2949219950690338161:True:=t
theorem tw4203196648205246128:True:=t
theorem tw7015981525052795920:True:=t
theorem tw11448863505371754605:True:=t
theorem tw12174743186155192776:True:=t
theorem tw1080073515126947556:True:=t
theorem tw14823293765058840747:True:=t
theorem tw4664518742367795325:True:=t
theorem tw4116891870017572715:True:=t
theorem tw11442708934314464329:True:=t
theorem tw17733070291150443069:True:=t
theorem tw16019838788261144184:True:=t
theorem tw3419326821248442160:True:=t
theorem tw8159086512896536707:True:=t
theorem tw14215817142447645205:True:=t
theorem tw16610699620952396423:True:=t
theorem tw2827517343139136121:True:=t
theorem tw5482404083653108944:True:=t
theorem tw14226210720594827739:True:=t
theorem tw10947728911099447585:True:=t
theorem tw15747003298000566748:True:=t
theorem tw16775470411532009780:True:=t
theorem tw17021600115008037010:True:=t
theorem tw4777036848443647474:True:=t
theorem tw8864599729390229380:True:=t
theorem tw14244073449209900955:True:=t
theorem tw6262942546944636135:True:=t
theorem tw6957024559943411129:True:=t
theorem tw16638809932254724806:True:=t
theorem tw3910294355771010936:True:=t
theorem tw13999710937727449161:True:=t
theorem tw2567044571906762063:True:=t
theorem tw5886420376486639780:True:=t
theorem tw4578528754401001872:True:=t
theorem tw9207389294995076386:True:=t
theorem tw17282231219150446972:True:=t
theorem tw8495816313881114681:True:=t
theorem tw3382235580380605917:True:=t
theorem tw10284190527712184610:True:=t
theorem tw6888324548706492879:True:=t
theorem tw17251243916192649558:True:=t
theorem tw8066414678012668439:True:=t
theorem tw4926974051766127582:True:=t
theorem tw5088025938242381173:True:=t
theorem tw17072980598031649676:True:=t
theorem tw189251876708352318:True:=t
theorem tw13635260526840429246:True:=t
theorem tw4419233976495522299:True:=t
theorem tw2355382291388274337:True:=t
theorem tw9925331217066577140:True:=t
theorem tw8196529136686961497:True:=t
theorem tw12044354086901473289:True:=t
theorem tw13111076216501584975:True:=t
theorem tw9168971406340470344:True:=t
theorem tw14921680082478703262:True:=t
theorem tw13273203999513148978:True:=t
theorem tw16239334203832629220:True:=t
theorem tw6303637990329997013:True:=t
theorem tw1238012912629486949:True:=t
theorem tw1982364347867800538:True:=t
theorem tw14908529187305848213:True:=t
theorem tw9721354802383636647:True:=t
theorem tw16683721777717788138:True:=t
theorem tw7278527216123533612:True:=t
theorem tw2175577473122888174:True:=t
theorem tw11488996343918017436:True:=t
theorem tw9512280485358253796:True:=t
theorem tw6833731821611303722:True:=t
theorem tw10586254285247697301:True:=t
theorem tw9120291112423762942:True:=t
theorem tw15162632081902153206:True:=t
theorem tw14769053263592562335:True:=t
theorem tw16767816808575917844:True:=t
theorem tw4247272311975150158:True:=t
theorem tw13239398315045175586:True:=t
theorem tw18052800265310931733:True:=t
theorem tw15342330522365695879:True:=t
theorem tw4224533779594848378:True:=t
theorem tw3809016991675239049:True:=t
theorem tw1346930125500657309:True:=t
theorem tw12391851892262753940:True:=t
theorem tw17442658530996637013:True:=t
theorem tw2987635675667351614:True:=t
theorem tw17475405735943396207:True:=t
theorem tw15290029773539870707:True:=t
theorem tw9558689284983205109:True:=t
theorem tw18080527983763929983:True:=t
theorem tw14743670736102929131:True:=t
theorem tw9760854257364021856:True:=t
theorem tw18214536963862567767:True:=t
theorem tw14914411188977061046:True:=t
theorem tw13795364000303110528:True:=t
theorem tw17253263770560953777:True:=t
theorem tw17443101262865754437:True:=t
theorem tw7831701036911281179:True:=t
theorem tw2785353741073076806:True:=t
theorem tw1772432142766700559:True:=t
theorem tw4092151441546402096:True:=t
theorem tw6016548615424330118:True:=t
theorem tw14789685261372650832:True:=t
theorem tw6651264932677733775:True:=t
theorem tw9800702859281663909:True:=t
theorem tw2867702750386062586:True:=t
theorem tw2209801924491229367:True:=t
theorem tw8659664791172655655:True:=t
theorem tw7963302904434585817:True:=t
theorem tw17253816609779666208:True:=t
theorem tw12843860208987537987:True:=t
theorem tw2791336716944213096:True:=t
theorem tw12453034224605058474:True:=t
theorem tw14699103738272967239:True:=t
theorem tw9039403906546539166:True:=t
theorem tw2932943726995524682:True:=t
theorem tw18139944166622932677:True:=t
theorem tw2508191412462890264:True:=t
theorem tw28064513028607636:True:=t
theorem tw5247612855145167400:True:=t
theorem tw15307787002516959712:True:=t
theorem tw1540951341113646825:True:=t
theorem tw4471479271807248202:True:=t
theorem tw13369987523632470939:True:=t
theorem tw14024113576382073209:True:=t
theorem tw3340050871848995200:True:=t
theorem tw1717444556638631168:True:=t
theorem tw11861300649337800889:True:=t
theorem tw221626596964352730:True:=t
theorem tw3147660323911003295:True:=t
theorem tw3174680406740533992:True:=t
theorem tw13225405903782758007:True:=t
theorem tw58786623389444261:True:=t
theorem tw8038599491882905206:True:=t
theorem tw14987313303209906237:True:=t
theorem tw11363367805504868914:True:=t
theorem tw7032934465185623456:True:=t
theorem tw12534033091541071870:True:=t
theorem tw11532153546532555573:True:=t
theorem tw11304501455324071769:True:=t
theorem tw14820550967409942529:True:=t
theorem tw2543253420054720375:True:=t
theorem tw3669118911244456217:True:=t
theorem tw10643992882600916741:True:=t
theorem tw2963334968905059522:True:=t
theorem tw10796620308027158732:True:=t
theorem tw7335568229454199463:True:=t
theorem tw8807666550473266750:True:=t
theorem tw14205636536045590250:True:=t
theorem tw13145285049590133365:True:=t
theorem tw17260764700211415262:True:=t
theorem tw13187632558330362158:True:=t
theorem tw9275217633358859707:True:=t
theorem tw13068782843559866351:True:=t
theorem tw10313955215712998346:True:=t
theorem tw16063116476735082123:True:=t
theorem tw2835956340275628400:True:=t
theorem tw17322665287880904640:True:=t
theorem tw2189546442867737800:True:=t
theorem tw14575304450715296165:True:=t
theorem tw4349759225779318672:True:=t
theorem tw6923679248068395816:True:=t
theorem tw15264347237629457959:True:=t
theorem tw13194596217561493740:True:=t
theorem tw17791224994633065208:True:=t
theorem tw4317745496172714875:True:=t
theorem tw9381588212052832018:True:=t
theorem tw276757842537588876:True:=t
theorem tw14230816660692289192:True:=t
theorem tw5532143448569788796:True:=t
theorem tw4145839897802821534:True:=t
theorem tw13067989585030455700:True:=t
theorem tw2523847429647746257:True:=t
theorem tw11816966055079384676:True:=t
theorem tw10451404949213847811:True:=t
theorem tw4779059614943492675:True:=t
theorem tw16280194876525976849:True:=t
theorem tw11150396254101428974:True:=t
theorem tw3110640734989156543:True:=t
theorem tw14704775795536290954:True:=t
theorem tw14738522493851433397:True:=t
theorem tw139840874281534423:True:=t
theorem tw4099569331381024515:True:=t
theorem tw2590286055608203909:True:=t
theorem tw3086689993771518729:True:=t
theorem tw14225917085372026979:True:=t
theorem tw15864437166375556773:True:=t
theorem tw16500451725930376104:True:=t
theorem tw1771741672237225769:True:=t
theorem tw10578606480440780870:True:=t
theorem tw509839034897788522:True:=t
theorem tw1083319734574674378:True:=t
theorem tw10307786512594656180:True:=t
theorem tw4963357208128936154:True:=t
theorem tw4392651385547437497:True:=t
theorem tw13047331674437117144:True:=t
theorem tw1022511929681896349:True:=t
theorem tw3795338784427496647:True:=t
theorem tw8861481956385397954:True:=t
theorem tw16680355696684992048:True:=t
theorem tw14323525263347769425:True:=t
theorem tw8291734181235224213:True:=t
theorem tw13615538007458697504:True:=t
theorem tw12321423693304639392:True:=t
theorem tw3805147460013128367:True:=t
theorem tw17171530918310243304:True:=t
theorem tw18357664309431158461:True:=t
theorem tw12801995255174784354:True:=t
theorem tw672335578219065794:True:=t
theorem tw2367937618070022609:True:=t
theorem tw13745895966475094708:True:=t
theorem tw9772314508535891105:True:=t
theorem tw3801764939634593874:True:=t
theorem tw8473415840320807665:True:=t
theorem tw10359248632122659011:True:=t
theorem tw8172101951340213083:True:=t
theorem tw14170436592894087944:True:=t
theorem tw5525103912534627596:True:=t
theorem tw3865652053714582927:True:=t
theorem tw3280360889243805271:True:=t
theorem tw11026977327804989311:True:=t
theorem tw8544977825576342435:True:=t
theorem tw8627554325602379562:True:=t
theorem tw17008664449664408848:True:=t
theorem tw3029896676656165902:True:=t
theorem tw3932899932309088197:True:=t
theorem tw7206168038493572762:True:=t
theorem tw6940705535822005642:True:=t
theorem tw13060552292686515962:True:=t
theorem tw14352036571274954162:True:=t
theorem tw16710004512650947304:True:=t
theorem tw12373316900088068016:True:=t
theorem tw11502145889525720678:True:=t
theorem tw18179038649392071115:True:=t
theorem tw16996189643158955965:True:=t
theorem tw6195022073357425159:True:=t
theorem tw8729791142433886606:True:=t
theorem tw4872248834351144101:True:=t
theorem tw2704197157875873929:True:=t
theorem tw6787600129778231923:True:=t
theorem tw7836623908349436407:True:=t
theorem tw740073495152483392:True:=t
theorem tw904860626695804286:True:=t
theorem tw16616287512077856696:True:=t
theorem tw9741140156942390340:True:=t
theorem tw8459905457265526269:True:=t
theorem tw16458977378947474966:True:=t
theorem tw10831888140971622841:True:=t
theorem tw11005426314900723992:True:=t
theorem tw15736219493788865204:True:=t
theorem tw7810412720371796874:True:=t
theorem tw9369339870869067349:True:=t
theorem tw15543279691323329:True:=t
theorem tw13408510571738572300:True:=t
theorem tw7475286057526913997:True:=t
theorem tw12738648785960362004:True:=t
theorem tw15891079396557564774:True:=t
theorem tw2701047663435493848:True:=t
theorem tw3327851853676308170:True:=t
theorem tw7490929698170818405:True:=t
theorem tw7294161535554393427:True:=t
theorem tw8101480554685213735:True:=t
theorem tw900749523371701866:True:=t
theorem tw9461308280877245028:True:=t
theorem tw15638871152808177488:True:=t
theorem tw9120838691600636712:True:=t
theorem tw15299328957892807590:True:=t
theorem tw15268555149921084851:True:=t
theorem tw3379701644554423329:True:=t
theorem tw3208449368903939508:True:=t
theorem tw3383329063502779234:True:=t
end Mi.fin
set_option Elab.async true in
theorem Mi.fin : PySem.Challenge.rw_pb0443_01.Holds := by
 w_on; o_law; o_head (kmHook Mi.h0.heap_1 [2, 3, 15, 17, 18, 20, 21, 22, 29, 31, 32, 34, 35, 36, 37, 38, 39, 42, 49, 50, 51, 54, 61, 62, 63, 66, 67, 68, 70, 71, 73, 74, 75, 76, 78, 79, 81, 82, 83, 85, 86, 88, 89, 90, 92, 93, 95, 96, 97, 99, 100, 102, 103, 104, 106, 107, 109, 110, 111, 113, 114, 116, 117, 118, 120, 121, 123, 124, 125, 127, 128, 130, 131, 132, 134, 135, 137, 138, 139, 141, 142, 144, 145, 153, 155, 156, 158, 159, 160, 162, 163, 165, 166, 167, 169, 170, 172, 173, 174, 176, 177, 179, 180, 181, 182, 183, 184, 185, 188, 190, 191, 193, 194, 195, 197, 198, 200, 201, 202, 204, 205, 207, 208, 209, 210, 211, 213, 214, 216, 217, 218, 220, 221, 223, 224, 225, 227, 228, 230, 231, 232, 234, 235, 237, 238, 239, 241, 242, 244, 245, 246, 247, 249, 250, 252, 253, 254, 255, 257, 258, 260, 261, 269, 271, 272, 274, 275, 276, 278, 279, 281, 282, 283, 285, 286, 288, 289, 290, 292, 293, 295, 296, 297, 299, 300, 302, 303, 304, 306, 307, 309, 310, 311, 313, 314, 316, 317, 318, 319, 320, 321, 322, 325, 327, 328, 330, 331, 332, 334, 335, 337, 338, 339, 341, 342, 344, 345, 346, 348, 349, 351, 352, 353, 355, 356, 358, 359, 360, 362, 363, 365, 366, 367, 369, 370, 372, 373, 374, 376, 377, 379, 380, 381, 383, 384, 386, 387, 388, 390, 391, 393, 394, 395, 397, 398, 400, 401, 402, 404, 405, 407, 408, 409, 411, 412, 414, 415, 416, 418, 419, 421, 422, 423, 425, 426, 428, 429, 430, 433, 434, 435, 438, 439, 440, 443, 444, 445, 447, 448, 450, 451, 452, 454, 455, 457, 458, 459, 462, 463, 464, 466, 467, 469, 470, 471, 474, 475, 476, 478, 479, 481, 482, 483, 485, 486, 488, 489, 490, 492, 493, 495, 496, 497, 500, 501, 502, 505, 506] (fun _ => by kernel_rfl) [498, 472, 503]); (case hw => w_witness2)
 k_go0
 refine Mi.law_end (by assumption) (by assumption) (by assumption) (by assumption) (by assumption) (by assumption) (by assumption) (by assumption) rfl (by kernel_rfl) rfl rfl rfl rfl rfl rfl rfl rfl rfl (Nat.le_of_ble_eq_true rfl) (by kernel_rfl) ?_
 intro s' m F hg ho hgr
 refine ⟨goodW_bool F hg (raisesW_false ?hn) ?hp ho, hgr⟩
 case hn => wrow_none_raised
 case hp => first | exact postW_of (by wrow_shape) (w_eq_bool (w_res rfl) w_lit) rfl | kc_post | wrow_post
end
theorem PySem.Challenge.cw_pb0443_01_holds : PySem.Challenge.rw_pb0443_01.Holds :=
 Mi.fin
